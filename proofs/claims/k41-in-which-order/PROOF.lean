import PyProof.Rows.All
import Wide.All
import OpenK.AllK
import Wide.FinOn
import HandS.ForMost
import HandS.IsInst
import HandS.TupAny
import HandS.Wide
import KE.KeyNested
import HandS.Nested
import HandS.NestedK
import HandS.EndTab
import HandS.Zip
import HandS.RevTup
import KE.GoesMore
import HandS.Rev
import KE.KRevSl
import KE.GoesEnum
import HandS.NoneIn
import HandS.Flt
import HandS.Dict
import HandS.More
import HandS.Text
import HandS.TupLe
import HandS.DeepEq
import HandS.Codes
import KE.KDictZip
import HandS.Conv
import PyProof.NeKinds
import HandS.ListEq
import HandS.ExcOwn
import HandS.ExcIs
import HandS.WordsExc
import HandS.DictComp
import KE.KDictKeyed
import PySem.Challenge.RW_viewkeep_k41_in_which_order
set_option pp.maxSteps 300
set_option pp.deepTerms false
set_option Elab.async false
set_option linter.all false
set_option maxRecDepth 100000
set_option maxHeartbeats 4000000
/-! VL1: the value layer. Data D, objects O, the store; a def as a function over them; how they lie in HandS's abstract heap. -/
namespace VL
open PySem PySem.Spec PyProof.Rows L2 LamX NdefX

/-- pure data; ref n: the n-th object of the store; glb x: what the module calls x -/
inductive D where
  | non | bl (b : Bool) | int (i : Int) | str (x : Str) | tup (xs : List D) | ref (n : Nat) | glb (x : Str) | ty (n : String) | clo (k : Nat) (cap : List D)
inductive O where
  | lst (xs : List D) | rl (xs : List D) | dic (kvs : List (D × D)) | ins (c : Str) (fs : List (Str × D))
abbrev Sto := List O
abbrev EnvD := List (Option D)
inductive R (A : Type) where
  | ok (a : A) (s : Sto) | ex (c : Str) (s : Sto) | bad
namespace R
variable {A B : Type}
def bind (r : R A) (k : A → Sto → R B) : R B := match r with
  | ok a s => k a s
  | ex c s => ex c s
  | bad => bad
def post (r : R A) (Q : A → Sto → Prop) (X : Str → Sto → Prop) : Prop := match r with
  | ok a s => Q a s
  | ex c s => X c s
  | bad => False
theorem post_bind {r : R A} {k : A → Sto → R B} {Q : B → Sto → Prop} {X : Str → Sto → Prop} : (r.bind k).post Q X ↔ r.post (fun a s => (k a s).post Q X) X := by cases r <;> exact Iff.rfl
theorem post.imp {r : R A} {Q Q' : A → Sto → Prop} {X X' : Str → Sto → Prop} (h : r.post Q X) (hq : ∀ a s, Q a s → Q' a s) (hx : ∀ c s, X c s → X' c s) : r.post Q' X' := by
  cases r with
  | ok a s => exact hq a s h
  | ex c s => exact hx c s h
  | bad => exact h
/-- an exception here is not told -/
def noex (r : R A) : R A := match r with
  | ok a s => ok a s
  | _ => bad
theorem post_noex {r : R A} {Q : A → Sto → Prop} {X X' : Str → Sto → Prop} (h : r.noex.post Q X) : r.post Q X' := by
  cases r with
  | ok a s => exact h
  | ex c s => exact False.elim h
  | bad => exact h
@[simp] theorem bind_ok {a : A} {s : Sto} {k : A → Sto → R B} : (R.ok a s).bind k = k a s := rfl
@[simp] theorem bind_ex {c : Str} {s : Sto} {k : A → Sto → R B} : (R.ex c s : R A).bind k = R.ex c s := rfl
@[simp] theorem bind_bad {k : A → Sto → R B} : (R.bad : R A).bind k = R.bad := rfl
@[simp] theorem noex_ok {a : A} {s : Sto} : (R.ok a s).noex = R.ok a s := rfl
end R

mutual
/-- as a key of a dict -/
def nkey : D → Option NestedKey
  | .non => some .none
  | .bl b => some (.num (if b = true then 1 else 0))
  | .int i => some (.num i)
  | .str x => some (.text x)
  | .tup xs => (nkeys xs).map .tup
  | .ref _ => none
  | .glb _ => none
  | .ty _ => none
  | .clo _ _ => none
def nkeys : List D → Option (List NestedKey)
  | [] => some []
  | x :: xs => (nkey x).bind fun k => (nkeys xs).map fun ks => k :: ks
end

/-- a nested def, a lambda, as its text has it: name, qualified name, parameters; the body (a lambda's: its expression); its scope, its parameters, what it captures, all its names -/
structure NFS where
  name : Str
  qual : Str
  params : Arguments
  body : List Stmt
  lam : Option Expr
  scope : Scope
  ps : List Str
  fr : List Str
  N : List Str
abbrev NFS.nf (S : NFS) (cl : List (Str × Addr)) (c : Addr) : NF := ⟨S.name, S.qual, S.params, S.body, S.scope, cl, c⟩
/-- the function object of a lambda -/
def LamO (f : Addr) (S : NFS) (e : Expr) (cl : List (Str × Addr)) (c : Addr) : HO := .ext fun h => ∃ (od : Option Addr) (sl : Array (Option Value)) (pm ctv : Value), h.get? f = some (⟨.type "function", od, .func (PySem.W.kla_fn S.name S.qual S.params e S.scope cl pm (.ref c) ctv), sl⟩ : Obj)
def CloO (f : Addr) (S : NFS) (cl : List (Str × Addr)) (c : Addr) : HO := match S.lam with
  | none => FnO f (S.nf cl c)
  | some e => LamO f S e cl c
/-- a cell that holds w -/
def CellO (c : Addr) (w : V) : HO := .ext fun h => ∃ u, L2.RelV w u ∧ h.IsCell c (some u)
/-- tables of code objects (each tells one name); the nested defs by number -/
structure Tb where
  T : List (Addr × Str)
  nf : Nat → Option NFS
def B0 : Tb := ⟨[], fun _ => none⟩
/-- what is fixed through the law -/
structure G where
  P : Program
  w : World
  K : PySem.W.Frag
  mg : Str → Option Value
  B : Tb
abbrev gOf (B : Tb) (X : Cx) : G := ⟨X.prog, X.w, X.K, X.mg, B⟩
/-- the heap without the cells -/
def less (H : Hp) (cl : List (Str × Addr)) : Hp := fun b => if b ∈ cl.map (·.2) then none else H b
/-- a made function at f, its captured cells hold ws -/
structure CloAt (q : List Addr) (H : Hp) (f : Addr) (S : NFS) (cl : List (Str × Addr)) (c : Addr) (ws : List V) : Prop where
  fn : H f = some (CloO f S cl c)
  fq : f ∉ q
  code : H c = some (CodeO c S.qual)
  cq : c ∉ q
  all : ∀ p ∈ cl, p.2 ∉ q ∧ ∃ w, H p.2 = some (CellO p.2 w)
  inj : ∀ x y a, cl.lookup x = some a → cl.lookup y = some a → x = y
  len : ws.length = S.fr.length
  has : ∀ (i : Nat) (y : Str), S.fr[i]? = some y → ∃ a w, cl.lookup y = some a ∧ ws[i]? = some w ∧ H a = some (CellO a w)

mutual
inductive RD (g : G) (q : List Addr) : Hp → V → D → Prop
  | non {H : Hp} : RD g q H .non .non
  | bl {H : Hp} (b : Bool) : RD g q H (.bl b) (.bl b)
  | int {H : Hp} (i : Int) : RD g q H (.int i) (.int i)
  | str {H : Hp} (x : Str) : RD g q H (.str x) (.str x)
  | tup {H : Hp} {a : Addr} {xs : List V} {ds : List D} : SqT g.K H a xs → RDs g q H xs ds → RD g q H (.ref a) (.tup ds)
  | ref {H : Hp} {n : Nat} {a : Addr} : q[n]? = some a → RD g q H (.ref a) (.ref n)
  | glb {H : Hp} {x : Str} {a : Addr} : g.mg x = some (.ref a) → RD g q H (.ref a) (.glb x)
  | ty {H : Hp} (n : String) : RD g q H (.ty n) (.ty n)
  | clo {H : Hp} {f : Addr} {k : Nat} {cap : List D} {S : NFS} {cl : List (Str × Addr)} {c : Addr} {ws : List V} : g.B.nf k = some S → CloAt q H f S cl c ws → RDs g q (less H cl) ws cap → RD g q H (.ref f) (.clo k cap)
inductive RDs (g : G) (q : List Addr) : Hp → List V → List D → Prop
  | nil {H : Hp} : RDs g q H [] []
  | cons {H : Hp} {v : V} {vs : List V} {d : D} {ds : List D} : RD g q H v d → RDs g q H vs ds → RDs g q H (v :: vs) (d :: ds)
end

/-- something but a table stands there -/
def Live (H : Hp) (a : Addr) : Prop := ∃ o, H a = some o ∧ ∀ ps, o ≠ .tbl ps
/-- the later heap has the tuples of the earlier one, and all that is no place of the store; the later places begin as the earlier ones -/
structure Ext (q : List Addr) (H : Hp) (q' : List Addr) (H' : Hp) : Prop where
  pre : ∃ m, q' = q ++ m ∧ ∀ a ∈ m, ¬ Live H a
  tup : ∀ a xs, Rd H a (.tup xs) → Rd H' a (.tup xs)
  rest : ∀ a o, H a = some o → a ∉ q → (∀ ps, o ≠ .tbl ps) → H' a = some o
  live : ∀ a, Live H a → Live H' a
theorem Ext.refl {q : List Addr} {H : Hp} : Ext q H q H := ⟨⟨[], by simp⟩, fun _ _ h => h, fun _ _ h _ _ => h, fun _ h => h⟩
theorem Ext.trans {q q1 q2 : List Addr} {H H1 H2 : Hp} (a : Ext q H q1 H1) (b : Ext q1 H1 q2 H2) : Ext q H q2 H2 := by
  obtain ⟨m, rfl, hm⟩ := a.pre
  obtain ⟨m', rfl, hm'⟩ := b.pre
  refine ⟨⟨m ++ m', by simp, fun c hc => ?_⟩, fun c xs h => b.tup c xs (a.tup c xs h), fun c o h n t => ?_, fun c h => b.live c (a.live c h)⟩
  · rcases List.mem_append.mp hc with h | h
    · exact hm c h
    · exact fun z => hm' c h (a.live c z)
  · refine b.rest c o (a.rest c o h n t) (fun z => ?_) t
    rcases List.mem_append.mp z with z | z
    · exact n z
    · exact hm c z ⟨o, h, t⟩
theorem Ext.notin {q q' : List Addr} {H H' : Hp} (e : Ext q H q' H') {a : Addr} (l : Live H a) (n : a ∉ q) : a ∉ q' := by
  obtain ⟨m, rfl, hm⟩ := e.pre
  intro z
  rcases List.mem_append.mp z with z | z
  · exact n z
  · exact hm a z l
theorem less_some {H : Hp} {cl : List (Str × Addr)} {a : Addr} {o : HO} : less H cl a = some o ↔ a ∉ cl.map (·.2) ∧ H a = some o := by
  by_cases h : a ∈ cl.map (·.2)
  · constructor
    · intro z; unfold less at z; rw [if_pos h] at z; cases z
    · intro z; exact absurd h z.1
  · constructor
    · intro z; unfold less at z; rw [if_neg h] at z; exact ⟨h, z⟩
    · intro z; unfold less; rw [if_neg h]; exact z.2
theorem less_rd {H : Hp} {cl : List (Str × Addr)} {a : Addr} {u : HO} : Rd (less H cl) a u ↔ a ∉ cl.map (·.2) ∧ Rd H a u := by
  constructor
  · rintro (h | ⟨o, h⟩)
    · exact ⟨(less_some.mp h).1, .inl (less_some.mp h).2⟩
    · exact ⟨(less_some.mp h).1, .inr ⟨o, (less_some.mp h).2⟩⟩
  · rintro ⟨n, h | ⟨o, h⟩⟩
    · exact .inl (less_some.mpr ⟨n, h⟩)
    · exact .inr ⟨o, less_some.mpr ⟨n, h⟩⟩
theorem less_live {H : Hp} {cl : List (Str × Addr)} {a : Addr} : Live (less H cl) a ↔ a ∉ cl.map (·.2) ∧ Live H a := by
  constructor
  · rintro ⟨o, h, t⟩
    exact ⟨(less_some.mp h).1, o, (less_some.mp h).2, t⟩
  · rintro ⟨n, o, h, t⟩
    exact ⟨o, less_some.mpr ⟨n, h⟩, t⟩
theorem Ext.less {q q' : List Addr} {H H' : Hp} (e : Ext q H q' H') (cl : List (Str × Addr)) : Ext q (less H cl) q' (VL.less H' cl) := by
  obtain ⟨m, rfl, hm⟩ := e.pre
  exact ⟨⟨m, rfl, fun a ha z => hm a ha (less_live.mp z).2⟩, fun a xs h => less_rd.mpr ⟨(less_rd.mp h).1, e.tup a xs (less_rd.mp h).2⟩, fun a o h n t => less_some.mpr ⟨(less_some.mp h).1, e.rest a o (less_some.mp h).2 n t⟩, fun a h => less_live.mpr ⟨(less_live.mp h).1, e.live a (less_live.mp h).2⟩⟩
theorem cloO_ne {f : Addr} {S : NFS} {cl : List (Str × Addr)} {c : Addr} (ps : Array Value) : CloO f S cl c ≠ .tbl ps := by
  unfold CloO
  split
  · exact fnO_ne ps
  · intro z; unfold LamO at z; cases z
theorem cellO_ne {c : Addr} {w : V} (ps : Array Value) : CellO c w ≠ .tbl ps := fun z => by unfold CellO at z; cases z
theorem CloAt.ext {q q' : List Addr} {H H' : Hp} {f : Addr} {S : NFS} {cl : List (Str × Addr)} {c : Addr} {ws : List V} (e : Ext q H q' H') (x : CloAt q H f S cl c ws) : CloAt q' H' f S cl c ws where
  fn := e.rest _ _ x.fn x.fq cloO_ne
  fq := e.notin ⟨_, x.fn, cloO_ne⟩ x.fq
  code := e.rest _ _ x.code x.cq codeO_ne
  cq := e.notin ⟨_, x.code, codeO_ne⟩ x.cq
  all := fun p h => by
    obtain ⟨n, w, z⟩ := x.all p h
    exact ⟨e.notin ⟨_, z, cellO_ne⟩ n, w, e.rest _ _ z n cellO_ne⟩
  inj := x.inj
  len := x.len
  has := fun i y h => by
    obtain ⟨a, w, h1, h2, h3⟩ := x.has i y h
    exact ⟨a, w, h1, h2, e.rest _ _ h3 (x.all (y, a) (PySem.mem_of_lookup h1)).1 cellO_ne⟩
theorem Ext.at {q q' : List Addr} {H H' : Hp} (e : Ext q H q' H') {n : Nat} {a : Addr} (h : q[n]? = some a) : q'[n]? = some a := by
  obtain ⟨m, rfl, _⟩ := e.pre
  rw [List.getElem?_append_left (List.getElem?_eq_some_iff.mp h).1]
  exact h
theorem Rd.same {H H' : Hp} {a : Addr} {u : HO} (s : Same H H') (h : Rd H a u) : Rd H' a u := by
  rcases h with h | ⟨o, h⟩
  · exact .inl (s _ _ h)
  · exact .inr ⟨o, s _ _ h⟩
theorem Same.live {H H' : Hp} (s : Same H H') {a : Addr} (h : Live H a) : Live H' a := let ⟨o, h1, h2⟩ := h; ⟨o, s _ _ h1, h2⟩
theorem Same.ext {q : List Addr} {p : Addr} {H H' : Hp} (s : Same H H') (hp : H p = none) : Ext q H (q ++ [p]) H' := ⟨⟨[p], rfl, fun a ha ⟨o, h, _⟩ => by
  rw [List.mem_singleton] at ha
  subst ha
  rw [hp] at h
  cases h⟩, fun _ _ h => Rd.same s h, fun _ _ h _ _ => s _ _ h, fun _ h => Same.live s h⟩
theorem Same.ext0 {q : List Addr} {H H' : Hp} (s : Same H H') : Ext q H q H' := ⟨⟨[], by simp⟩, fun _ _ h => Rd.same s h, fun _ _ h _ _ => s _ _ h, fun _ h => Same.live s h⟩
theorem same_upd {H : Hp} {p : Addr} {o : HO} (h : H p = none) : Same H (upd H p o) := fun b x e => by
  rw [upd_ne (ne_of_none e h)]
  exact e
theorem sqT_ext {K : PySem.W.Frag} {q q' : List Addr} {H H' : Hp} {a : Addr} {xs : List V} (e : Ext q H q' H') (h : SqT K H a xs) : SqT K H' a xs := by
  rcases h with h | h
  · exact .inl (e.tup _ _ h)
  · exact .inr h

section
variable {g : G} {q q' : List Addr}
mutual
theorem RD.ext {H H' : Hp} (e : Ext q H q' H') : ∀ {v : V} {d : D}, RD g q H v d → RD g q' H' v d
  | _, _, .non => .non
  | _, _, .bl b => .bl b
  | _, _, .int i => .int i
  | _, _, .str x => .str x
  | _, _, .tup h r => .tup (sqT_ext e h) (RDs.ext e r)
  | _, _, .ref h => .ref (e.at h)
  | _, _, .glb h => .glb h
  | _, _, .ty n => .ty n
  | _, _, .clo h x r => .clo h (x.ext e) (RDs.ext (e.less _) r)
theorem RDs.ext {H H' : Hp} (e : Ext q H q' H') : ∀ {vs : List V} {ds : List D}, RDs g q H vs ds → RDs g q' H' vs ds
  | _, _, .nil => .nil
  | _, _, .cons r t => .cons (RD.ext e r) (RDs.ext e t)
end
variable {H H' : Hp}
theorem RDs.length : ∀ {vs : List V} {ds : List D}, RDs g q H vs ds → vs.length = ds.length
  | _, _, .nil => rfl
  | _, _, .cons _ t => by rw [List.length_cons, List.length_cons, RDs.length t]
theorem RDs.get : ∀ {vs : List V} {ds : List D} {i : Nat} {d : D}, RDs g q H vs ds → ds[i]? = some d → ∃ v, vs[i]? = some v ∧ RD g q H v d
  | _, _, _, _, .nil, e => by simp at e
  | _, _, 0, _, .cons r _, e => by simp at e; subst e; exact ⟨_, rfl, r⟩
  | _, _, i + 1, d, .cons _ t, e => by
    obtain ⟨v, h1, h2⟩ := RDs.get (i := i) (d := d) t (by simpa using e)
    exact ⟨v, by simpa using h1, h2⟩
theorem RDs.getV {vs : List V} {ds : List D} {i : Nat} {v : V} (r : RDs g q H vs ds) (e : vs[i]? = some v) : ∃ d, ds[i]? = some d ∧ RD g q H v d := by
  have hl : i < ds.length := by rw [← r.length]; exact (List.getElem?_eq_some_iff.mp e).1
  obtain ⟨v', h1, h2⟩ := r.get (List.getElem?_eq_getElem hl)
  rw [e] at h1; cases h1
  exact ⟨_, List.getElem?_eq_getElem hl, h2⟩
theorem RDs.append : ∀ {vs ws : List V} {ds es : List D}, RDs g q H vs ds → RDs g q H ws es → RDs g q H (vs ++ ws) (ds ++ es)
  | _, _, _, _, .nil, s => s
  | _, _, _, _, .cons r t, s => .cons r (RDs.append t s)
theorem RDs.take : ∀ {vs : List V} {ds : List D} (n : Nat), RDs g q H vs ds → RDs g q H (vs.take n) (ds.take n)
  | _, _, 0, _ => .nil
  | _, _, _ + 1, .nil => .nil
  | _, _, n + 1, .cons r t => .cons r (RDs.take n t)
theorem RDs.drop : ∀ {vs : List V} {ds : List D} (n : Nat), RDs g q H vs ds → RDs g q H (vs.drop n) (ds.drop n)
  | _, _, 0, r => r
  | _, _, _ + 1, .nil => .nil
  | _, _, n + 1, .cons _ t => RDs.drop n t
theorem RDs.set {v : V} {d : D} (r : RD g q H v d) : ∀ {vs : List V} {ds : List D} (i : Nat), RDs g q H vs ds → RDs g q H (vs.set i v) (ds.set i d)
  | _, _, _, .nil => .nil
  | _, _, 0, .cons _ t => .cons r t
  | _, _, i + 1, .cons q t => .cons q (RDs.set r i t)
theorem RDs.reverse : ∀ {vs : List V} {ds : List D}, RDs g q H vs ds → RDs g q H vs.reverse ds.reverse
  | _, _, .nil => .nil
  | _, _, .cons r t => by
    rw [List.reverse_cons, List.reverse_cons]
    exact (RDs.reverse t).append (.cons r .nil)
theorem RDs.dropLast {vs : List V} {ds : List D} (h : RDs g q H vs ds) : RDs g q H vs.dropLast ds.dropLast := by
  rw [List.dropLast_eq_take, List.dropLast_eq_take, h.length]
  exact h.take _
theorem RDs.ints : ∀ {ns : List Int}, RDs g q H (ns.map V.int) (ns.map D.int)
  | [] => .nil
  | n :: ns => .cons (.int n) RDs.ints
end

/-- the raw dict at a: its entries by their keys, the keys' tuples, the values -/
def rawK (g : G) (a : Addr) (xs : List (NestedKey × Addr × Value)) (h : Heap) : Prop :=
  (a == sysModules) = false ∧ ∃ o es ep, h.get? a = some o ∧ o.ExactDict ∧ o.data = .dict es ep ∧ es.toList = xs.map (entryOfKey (nestedKind g.P g.w)) ∧ (xs.map (·.1)).Nodup
/-- a dict whose keys are tuples -/
def RowDict (g : G) (q : List Addr) (H : Hp) (a : Addr) (kvs : List (D × D)) : Prop :=
  (kvs ≠ [] ∧ kvs.length ≤ sizeLine) ∧ ∃ xs : List (NestedKey × Addr × Value), H a = some (.ext (rawK g a xs)) ∧
    Paired (fun (p : D × D) (x : NestedKey × Addr × Value) => nkey p.1 = some x.1 ∧ x.1.depth ≤ 8 ∧ RD g q H (.ref x.2.1) p.1 ∧ ∃ v, RelV v x.2.2 ∧ RD g q H v p.2) kvs xs
/-- a key that is an int or a text -/
def dK : Key → D
  | .inl i => .int i
  | .inr x => .str x
/-- a list that is read and never written: locked, or of the written part -/
def RoL (K : PySem.W.Frag) (H : Hp) (a : Addr) (xs : List V) : Prop :=
  (∃ ob, H a = some (.frz ob (.lst xs))) ∨ ∃ (o : Obj) (its : Array Value) (n : Nat), K.lookup a = some o ∧ o.cls = .type "list" ∧ o.dict = none ∧ o.data = .seq its n ∧ its.size ≤ sizeLine ∧ Vals xs its.toList
theorem RoL.sq {K : PySem.W.Frag} {H : Hp} {a : Addr} {xs : List V} (h : RoL K H a xs) : SqL K H a xs := by
  rcases h with ⟨ob, h⟩ | h
  · exact .inl (.inr ⟨ob, h⟩)
  · exact .inr h
def RO (g : G) (q : List Addr) (H : Hp) (a : Addr) : O → Prop
  | .lst ds => ∃ xs, H a = some (.lst xs) ∧ RDs g q H xs ds
  | .rl ds => ∃ xs, RoL g.K H a xs ∧ RDs g q H xs ds
  | .dic kvs => (∃ gs : List (Key × V), H a = some (.dK gs) ∧ Paired (fun (p : D × D) (x : Key × V) => p.1 = dK x.1 ∧ RD g q H x.2 p.2) kvs gs) ∨ RowDict g q H a kvs
  | .ins c fs => ∃ C dx gs, g.mg c = some (.ref C) ∧ H a = some (.ins C dx gs) ∧ Paired (fun (p : Str × D) (x : Str × V) => p.1 = x.1 ∧ RD g q H x.2 p.2) fs gs
/-- the store as it lies: q, its objects' places -/
structure RS (g : G) (q : List Addr) (H : Hp) (st : Sto) : Prop where
  len : q.length = st.length
  nd : ∀ (m n : Nat) (a : Addr), q[m]? = some a → q[n]? = some a → m = n ∨ (∃ xs, st[m]? = some (.rl xs)) ∨ ∃ xs, st[n]? = some (.rl xs)
  at_ : ∀ (n : Nat) (a : Addr) (o : O), q[n]? = some a → st[n]? = some o → RO g q H a o
  tabs : Tabs g.B.T H
/-- the names' values -/
def RE (g : G) (q : List Addr) (H : Hp) (sg : L2.St) (env : EnvD) : Prop := Paired (fun (v : Option V) (d : Option D) => ∀ x, d = some x → ∃ y, v = some y ∧ RD g q H y x) sg env

section
variable {g : G} {q q' : List Addr} {H H' : Hp} {a : Addr} {o : O} {st : Sto} {sg : L2.St} {env : EnvD}
/-- an object that stands as it stood -/
theorem RO.stay (e : Ext q H q' H') (h0 : H' a = H a) (r : RO g q H a o) : RO g q' H' a o := by
  cases o with
  | lst ds => obtain ⟨xs, h, r⟩ := r; exact ⟨xs, h0.trans h, r.ext e⟩
  | rl ds =>
    obtain ⟨xs, h, r⟩ := r
    refine ⟨xs, ?_, r.ext e⟩
    rcases h with ⟨ob, h⟩ | h
    · exact .inl ⟨ob, h0.trans h⟩
    · exact .inr h
  | dic kvs =>
    rcases r with ⟨gs, h, r⟩ | ⟨hz, xs, h, r⟩
    · exact .inl ⟨gs, h0.trans h, Paired.mapP r fun p x z => ⟨z.1, z.2.ext e⟩⟩
    · exact .inr ⟨hz, xs, h0.trans h, Paired.mapP r fun p x ⟨z1, z2, z3, v, z4, z5⟩ => ⟨z1, z2, z3.ext e, v, z4, z5.ext e⟩⟩
  | ins c fs =>
    obtain ⟨C, dx, gs, hc, h, r⟩ := r
    exact ⟨C, dx, gs, hc, h0.trans h, Paired.mapP r fun p x z => ⟨z.1, z.2.ext e⟩⟩
/-- it is tracked, or a list of the written part (then nothing of the heap is asked) -/
theorem RO.there (r : RO g q H a o) : H a ≠ none ∨ ((∃ xs, o = O.rl xs) ∧ ∀ q' H', Ext q H q' H' → RO g q' H' a o) := by
  cases o with
  | lst ds => obtain ⟨xs, h, _⟩ := r; exact .inl (by rw [h]; simp)
  | rl ds =>
    obtain ⟨xs, h, r⟩ := r
    rcases h with ⟨ob, h⟩ | h
    · exact .inl (by rw [h]; simp)
    · exact .inr ⟨⟨ds, rfl⟩, fun q' H' e => ⟨xs, .inr h, r.ext e⟩⟩
  | dic kvs =>
    rcases r with ⟨gs, h, _⟩ | ⟨_, xs, h, _⟩
    · exact .inl (by rw [h]; simp)
    · exact .inl (by rw [h]; simp)
  | ins c fs => obtain ⟨C, dx, gs, _, h, _⟩ := r; exact .inl (by rw [h]; simp)
theorem RO.same (s : Same H H') (r : RO g q H a o) : RO g q H' a o := by
  rcases r.there with h | ⟨_, h⟩
  · cases e : H a with
    | some u => exact RO.stay (Same.ext0 s) ((s _ _ e).trans e.symm) r
    | none => exact absurd e h
  · exact h _ _ (Same.ext0 s)
theorem RS.same (s : Same H H') (r : RS g q H st) : RS g q H' st := ⟨r.len, r.nd, fun n a o h1 h2 => (r.at_ n a o h1 h2).same s, r.tabs.ext fun b o e => s b o e⟩
theorem RS.get (r : RS g q H st) {n : Nat} {o : O} (h : st[n]? = some o) : ∃ a, q[n]? = some a ∧ RO g q H a o := by
  have hl : n < q.length := by rw [r.len]; exact (List.getElem?_eq_some_iff.mp h).1
  exact ⟨_, List.getElem?_eq_getElem hl, r.at_ n _ o (List.getElem?_eq_getElem hl) h⟩
theorem RE.ext (e : Ext q H q' H') (r : RE g q H sg env) : RE g q' H' sg env := Paired.mapP r fun v d z x hx => let ⟨y, h1, h2⟩ := z x hx; ⟨y, h1, h2.ext e⟩
theorem Paired.at? {A B : Type} {F : A → B → Prop} : ∀ {l : List A} {m : List B} {i : Nat} {b : B}, Paired F l m → m[i]? = some b → ∃ a, l[i]? = some a ∧ F a b
  | _, _, _, _, .nil, h => by simp at h
  | _, _, 0, _, .cons r _, h => by simp at h; subst h; exact ⟨_, rfl, r⟩
  | _, _, i + 1, b, .cons _ t, h => by
    obtain ⟨a, h1, h2⟩ := Paired.at? (i := i) (b := b) t (by simpa using h)
    exact ⟨a, by simpa using h1, h2⟩
theorem Paired.set_ {A B : Type} {F : A → B → Prop} {a : A} {b : B} (r : F a b) : ∀ {l : List A} {m : List B} (i : Nat), Paired F l m → Paired F (l.set i a) (m.set i b)
  | _, _, _, .nil => .nil
  | _, _, 0, .cons _ t => .cons r t
  | _, _, i + 1, .cons q t => .cons q (Paired.set_ r i t)
theorem Paired.app {A B : Type} {F : A → B → Prop} : ∀ {l l' : List A} {m m' : List B}, Paired F l m → Paired F l' m' → Paired F (l ++ l') (m ++ m')
  | _, _, _, _, .nil, s => s
  | _, _, _, _, .cons r t, s => .cons r (Paired.app t s)
theorem RE.get (r : RE g q H sg env) {i : Nat} {d : D} (h : env[i]? = some (some d)) : ∃ v, sg[i]? = some (some v) ∧ RD g q H v d := by
  obtain ⟨ov, h1, h2⟩ := Paired.at? r h
  obtain ⟨y, rfl, h3⟩ := h2 d rfl
  exact ⟨y, h1, h3⟩
theorem RE.set (r : RE g q H sg env) {i : Nat} {v : V} {d : D} (h : RD g q H v d) : RE g q H (sg.set i (some v)) (env.set i (some d)) := Paired.set_ (fun x e => by cases e; exact ⟨v, rfl, h⟩) i r
/-- a new object of the store -/
theorem RS.new (r : RS g q H st) {p : Addr} {u : HO} (hp : H p = none) (ho : RO g (q ++ [p]) (upd H p u) p o) : RS g (q ++ [p]) (upd H p u) (st ++ [o]) := by
  have s := same_upd (o := u) hp
  have low : ∀ {n : Nat} {a : Addr}, q[n]? = some a → n < st.length := fun h => by rw [← r.len]; exact (List.getElem?_eq_some_iff.mp h).1
  have fresh : ∀ n, q[n]? = some p → ∃ xs, (st ++ [o])[n]? = some (O.rl xs) := fun n hn => by
    have hl := low hn
    rcases (r.at_ n p _ hn (List.getElem?_eq_getElem hl)).there with h | ⟨⟨xs, h⟩, _⟩
    · exact absurd hp h
    · exact ⟨xs, by rw [List.getElem?_append_left hl, List.getElem?_eq_getElem hl, h]⟩
  have last : ∀ {n : Nat} {a : Addr}, ¬ n < q.length → (q ++ [p])[n]? = some a → n = q.length ∧ a = p := fun {n a} hn h => by
    have e : n = q.length := by
      have := (List.getElem?_eq_some_iff.mp h).1
      rw [List.length_append, List.length_singleton] at this
      omega
    subst e
    rw [List.getElem?_append_right (Nat.le_refl _), Nat.sub_self] at h
    simp at h
    exact ⟨rfl, h.symm⟩
  refine ⟨by simp [r.len], fun m n a h1 h2 => ?_, fun n a x h1 h2 => ?_, r.tabs.ext fun b o e => s b o e⟩
  · by_cases hm : m < q.length
    · by_cases hn : n < q.length
      · rw [List.getElem?_append_left hm] at h1
        rw [List.getElem?_append_left hn] at h2
        rw [List.getElem?_append_left (low h1), List.getElem?_append_left (low h2)]
        exact r.nd m n a h1 h2
      · obtain ⟨_, rfl⟩ := last hn h2
        rw [List.getElem?_append_left hm] at h1
        exact .inr (.inl (fresh m h1))
    · obtain ⟨e1, rfl⟩ := last hm h1
      by_cases hn : n < q.length
      · rw [List.getElem?_append_left hn] at h2
        exact .inr (.inr (fresh n h2))
      · obtain ⟨e2, _⟩ := last hn h2
        exact .inl (e1.trans e2.symm)
  · by_cases hn : n < q.length
    · rw [List.getElem?_append_left hn] at h1
      rw [List.getElem?_append_left (low h1)] at h2
      have z := r.at_ n a x h1 h2
      rcases z.there with h | ⟨_, h⟩
      · have hne : a ≠ p := fun e => h (by rw [e]; exact hp)
        exact z.stay (Same.ext s hp) (upd_ne hne)
      · exact h _ _ (Same.ext s hp)
    · obtain ⟨rfl, rfl⟩ := last hn h1
      rw [r.len, List.getElem?_append_right (Nat.le_refl _), Nat.sub_self] at h2
      simp at h2
      subst h2
      exact ho
/-- an object of the store written -/
theorem RS.put' (r : RS g q H st) {n : Nat} {u : HO} (ha : q[n]? = some a) (h0 : ∀ xs, st[n]? ≠ some (O.rl xs)) (mu : Mut (H a)) (nx : ∀ φ, H a ≠ some (.ext φ)) (hu : ∀ ps, u ≠ .tbl ps) (ho : Ext q H q (upd H a u) → RO g q (upd H a u) a o) : RS g q (upd H a u) (st.set n o) ∧ Ext q H q (upd H a u) := by
  have hin : a ∈ q := List.mem_of_getElem? ha
  have ext : Ext q H q (upd H a u) := ⟨⟨[], by simp⟩, fun b xs h => by
    have hb : b ≠ a := fun e => by
      subst e
      rcases h with h | ⟨ob, h⟩
      · rw [h] at mu; exact mu
      · rw [h] at mu; exact mu
    rcases h with h | ⟨ob, h⟩
    · exact .inl (by rw [upd_ne hb]; exact h)
    · exact .inr ⟨ob, by rw [upd_ne hb]; exact h⟩, fun b o h n _ => by
      have hb : b ≠ a := fun e => n (by rw [e]; exact hin)
      rw [upd_ne hb]; exact h, fun b ⟨o, h, t⟩ => by
      by_cases hb : b = a
      · subst hb; exact ⟨u, upd_same, hu⟩
      · exact ⟨o, by rw [upd_ne hb]; exact h, t⟩⟩
  have tabs : Tabs g.B.T (upd H a u) := fun p hp => by
    obtain ⟨ps, h1, h2, h3⟩ := r.tabs p hp
    have n1 : p.1 ≠ a := fun e => by rw [← e, h1] at mu; exact mu
    refine ⟨ps, by rw [upd_ne n1]; exact h1, h2, fun pos cv hc => ?_⟩
    obtain ⟨c, e1, e2⟩ := h3 pos cv hc
    refine ⟨c, e1, ?_⟩
    rw [upd_ne]
    · exact e2
    · intro e
      rw [e] at e2
      unfold CodeO at e2
      exact nx _ e2
  have hl : n < st.length := by rw [← r.len]; exact (List.getElem?_eq_some_iff.mp ha).1
  have other : ∀ m : Nat, q[m]? = some a → m ≠ n → ∃ xs, st[m]? = some (O.rl xs) := fun m hm hne => by
    rcases r.nd m n a hm ha with z | z | ⟨xs, z⟩
    · exact absurd z hne
    · exact z
    · exact absurd z (h0 xs)
  refine ⟨⟨by simp [r.len], fun m k b h1 h2 => ?_, fun m b x h1 h2 => ?_, tabs⟩, ext⟩
  · by_cases e : m = k
    · exact .inl e
    · have keep : ∀ {j : Nat} {xs : List D}, st[j]? = some (O.rl xs) → (st.set n o)[j]? = some (O.rl xs) := fun {j xs} z => by
        have : n ≠ j := fun e => h0 xs (by rw [e]; exact z)
        rw [List.getElem?_set_ne this]; exact z
      rcases r.nd m k b h1 h2 with z | ⟨xs, z⟩ | ⟨xs, z⟩
      · exact .inl z
      · exact .inr (.inl ⟨xs, keep z⟩)
      · exact .inr (.inr ⟨xs, keep z⟩)
  · by_cases e : m = n
    · subst e
      rw [ha] at h1; cases h1
      rw [List.getElem?_set_self hl] at h2
      cases h2
      exact ho ext
    · rw [List.getElem?_set_ne (Ne.symm e)] at h2
      have z := r.at_ m b x h1 h2
      by_cases hb : b = a
      · subst hb
        obtain ⟨xs, hx⟩ := other m h1 e
        rw [h2] at hx; cases hx
        obtain ⟨ys, hy, ry⟩ := z
        rcases hy with ⟨ob, hy⟩ | hy
        · rw [hy] at mu; exact False.elim mu
        · exact ⟨ys, .inr hy, ry.ext ext⟩
      · exact z.stay ext (upd_ne hb)
end
end VL

/-! VL2: readings by functions of the store; expressions, tests, statements. -/
namespace L2
open PySem PySem.Spec PyProof.Rows
section
variable {X : Cx}
theorem PE.imp {e : Expr} {t t' : TE} (h : PE X e t) (i : ∀ sg H Q, t' sg H Q → t sg H Q) : PE X e t' := ⟨fun pins s sg H Q I w => h.run pins s sg H Q I (i _ _ _ w)⟩
theorem PT.imp {e : Expr} {t t' : TT} (h : PT X e t) (i : ∀ sg H Q, t' sg H Q → t sg H Q) : PT X e t' := ⟨fun pins s sg H Q I w => h.run pins s sg H Q I (i _ _ _ w)⟩
theorem PW.imp {e : Expr} {t t' : TT} (h : PW X e t) (i : ∀ sg H Q, t' sg H Q → t sg H Q) : PW X e t' := ⟨fun wh pins s sg H Q I w => h.run wh pins s sg H Q I (i _ _ _ w)⟩
theorem PA.imp {e : List Expr} {t t' : TA} (h : PA X e t) (i : ∀ sg H Q, t' sg H Q → t sg H Q) : PA X e t' := ⟨fun pos pins s sg H Q I w => h.run pos pins s sg H Q I (i _ _ _ w)⟩
theorem PS.imp {e : Stmt} {t t' : TS} (h : PS X e t) (i : ∀ T sg H, t' T sg H → t T sg H) : PS X e t' := ⟨fun pins s sg H Q I w => h.run pins s sg H Q I (i _ _ _ w)⟩
theorem PSs.imp {e : List Stmt} {t t' : TS} (h : PSs X e t) (i : ∀ T sg H, t' T sg H → t T sg H) : PSs X e t' := ⟨fun pins s sg H Q I w => h.run pins s sg H Q I (i _ _ _ w)⟩
theorem OpR.imp {f : Value → Value → Sem Value} {r r' : R2} (h : OpR X f r) (i : ∀ x y H Q, r' x y H Q → r x y H Q) : OpR X f r' := fun pins s sg H x y v u Q I r1 r2 w => h pins s sg H x y v u Q I r1 r2 (i _ _ _ _ w)
theorem CallR.imp {f : Value} {r r' : List V → Hp → VK → Prop} (h : CallR X f r) (i : ∀ xs H Q, r' xs H Q → r xs H Q) : CallR X f r' := fun pins s sg H xs us Q I r1 w => h pins s sg H xs us Q I r1 (i _ _ _ w)
theorem MtR.imp {f : String} {r r' : V → List V → Hp → VK → Prop} (h : MtR X f r) (i : ∀ x xs H Q, r' x xs H Q → r x xs H Q) : MtR X f r' := fun pins s sg H x xs v us Q I r1 r2 w => h pins s sg H x xs v us Q I r1 r2 (i _ _ _ _ w)
theorem IxR.imp {r r' : R2} (h : IxR X r) (i : ∀ x y H Q, r' x y H Q → r x y H Q) : IxR X r' := fun a b pins s sg H x y v u Q I r1 r2 w => h a b pins s sg H x y v u Q I r1 r2 (i _ _ _ _ w)
theorem UnR.imp {f : Value → Sem Value} {r r' : V → Hp → VK → Prop} (h : UnR X f r) (i : ∀ x H Q, r' x H Q → r x H Q) : UnR X f r' := fun pins s sg H x v Q I r1 w => h pins s sg H x v Q I r1 (i _ _ _ w)
theorem PG.imp {e : Expr} {t t' : TG} (h : PG X e t) (i : ∀ v sg H Q, t' v sg H Q → t v sg H Q) : PG X e t' := ⟨fun pins s sg H v u Q I r w => h.run pins s sg H v u Q I r (i _ _ _ _ w)⟩
theorem PGs.imp {e : List Expr} {t t' : TGs} (h : PGs X e t) (i : ∀ v sg H Q, t' v sg H Q → t v sg H Q) : PGs X e t' := ⟨fun pins s sg H v u Q I r w => h.run pins s sg H v u Q I r (i _ _ _ _ w)⟩
end
end L2
namespace VL
open PySem PySem.Spec PyProof.Rows L2 LamX NdefX
variable {B : Tb}

/-! ### liftings -/
/-- behind a value; behind an exception -/
def KV (g : G) (q : List Addr) (H : Hp) (Q : VK) : D → Sto → Prop := fun d st => ∀ q' v H', Ext q H q' H' → RS g q' H' st → RD g q' H' v d → Q v H'
def KX (g : G) (q : List Addr) (H : Hp) (E : XK) : Str → Sto → Prop := fun c st => ∀ q' H' C, Ext q H q' H' → RS g q' H' st → g.mg c = some (.ref C) → E (.ref C) none H'
theorem KX.ext {g : G} {q q' : List Addr} {H H' : Hp} {E : XK} (e : Ext q H q' H') {c : Str} {st : Sto} (k : KX g q H E c st) : KX g q' H' E c st := fun q2 H2 C e2 r m => k q2 H2 C (e.trans e2) r m
theorem KV.ext {g : G} {q q' : List Addr} {H H' : Hp} {Q : VK} (e : Ext q H q' H') {d : D} {st : Sto} (k : KV g q H Q d st) : KV g q' H' Q d st := fun q2 v H2 e2 r m => k q2 v H2 (e.trans e2) r m
abbrev EF := EnvD → Sto → R D
abbrev TF := EnvD → Sto → R Bool
abbrev AF := EnvD → Sto → R (List D)
inductive Fl where
  | nx (e : EnvD) | rt (d : D) | bk (e : EnvD) | ct (e : EnvD)
abbrev SF := EnvD → Sto → R Fl
abbrev Fn := List D → Sto → R D
def LE (g : G) (E : XK) (f : EF) : TE := fun sg H Q => ∃ q env st, RS g q H st ∧ RE g q H sg env ∧ (f env st).post (KV g q H Q) (KX g q H E)
def LT (g : G) (E : XK) (f : TF) : TT := fun sg H Q => ∃ q env st, RS g q H st ∧ RE g q H sg env ∧ (f env st).post (fun b st' => ∀ q' H', Ext q H q' H' → RS g q' H' st' → Q b H') (KX g q H E)
def LA (g : G) (E : XK) (f : AF) : TA := fun sg H Q => ∃ q env st, RS g q H st ∧ RE g q H sg env ∧ (f env st).post (fun ds st' => ∀ q' vs H', Ext q H q' H' → RS g q' H' st' → RDs g q' H' vs ds → Q vs H') (KX g q H E)
def KS (g : G) (q : List Addr) (H : Hp) (T : Ends) : Fl → Sto → Prop := fun fl st => ∀ q' H', Ext q H q' H' → RS g q' H' st → match fl with
  | .nx e => ∀ sg, RE g q' H' sg e → T.nx sg H'
  | .rt d => ∀ v, RD g q' H' v d → T.rt v H'
  | .bk e => ∀ sg, RE g q' H' sg e → T.bk sg H'
  | .ct e => ∀ sg, RE g q' H' sg e → T.ct sg H'
def LS (g : G) (E : XK) (f : SF) : TS := fun T sg H => ∃ q env st, RS g q H st ∧ RE g q H sg env ∧ (f env st).post (KS g q H T) (KX g q H E)
theorem KS.ext {g : G} {q q' : List Addr} {H H' : Hp} {T : Ends} (e : Ext q H q' H') {c : Fl} {st : Sto} (k : KS g q H T c st) : KS g q' H' T c st := fun q2 H2 e2 r => k q2 H2 (e.trans e2) r

section
variable {X : Cx}

variable {E : XK} {fa fb : EF} {a b : Expr} {pos : Pos}
/-! ### names, constants -/
def varF (i : Nat) : EF := fun env st => match env[i]? with
  | some (some d) => .ok d st
  | _ => .bad
def cF (d : D) : EF := fun _ st => .ok d st
theorem le_var {i : Nat} {x : Str} {pos : Pos} (h : PE X (.Name x pos) (tVar i)) : PE X (.Name x pos) (LE (gOf B X) E (varF i)) := h.imp fun sg H Q w => by
  obtain ⟨q, env, st, rs, re, p⟩ := w
  unfold varF at p
  split at p
  · rename_i d hd
    obtain ⟨v, h1, h2⟩ := re.get hd
    exact ⟨v, h1, p q v H Ext.refl rs h2⟩
  · exact False.elim p
theorem le_c {e : Expr} {v : V} {d : D} (h : PE X e (tC v)) (r : ∀ q H, RD (gOf B X) q H v d) : PE X e (LE (gOf B X) E (cF d)) := h.imp fun sg H Q w => by
  obtain ⟨q, env, st, rs, re, p⟩ := w
  exact p q v H Ext.refl rs (r q H)
theorem le_int {i j pos} : PE X (.Constant (.int i) j pos) (LE (gOf B X) E (cF (.int i))) := le_c pe_int fun _ _ => .int i
theorem le_bl {b j pos} : PE X (.Constant (.bool b) j pos) (LE (gOf B X) E (cF (.bl b))) := le_c pe_bl fun _ _ => .bl b
theorem le_non {j pos} : PE X (.Constant .none j pos) (LE (gOf B X) E (cF .non)) := le_c pe_non fun _ _ => .non
theorem RD.ty_inv {g : G} {q : List Addr} {H : Hp} {v : V} {n : String} (r : RD g q H v (.ty n)) : v = .ty n := by cases r; rfl
theorem le_str {x j pos} : PE X (.Constant (.str x) j pos) (LE (gOf B X) E (cF (.str x))) := le_c pe_str fun _ _ => .str x

/-! ### two-place operations by values -/
def LR (g : G) (E : XK) (f : D → D → Sto → R D) : R2 := fun x y H Q => ∃ q st a b, RS g q H st ∧ RD g q H x a ∧ RD g q H y b ∧ (f a b st).post (KV g q H Q) (KX g q H E)
def opF (f : D → D → Sto → R D) (fa fb : EF) : EF := fun env st => (fa env st).bind fun a s1 => (fb env s1).bind fun b s2 => f a b s2
theorem LE.chain {g : G} {sg : L2.St} {H : Hp} {f : EF} {q : List Addr} {env : EnvD} {st : Sto} {Q : VK} {K : D → Sto → Prop} (rs : RS g q H st) (re : RE g q H sg env) (p : (f env st).post K (KX g q H E))
    (k : ∀ d st' q' v H', K d st' → Ext q H q' H' → RS g q' H' st' → RE g q' H' sg env → RD g q' H' v d → Q v H') : LE g E f sg H Q :=
  ⟨q, env, st, rs, re, p.imp (fun d st' hk q' v H' e rs' rd => k d st' q' v H' hk e rs' (re.ext e) rd) fun _ _ h => h⟩
theorem opT_le {f : D → D → Sto → R D} {sg : L2.St} {H : Hp} {Q : VK} (w : LE (gOf B X) E (opF f fa fb) sg H Q) : tOp (LR (gOf B X) E f) (LE (gOf B X) E fa) (LE (gOf B X) E fb) sg H Q := by
  obtain ⟨q, env, st, rs, re, p⟩ := w
  refine LE.chain rs re (R.post_bind.mp p) fun x s1 q1 v H1 p e1 rs1 re1 rx => ?_
  refine LE.chain rs1 re1 ((R.post_bind.mp p).imp (fun _ _ h => h) fun _ _ h => h.ext e1) fun y s2 q2 u H2 p e2 rs2 re2 ry => ?_
  exact ⟨q2, s2, x, y, rs2, rx.ext e2, ry, p.imp (fun _ _ h => h.ext (e1.trans e2)) fun _ _ h => h.ext (e1.trans e2)⟩
theorem le_op {op : Operator} {f : D → D → Sto → R D} (ho : OpR X (binaryOp op) (LR (gOf B X) E f)) (ha : PE X a (LE (gOf B X) E fa)) (hb : PE X b (LE (gOf B X) E fb)) : PE X (.BinOp a op b pos) (LE (gOf B X) E (opF f fa fb)) :=
  (pe_op ho ha hb).imp fun _ _ _ w => opT_le w
theorem le_cmp {op : CmpOp} {f : D → D → Sto → R D} (ho : OpR X (compareOp op) (LR (gOf B X) E f)) (ha : PE X a (LE (gOf B X) E fa)) (hb : PE X b (LE (gOf B X) E fb)) (hm : behindInMarks op b = false) : PE X (.Compare a [op] [b] pos) (LE (gOf B X) E (opF f fa fb)) :=
  (pe_cmpR ho ha hb hm).imp fun _ _ _ w => opT_le w
theorem le_ix {f : D → D → Sto → R D} (ho : IxR X (LR (gOf B X) E f)) (ha : PE X a (LE (gOf B X) E fa)) (hb : PE X b (LE (gOf B X) E fb)) (hs : PlainIx b) : PE X (.Subscript a b pos) (LE (gOf B X) E (opF f fa fb)) :=
  (pe_ix ho ha hb hs).imp fun _ _ _ w => opT_le w

/-! ### tests -/
/-- the truth of a value that is a bool -/
def bF (f : EF) : TF := fun env st => (f env st).bind fun d s => match d with
  | .bl b => .ok b s
  | _ => .bad
theorem RD.bl_inv {g : G} {q : List Addr} {H : Hp} {v : V} {b : Bool} (r : RD g q H v (.bl b)) : v = .bl b := by cases r; rfl
theorem RD.int_inv {g : G} {q : List Addr} {H : Hp} {v : V} {b : Int} (r : RD g q H v (.int b)) : v = .int b := by cases r; rfl
theorem RD.str_inv {g : G} {q : List Addr} {H : Hp} {v : V} {b : Str} (r : RD g q H v (.str b)) : v = .str b := by cases r; rfl
theorem RD.non_inv {g : G} {q : List Addr} {H : Hp} {v : V} (r : RD g q H v .non) : v = .non := by cases r; rfl
theorem RD.tup_inv {g : G} {q : List Addr} {H : Hp} {v : V} {ds : List D} (r : RD g q H v (.tup ds)) : ∃ a xs, v = .ref a ∧ SqT g.K H a xs ∧ RDs g q H xs ds := by cases r with | tup h r => exact ⟨_, _, rfl, h, r⟩
theorem RD.ref_inv {g : G} {q : List Addr} {H : Hp} {v : V} {n : Nat} (r : RD g q H v (.ref n)) : ∃ a, v = .ref a ∧ q[n]? = some a := by cases r with | ref h => exact ⟨_, rfl, h⟩
theorem RD.glb_inv {g : G} {q : List Addr} {H : Hp} {v : V} {x : Str} (r : RD g q H v (.glb x)) : ∃ a, v = .ref a ∧ g.mg x = some (.ref a) := by cases r with | glb h => exact ⟨_, rfl, h⟩
theorem bool_le {sg : L2.St} {H : Hp} {Q : Bool → Hp → Prop} {f : EF} (w : LT (gOf B X) E (bF f) sg H Q) : LE (gOf B X) E f sg H fun x H1 => ∃ c, x = .bl c ∧ Q c H1 := by
  obtain ⟨q, env, st, rs, re, p⟩ := w
  refine LE.chain rs re (R.post_bind.mp p) fun x s1 q1 v H1 p e1 rs1 re1 rx => ?_
  cases x with
  | bl b => exact ⟨b, rx.bl_inv, p q1 H1 e1 rs1⟩
  | _ => exact False.elim p
theorem lt_val {e : Expr} {f : EF} (h : PE X e (LE (gOf B X) E f)) (he : ∀ whole, isTrue e X.env whole = (do let v ← whole; standAt e.pos; holding [v] (truthy v)) := by intro _; rfl) : PT X e (LT (gOf B X) E (bF f)) :=
  (pt_val h he).imp fun _ _ _ w => bool_le w
theorem lt_cmp {op : CmpOp} {f : D → D → Sto → R D} (ho : OpR X (compareOp op) (LR (gOf B X) E f)) (ha : PE X a (LE (gOf B X) E fa)) (hb : PE X b (LE (gOf B X) E fb)) (hm : behindInMarks op b = false) : PT X (.Compare a [op] [b] pos) (LT (gOf B X) E (bF (opF f fa fb))) :=
  (pt_cmpR ho ha hb hm).imp fun _ _ _ w => by
    obtain ⟨q, env, st, rs, re, p⟩ := w
    exact opT_le (bool_le ⟨q, env, st, rs, re, p⟩)
theorem LT.chain {g : G} {sg : L2.St} {H : Hp} {f : TF} {q : List Addr} {env : EnvD} {st : Sto} {Q : Bool → Hp → Prop} {K : Bool → Sto → Prop} (rs : RS g q H st) (re : RE g q H sg env) (p : (f env st).post K (KX g q H E))
    (k : ∀ d st' q' H', K d st' → Ext q H q' H' → RS g q' H' st' → RE g q' H' sg env → Q d H') : LT g E f sg H Q :=
  ⟨q, env, st, rs, re, p.imp (fun d st' hk q' H' e rs' => k d st' q' H' hk e rs' (re.ext e)) fun _ _ h => h⟩
variable {ta tb : TF} {rest : List Expr}
def andT (ta tb : TF) : TF := fun env st => (ta env st).bind fun c s => if c = true then tb env s else .ok false s
def orT (ta tb : TF) : TF := fun env st => (ta env st).bind fun c s => if c = true then .ok true s else tb env s
def notT (ta : TF) : TF := fun env st => (ta env st).bind fun c s => .ok (!c) s
def KT (g : G) (q : List Addr) (H : Hp) (Q : Bool → Hp → Prop) : Bool → Sto → Prop := fun b st => ∀ q' H', Ext q H q' H' → RS g q' H' st → Q b H'
theorem KT.ext {g : G} {q q' : List Addr} {H H' : Hp} {Q : Bool → Hp → Prop} (e : Ext q H q' H') {c : Bool} {st : Sto} (k : KT g q H Q c st) : KT g q' H' Q c st := fun q2 H2 e2 r => k q2 H2 (e.trans e2) r
theorem lw_and1 {ta : TF} (ha : PT X a (LT (gOf B X) E ta)) : PW X (.BoolOp .And [a] pos) (LT (gOf B X) E ta) := pw_and1 ha
theorem lw_or1 {ta : TF} (ha : PT X a (LT (gOf B X) E ta)) : PW X (.BoolOp .Or [a] pos) (LT (gOf B X) E ta) := pw_or1 ha
theorem lw_and (ha : PT X a (LT (gOf B X) E ta)) (hb : PW X (.BoolOp .And (b :: rest) pos) (LT (gOf B X) E tb)) : PW X (.BoolOp .And (a :: b :: rest) pos) (LT (gOf B X) E (andT ta tb)) :=
  (pw_and ha hb).imp fun sg H Q w => by
    obtain ⟨q, env, st, rs, re, p⟩ := w
    refine LT.chain rs re (R.post_bind.mp p) fun c s1 q1 H1 p e1 rs1 re1 => ?_
    cases c with
    | true => exact iteT ⟨q1, env, s1, rs1, re1, (show (tb env s1).post _ _ from p).imp (fun _ _ h => KT.ext e1 h) fun _ _ h => h.ext e1⟩
    | false => exact iteF (p q1 H1 e1 rs1)
theorem lw_or (ha : PT X a (LT (gOf B X) E ta)) (hb : PW X (.BoolOp .Or (b :: rest) pos) (LT (gOf B X) E tb)) : PW X (.BoolOp .Or (a :: b :: rest) pos) (LT (gOf B X) E (orT ta tb)) :=
  (pw_or ha hb).imp fun sg H Q w => by
    obtain ⟨q, env, st, rs, re, p⟩ := w
    refine LT.chain rs re (R.post_bind.mp p) fun c s1 q1 H1 p e1 rs1 re1 => ?_
    cases c with
    | false => exact iteF ⟨q1, env, s1, rs1, re1, (show (tb env s1).post _ _ from p).imp (fun _ _ h => KT.ext e1 h) fun _ _ h => h.ext e1⟩
    | true => exact iteT (p q1 H1 e1 rs1)
theorem lt_not (ha : PT X a (LT (gOf B X) E ta)) : PT X (.UnaryOp .Not a pos) (LT (gOf B X) E (notT ta)) :=
  (pt_not ha).imp fun sg H Q w => by
    obtain ⟨q, env, st, rs, re, p⟩ := w
    exact LT.chain rs re (R.post_bind.mp p) fun c s1 q1 H1 p e1 rs1 re1 => p q1 H1 e1 rs1
/-! .. as values -/
def andV (fa fb : EF) : EF := fun env st => (bF fa env st).bind fun c s => if c = true then fb env s else .ok (.bl false) s
def orV (fa fb : EF) : EF := fun env st => (bF fa env st).bind fun c s => if c = true then .ok (.bl true) s else fb env s
def notV (fa : EF) : EF := fun env st => (bF fa env st).bind fun c s => .ok (.bl (!c)) s
theorem bool_chain {g : G} {sg : L2.St} {H : Hp} {f : EF} {q : List Addr} {env : EnvD} {st : Sto} {Q : V → Hp → Prop} {K : Bool → Sto → Prop} (rs : RS g q H st) (re : RE g q H sg env) (p : (bF f env st).post K (KX g q H E))
    (k : ∀ c st' q' H', K c st' → Ext q H q' H' → RS g q' H' st' → RE g q' H' sg env → Q (.bl c) H') : LE g E f sg H Q := by
  refine LE.chain rs re (R.post_bind.mp p) fun x s1 q1 v H1 p e1 rs1 re1 rx => ?_
  cases x with
  | bl b => rw [rx.bl_inv]; exact k b s1 q1 H1 p e1 rs1 re1
  | _ => exact False.elim p
theorem le_and1 {op} (ha : PE X a (LE (gOf B X) E fa)) : PE X (.BoolOp op [a] pos) (LE (gOf B X) E fa) := pe_one ha
theorem le_and (ha : PE X a (LE (gOf B X) E fa)) (hb : PE X (.BoolOp .And (b :: rest) pos) (LE (gOf B X) E fb)) : PE X (.BoolOp .And (a :: b :: rest) pos) (LE (gOf B X) E (andV fa fb)) :=
  (pe_and ha hb).imp fun sg H Q w => by
    obtain ⟨q, env, st, rs, re, p⟩ := w
    refine bool_chain rs re (R.post_bind.mp p) fun c s1 q1 H1 p e1 rs1 re1 => ⟨c, rfl, ?_⟩
    cases c with
    | true => exact iteT ⟨q1, env, s1, rs1, re1, (show (fb env s1).post _ _ from p).imp (fun _ _ h => h.ext e1) fun _ _ h => h.ext e1⟩
    | false => exact iteF (p q1 _ H1 e1 rs1 (.bl false))
theorem le_or (ha : PE X a (LE (gOf B X) E fa)) (hb : PE X (.BoolOp .Or (b :: rest) pos) (LE (gOf B X) E fb)) : PE X (.BoolOp .Or (a :: b :: rest) pos) (LE (gOf B X) E (orV fa fb)) :=
  (pe_or ha hb).imp fun sg H Q w => by
    obtain ⟨q, env, st, rs, re, p⟩ := w
    refine bool_chain rs re (R.post_bind.mp p) fun c s1 q1 H1 p e1 rs1 re1 => ⟨c, rfl, ?_⟩
    cases c with
    | false => exact iteF ⟨q1, env, s1, rs1, re1, (show (fb env s1).post _ _ from p).imp (fun _ _ h => h.ext e1) fun _ _ h => h.ext e1⟩
    | true => exact iteT (p q1 _ H1 e1 rs1 (.bl true))
theorem le_not (ha : PE X a (LE (gOf B X) E fa)) : PE X (.UnaryOp .Not a pos) (LE (gOf B X) E (notV fa)) :=
  (pe_not ha).imp fun sg H Q w => by
    obtain ⟨q, env, st, rs, re, p⟩ := w
    exact bool_chain rs re (R.post_bind.mp p) fun c s1 q1 H1 p e1 rs1 re1 => ⟨c, rfl, p q1 _ H1 e1 rs1 (.bl _)⟩
/-- a if t else b -/
def ifF (t : TF) (fa fb : EF) : EF := fun env st => (t env st).bind fun c s => if c = true then fa env s else fb env s
theorem le_ifExp {c : Expr} (hc : PT X c (LT (gOf B X) E ta)) (ha : PE X a (LE (gOf B X) E fa)) (hb : PE X b (LE (gOf B X) E fb)) : PE X (.IfExp c a b pos) (LE (gOf B X) E (ifF ta fa fb)) :=
  (pe_ifExp hc ha hb).imp fun sg H Q w => by
    obtain ⟨q, env, st, rs, re, p⟩ := w
    refine LT.chain rs re (R.post_bind.mp p) fun c s1 q1 H1 p e1 rs1 re1 => ?_
    cases c with
    | true => exact iteT ⟨q1, env, s1, rs1, re1, (show (fa env s1).post _ _ from p).imp (fun _ _ h => h.ext e1) fun _ _ h => h.ext e1⟩
    | false => exact iteF ⟨q1, env, s1, rs1, re1, (show (fb env s1).post _ _ from p).imp (fun _ _ h => h.ext e1) fun _ _ h => h.ext e1⟩

/-! ### arguments, displays -/
def nilA : AF := fun _ st => .ok [] st
def consA (fa : EF) (fr : AF) : AF := fun env st => (fa env st).bind fun x s => (fr env s).bind fun xs s' => .ok (x :: xs) s'
theorem la_nil : PA X [] (LA (gOf B X) E nilA) := pa_nil.imp fun sg H Q w => by
  obtain ⟨q, env, st, rs, re, p⟩ := w
  exact p q [] H Ext.refl rs .nil
theorem LA.chain {g : G} {sg : L2.St} {H : Hp} {f : AF} {q : List Addr} {env : EnvD} {st : Sto} {Q : List V → Hp → Prop} {K : List D → Sto → Prop} (rs : RS g q H st) (re : RE g q H sg env) (p : (f env st).post K (KX g q H E))
    (k : ∀ d st' q' v H', K d st' → Ext q H q' H' → RS g q' H' st' → RE g q' H' sg env → RDs g q' H' v d → Q v H') : LA g E f sg H Q :=
  ⟨q, env, st, rs, re, p.imp (fun d st' hk q' v H' e rs' rd => k d st' q' v H' hk e rs' (re.ext e) rd) fun _ _ h => h⟩
theorem la_cons {es : List Expr} {fr : AF} (ha : PE X a (LE (gOf B X) E fa)) (hr : PA X es (LA (gOf B X) E fr)) (hs : starEach (a :: es) X.env = (false, eval a X.env) :: starEach es X.env := by rfl) : PA X (a :: es) (LA (gOf B X) E (consA fa fr)) :=
  (pa_cons ha hr hs).imp fun sg H Q w => by
    obtain ⟨q, env, st, rs, re, p⟩ := w
    refine LE.chain rs re (R.post_bind.mp p) fun x s1 q1 v H1 p e1 rs1 re1 rx => ?_
    refine LA.chain rs1 re1 ((R.post_bind.mp p).imp (fun _ _ h => h) fun _ _ h => h.ext e1) fun ys s2 q2 vs H2 p e2 rs2 re2 ry => ?_
    exact p q2 _ H2 (e1.trans e2) rs2 (.cons (rx.ext e2) ry)
/-- a new object of the store -/
def newO (o : O) (st : Sto) : R D := .ok (.ref st.length) (st ++ [o])
def tupA (f : AF) : EF := fun env st => (f env st).bind fun xs s => if xs.length ≤ sizeLine then .ok (.tup xs) s else .bad
def lstA (f : AF) : EF := fun env st => (f env st).bind fun xs s => if xs.length ≤ sizeLine then newO (.lst xs) s else .bad
section
variable {g : G} {q : List Addr} {H : Hp} {st : Sto} {p : Addr}
/-- a new tuple -/
theorem tup_new {xs : List V} {ds : List D} (rs : RS g q H st) (hp : H p = none) (r : RDs g q H xs ds) : Ext q H q (upd H p (.tup xs)) ∧ RS g q (upd H p (.tup xs)) st ∧ RD g q (upd H p (.tup xs)) (.ref p) (.tup ds) := by
  have s := same_upd (o := HO.tup xs) hp
  exact ⟨Same.ext0 s, rs.same s, .tup (.inl (.inl upd_same)) (r.ext (Same.ext0 s))⟩
theorem lst_new {xs : List V} {ds : List D} (rs : RS g q H st) (hp : H p = none) (r : RDs g q H xs ds) : Ext q H (q ++ [p]) (upd H p (.lst xs)) ∧ RS g (q ++ [p]) (upd H p (.lst xs)) (st ++ [.lst ds]) ∧ RD g (q ++ [p]) (upd H p (.lst xs)) (.ref p) (.ref st.length) := by
  have s := same_upd (o := HO.lst xs) hp
  refine ⟨Same.ext s hp, rs.new hp ⟨xs, upd_same, r.ext (Same.ext s hp)⟩, .ref ?_⟩
  rw [← rs.len]; simp
theorem dic_new (rs : RS g q H st) (hp : H p = none) : Ext q H (q ++ [p]) (upd H p (.dK [])) ∧ RS g (q ++ [p]) (upd H p (.dK [])) (st ++ [.dic []]) ∧ RD g (q ++ [p]) (upd H p (.dK [])) (.ref p) (.ref st.length) := by
  have s := same_upd (o := HO.dK []) hp
  refine ⟨Same.ext s hp, rs.new hp (.inl ⟨[], upd_same, .nil⟩), .ref ?_⟩
  rw [← rs.len]; simp
end
theorem le_tup {es : List Expr} {f : AF} {x1} (h : PA X es (LA (gOf B X) E f)) : PE X (.Tuple es x1 pos) (LE (gOf B X) E (tupA f)) := (pe_tup h).imp fun sg H Q w => by
  obtain ⟨q, env, st, rs, re, p⟩ := w
  refine LA.chain rs re (R.post_bind.mp p) fun xs s1 q1 vs H1 p e1 rs1 re1 rx => ?_
  by_cases hz : xs.length ≤ sizeLine
  · rw [if_pos hz] at p
    refine ⟨by rw [rx.length]; exact hz, fun pp hp => ?_⟩
    obtain ⟨e2, rs2, r2⟩ := tup_new rs1 hp rx
    exact p q1 _ _ (e1.trans e2) rs2 r2
  · rw [if_neg hz] at p
    exact False.elim p
theorem le_lst {es : List Expr} {f : AF} (h : PA X es (LA (gOf B X) E f)) : PE X (.List es pos) (LE (gOf B X) E (lstA f)) := (pe_lst h).imp fun sg H Q w => by
  obtain ⟨q, env, st, rs, re, p⟩ := w
  refine LA.chain rs re (R.post_bind.mp p) fun xs s1 q1 vs H1 p e1 rs1 re1 rx => ?_
  by_cases hz : xs.length ≤ sizeLine
  · rw [if_pos hz] at p
    refine ⟨by rw [rx.length]; exact hz, fun pp hp => ?_⟩
    obtain ⟨e2, rs2, r2⟩ := lst_new rs1 hp rx
    exact p _ _ _ (e1.trans e2) rs2 r2
  · rw [if_neg hz] at p
    exact False.elim p
def dicF : EF := fun _ st => newO (.dic []) st
theorem le_dic {e : Expr} (h : PE X e (fun _ H Q => ∀ p, H p = none → Q (.ref p) (upd H p (.dK [])))) : PE X e (LE (gOf B X) E dicF) := h.imp fun sg H Q w p hp => by
  obtain ⟨q, env, st, rs, re, k⟩ := w
  obtain ⟨e2, rs2, r2⟩ := dic_new rs hp
  exact k _ _ _ e2 rs2 r2

/-! ### calls by values -/
def LC (g : G) (E : XK) (f : List D → Sto → R D) : List V → Hp → VK → Prop := fun vs H Q => ∃ q st ds, RS g q H st ∧ RDs g q H vs ds ∧ (f ds st).post (KV g q H Q) (KX g q H E)
def callF (f : List D → Sto → R D) (fa : AF) : EF := fun env st => (fa env st).bind fun ds s => f ds s
theorem call_le {f : List D → Sto → R D} {fa : AF} {sg : L2.St} {H : Hp} {Q : VK} (w : LE (gOf B X) E (callF f fa) sg H Q) : LA (gOf B X) E fa sg H fun vs H1 => LC (gOf B X) E f vs H1 Q := by
  obtain ⟨q, env, st, rs, re, p⟩ := w
  exact LA.chain rs re (R.post_bind.mp p) fun xs s1 q1 vs H1 p e1 rs1 re1 rx => ⟨q1, s1, xs, rs1, rx, p.imp (fun _ _ h => h.ext e1) fun _ _ h => h.ext e1⟩
theorem le_callB {x : Str} {p : Pos} {id : String} {e : Expr} {es : List Expr} {fa : AF} {f : List D → Sto → R D} (hc : CallR X (.builtin id) (LC (gOf B X) E f)) (hg : Gl X x) (hm : X.mg x = none) (hv : bootBuiltins x = some (.builtin id)) (ha : PA X (e :: es) (LA (gOf B X) E fa)) (hn : x ≠ "__name__" := by decide) (hdb : (x == ("__debug__" : Str)) = false := by decide)
    (he : starEach (e :: es) X.env = (false, eval e X.env) :: starEach es X.env := by rfl) (hpl : (backTo pos (starEach es X.env)).any (·.1) = false := by rfl) : PE X (.Call (.Name x p) (e :: es) [] pos) (LE (gOf B X) E (callF f fa)) :=
  (pe_callB hc hg hm hv ha hn hdb he hpl).imp fun _ _ _ w => call_le w
theorem le_callTy {x : Str} {p : Pos} {T : String} {e : Expr} {es : List Expr} {fa : AF} {f : List D → Sto → R D} (hc : CallR X (.type T) (LC (gOf B X) E f)) (hg : Gl X x) (hm : X.mg x = none) (hv : bootBuiltins x = some (.type T)) (ha : PA X (e :: es) (LA (gOf B X) E fa)) (hn : x ≠ "__name__" := by decide) (hdb : (x == ("__debug__" : Str)) = false := by decide)
    (he : starEach (e :: es) X.env = (false, eval e X.env) :: starEach es X.env := by rfl) (hpl : (backTo pos (starEach es X.env)).any (·.1) = false := by rfl) : PE X (.Call (.Name x p) (e :: es) [] pos) (LE (gOf B X) E (callF f fa)) :=
  (pe_callTy hc hg hm hv ha hn hdb he hpl).imp fun _ _ _ w => call_le w
/-- a def's promise -/
def SpD (g : G) (n : Nat) (f : Fn) : Sp := fun vs H Q E => vs.length = n ∧ LC g E f vs H Q
theorem le_call {CX : CXT} {k n : Nat} {f : Addr} {fd : FuncData} {ps : List Str} {fn : Fn} {x : Str} {p : Pos} {e : Expr} {es : List Expr} {fa : AF} (F : FnOk X.prog X.w X.K X.mg X.base CX k f fd ps (SpD (gOf B X) n fn)) (hr : Room k X.A) (hg : Gl X x) (hm : X.mg x = some (.ref f)) (hk : PySem.W.keepIn X.K (.ref f) = true) (hb : Binds X.K fd ps []) (hx : Passes CX X E)
    (ha : PA X (e :: es) (LA (gOf B X) E fa)) (hl : (e :: es).length = n) (hla : ∀ env st ds s, fa env st = .ok ds s → ds.length = (e :: es).length) (hdb : (x == ("__debug__" : Str)) = false := by decide) (he : starEach (e :: es) X.env = (false, eval e X.env) :: starEach es X.env := by rfl) (hpl : (backTo pos (starEach es X.env)).any (·.1) = false := by rfl) :
    PE X (.Call (.Name x p) (e :: es) [] pos) (LE (gOf B X) E (callF fn fa)) :=
  (pe_call F hr hg hm hk hb .nil hx ha hdb he hpl).imp fun sg H Q w => by
    obtain ⟨q, env, st, rs, re, p⟩ := w
    have p := R.post_bind.mp p
    have p' : (fa env st).post (fun ds s => ds.length = n ∧ (fn ds s).post (KV (gOf B X) q H Q) (KX (gOf B X) q H E)) (KX (gOf B X) q H E) := by
      cases hfa : fa env st with
      | ok ds s => rw [hfa] at p; exact ⟨(hla _ _ _ _ hfa).trans hl, p⟩
      | ex c s => rw [hfa] at p; exact p
      | bad => rw [hfa] at p; exact p
    refine LA.chain rs re p' fun xs s1 q1 vs H1 p e1 rs1 re1 rx => ?_
    rw [List.append_nil]
    exact ⟨by rw [rx.length]; exact p.1, q1, s1, xs, rs1, rx, p.2.imp (fun _ _ h => h.ext e1) fun _ _ h => h.ext e1⟩
theorem len_nil {env : EnvD} {st : Sto} {ds : List D} {s : Sto} (h : nilA env st = .ok ds s) : ds.length = 0 := by cases h; rfl
theorem len_cons {fa : EF} {fr : AF} {n : Nat} (hr : ∀ env st ds s, fr env st = .ok ds s → ds.length = n) : ∀ env st ds s, consA fa fr env st = .ok ds s → ds.length = n + 1 := by
  intro env st ds s h
  unfold consA at h
  cases e1 : fa env st with
  | ok x s1 =>
    rw [e1, R.bind_ok] at h
    cases e2 : fr env s1 with
    | ok xs s2 =>
      rw [e2, R.bind_ok] at h
      cases h
      rw [List.length_cons, hr _ _ _ _ e2]
    | ex c s => rw [e2] at h; cases h
    | bad => rw [e2] at h; cases h
  | ex c s => rw [e1] at h; cases h
  | bad => rw [e1] at h; cases h

/-! ### statements -/
theorem LS.chain {g : G} {sg : L2.St} {H : Hp} {f : SF} {q : List Addr} {env : EnvD} {st : Sto} {T : Ends} {K : Fl → Sto → Prop} (rs : RS g q H st) (re : RE g q H sg env) (p : (f env st).post K (KX g q H E))
    (k : ∀ d st', K d st' → KS g q H T d st') : LS g E f T sg H := ⟨q, env, st, rs, re, p.imp k fun _ _ h => h⟩
def nilS : SF := fun env st => .ok (.nx env) st
def seqS (f r : SF) : SF := fun env st => (f env st).bind fun fl s => match fl with
  | .nx e => r e s
  | fl => .ok fl s
theorem lss_nil : PSs X [] (LS (gOf B X) E nilS) := pss_nil.imp fun T sg H w => by
  obtain ⟨q, env, st, rs, re, p⟩ := w
  exact p q H Ext.refl rs sg re
theorem lss_one {st : Stmt} {f : SF} (h : PS X st (LS (gOf B X) E f)) : PSs X [st] (LS (gOf B X) E f) := pss_one h
theorem lss_cons {st : Stmt} {r : List Stmt} {f fr : SF} (h : PS X st (LS (gOf B X) E f)) (hr : PSs X r (LS (gOf B X) E fr)) : PSs X (st :: r) (LS (gOf B X) E (seqS f fr)) := (pss_cons h hr).imp fun T sg H w => by
  obtain ⟨q, env, st, rs, re, p⟩ := w
  refine LS.chain rs re (R.post_bind.mp p) fun fl s p q1 H1 e1 rs1 => ?_
  cases fl with
  | nx e => exact fun sg1 re1 => ⟨q1, e, s, rs1, re1, (show (fr e s).post _ _ from p).imp (fun _ _ h => h.ext e1) fun _ _ h => h.ext e1⟩
  | rt d => exact p q1 H1 e1 rs1
  | bk e => exact p q1 H1 e1 rs1
  | ct e => exact p q1 H1 e1 rs1
theorem ls_pass : PS X (.Pass pos) (LS (gOf B X) E nilS) := ps_pass.imp fun T sg H w => by
  obtain ⟨q, env, st, rs, re, p⟩ := w
  exact p q H Ext.refl rs sg re
def bkS : SF := fun env st => .ok (.bk env) st
def ctS : SF := fun env st => .ok (.ct env) st
theorem ls_break : PS X (.Break pos) (LS (gOf B X) E bkS) := ps_break.imp fun T sg H w => by
  obtain ⟨q, env, st, rs, re, p⟩ := w
  exact p q H Ext.refl rs sg re
theorem ls_continue : PS X (.Continue pos) (LS (gOf B X) E ctS) := ps_continue.imp fun T sg H w => by
  obtain ⟨q, env, st, rs, re, p⟩ := w
  exact p q H Ext.refl rs sg re
def dropS (f : EF) : SF := fun env st => (f env st).bind fun _ s => .ok (.nx env) s
theorem ls_expr {e : Expr} {f : EF} (h : PE X e (LE (gOf B X) E f)) (hs : swapsWith e none pos.line X.env = pure false := by rfl) : PS X (.Expr e pos) (LS (gOf B X) E (dropS f)) := (ps_expr h hs).imp fun T sg H w => by
  obtain ⟨q, env, st, rs, re, p⟩ := w
  exact LE.chain rs re (R.post_bind.mp p) fun x s1 q1 v H1 p e1 rs1 re1 rx => p q1 H1 e1 rs1 sg re1
def retS (f : EF) : SF := fun env st => (f env st).bind fun d s => .ok (.rt d) s
theorem ls_ret {e : Expr} {f : EF} (h : PE X e (LE (gOf B X) E f)) : PS X (.Return (some e) pos) (LS (gOf B X) E (retS f)) := (ps_ret h).imp fun T sg H w => by
  obtain ⟨q, env, st, rs, re, p⟩ := w
  exact LE.chain rs re (R.post_bind.mp p) fun x s1 q1 v H1 p e1 rs1 re1 rx => p q1 H1 e1 rs1 v rx
def retN : SF := fun _ st => .ok (.rt .non) st
theorem ls_retN : PS X (.Return none pos) (LS (gOf B X) E retN) := ps_retN.imp fun T sg H w => by
  obtain ⟨q, env, st, rs, re, p⟩ := w
  exact p q H Ext.refl rs .non .non
def ifS (t : TF) (f r : SF) : SF := fun env st => (t env st).bind fun c s => if c = true then f env s else r env s
theorem ls_if {c : Expr} {x y : List Stmt} {t : TF} {f r : SF} (hc : PT X c (LT (gOf B X) E t)) (hx : PSs X x (LS (gOf B X) E f)) (hy : PSs X y (LS (gOf B X) E r)) : PS X (.If c x y pos) (LS (gOf B X) E (ifS t f r)) := (ps_if hc hx hy).imp fun T sg H w => by
  obtain ⟨q, env, st, rs, re, p⟩ := w
  refine LT.chain rs re (R.post_bind.mp p) fun c s1 q1 H1 p e1 rs1 re1 => ?_
  cases c with
  | true => exact iteT ⟨q1, env, s1, rs1, re1, (show (f env s1).post _ _ from p).imp (fun _ _ h => h.ext e1) fun _ _ h => h.ext e1⟩
  | false => exact iteF ⟨q1, env, s1, rs1, re1, (show (r env s1).post _ _ from p).imp (fun _ _ h => h.ext e1) fun _ _ h => h.ext e1⟩

/-! ### targets -/
abbrev GF := D → EnvD → Sto → R EnvD
def LG (g : G) (E : XK) (f : GF) : TG := fun v sg H Q => ∃ q d env st, RS g q H st ∧ RE g q H sg env ∧ RD g q H v d ∧ (f d env st).post (fun e st' => ∀ q' H' sg', Ext q H q' H' → RS g q' H' st' → RE g q' H' sg' e → Q sg' H') (KX g q H E)
def LGs (g : G) (E : XK) (f : List D → EnvD → Sto → R EnvD) : TGs := fun vs sg H Q => ∃ q ds env st, RS g q H st ∧ RE g q H sg env ∧ RDs g q H vs ds ∧ (f ds env st).post (fun e st' => ∀ q' H' sg', Ext q H q' H' → RS g q' H' st' → RE g q' H' sg' e → Q sg' H') (KX g q H E)
def nameG (i : Nat) : GF := fun d env st => .ok (env.set i (some d)) st
theorem lg_name {e : Expr} {i : Nat} (h : PG X e (gName i)) : PG X e (LG (gOf B X) E (nameG i)) := h.imp fun v sg H Q w => by
  obtain ⟨q, d, env, st, rs, re, rd, p⟩ := w
  exact p q H _ Ext.refl rs (re.set rd)
def nilG : List D → EnvD → Sto → R EnvD := fun ds env st => match ds with
  | [] => .ok env st
  | _ => .bad
def consG (f : GF) (r : List D → EnvD → Sto → R EnvD) : List D → EnvD → Sto → R EnvD := fun ds env st => match ds with
  | d :: ds => (f d env st).bind fun e s => r ds e s
  | [] => .bad
theorem lgs_nil : PGs X [] (LGs (gOf B X) E nilG) := pgs_nil.imp fun vs sg H Q w => by
  obtain ⟨q, ds, env, st, rs, re, rd, p⟩ := w
  cases rd with
  | nil => exact ⟨rfl, p q H sg Ext.refl rs re⟩
  | cons _ _ => exact False.elim p
theorem lgs_cons {e : Expr} {es : List Expr} {f : GF} {r : List D → EnvD → Sto → R EnvD} (h1 : PG X e (LG (gOf B X) E f)) (h2 : PGs X es (LGs (gOf B X) E r))
    (hs : (assignEach (e :: es) X.env).map (·.2) = assign e X.env :: (assignEach es X.env).map (·.2) := by rfl) : PGs X (e :: es) (LGs (gOf B X) E (consG f r)) := (pgs_cons h1 h2 hs).imp fun vs sg H Q w => by
  obtain ⟨q, ds, env, st, rs, re, rd, p⟩ := w
  cases rd with
  | nil => exact False.elim p
  | cons rd rds =>
    refine ⟨_, _, rfl, q, _, env, st, rs, re, rd, (R.post_bind.mp p).imp (fun e1 s1 p q1 H1 sg1 x1 rs1 re1 => ?_) fun _ _ h => h⟩
    exact ⟨q1, _, e1, s1, rs1, re1, rds.ext x1, (show (r _ e1 s1).post _ _ from p).imp (fun e2 s2 p q2 H2 sg2 x2 rs2 re2 => p q2 H2 sg2 (x1.trans x2) rs2 re2) fun _ _ h => h.ext x1⟩
/-- (a, b, ..) = a tuple -/
def tupG (n : Nat) (f : List D → EnvD → Sto → R EnvD) : GF := fun d env st => match d with
  | .tup ds => if ds.length = n then f ds env st else .bad
  | _ => .bad
theorem lg_tup {es : List Expr} {k : Nat} {f : List D → EnvD → Sto → R EnvD} {n : Nat} (hc : X.calm = true) (h : PGs X es (LGs (gOf B X) E f))
    (hn : (assignEach es X.env).length = n := by rfl) (hst : (assignEach es X.env).findIdx? (·.1) = none := by rfl) : PG X (.Tuple es k pos) (LG (gOf B X) E (tupG n f)) := (pg_tup hc h hn hst).imp fun v sg H Q w => by
  obtain ⟨q, d, env, st, rs, re, rd, p⟩ := w
  cases d with
  | tup ds =>
    obtain ⟨a, xs, rfl, hs, rx⟩ := rd.tup_inv
    by_cases hl : ds.length = n
    · have z : tupG n f (.tup ds) env st = f ds env st := if_pos hl
      rw [z] at p
      exact ⟨a, xs, rfl, hs, by rw [rx.length]; exact hl, q, ds, env, st, rs, re, rx, p⟩
    · have z : tupG n f (.tup ds) env st = .bad := if_neg hl
      rw [z] at p
      exact False.elim p
  | _ => exact False.elim p
def asgS (f : EF) (gf : GF) : SF := fun env st => (f env st).bind fun d s => (gf d env s).bind fun e s' => .ok (.nx e) s'
theorem asg_le {f : EF} {gf : GF} {T : Ends} {sg : L2.St} {H : Hp} (w : LS (gOf B X) E (asgS f gf) T sg H) : tAsg (LE (gOf B X) E f) (LG (gOf B X) E gf) T sg H := by
  obtain ⟨q, env, st, rs, re, p⟩ := w
  refine LE.chain rs re (R.post_bind.mp p) fun x s1 q1 v H1 p e1 rs1 re1 rx => ?_
  exact ⟨q1, x, env, s1, rs1, re1, rx, (R.post_bind.mp p).imp (fun e2 s2 p q2 H2 sg2 x2 rs2 re2 => p q2 H2 (e1.trans x2) rs2 sg2 re2) fun _ _ h => h.ext e1⟩
theorem ls_asg {tg e : Expr} {f : EF} {gf : GF} (he : PE X e (LE (gOf B X) E f)) (hg : PG X tg (LG (gOf B X) E gf)) (hs : swapsWithSole [tg] e pos.line X.env = pure false := by rfl) (hw : swappedStores [tg] e X.env = pure none := by rfl)
    (h1 : (assignEach [tg] X.env).map (·.2) = [assign tg X.env] := by rfl) : PS X (.Assign [tg] e pos) (LS (gOf B X) E (asgS f gf)) := (ps_asg he hg hs hw h1).imp fun _ _ _ w => asg_le w
def setS (i : Nat) (f : EF) : SF := fun env st => (f env st).bind fun d s => .ok (.nx (env.set i (some d))) s
theorem set_le {i : Nat} {f : EF} {T : Ends} {sg : L2.St} {H : Hp} (w : LS (gOf B X) E (setS i f) T sg H) : tAsg (LE (gOf B X) E f) (gName i) T sg H := by
  obtain ⟨q, env, st, rs, re, p⟩ := w
  exact LE.chain rs re (R.post_bind.mp p) fun x s1 q1 v H1 p e1 rs1 re1 rx => p q1 H1 e1 rs1 _ (re1.set rx)
theorem ls_set {i : Nat} {x : Str} {e : Expr} {f : EF} {pos' : Pos} (hN : X.N.Nodup) (he : PE X e (LE (gOf B X) E f)) (hi : X.N[i]? = some x := by rfl) (hx : Loc X.env.scope x := by first | exact Or.inl rfl | exact Or.inr rfl) (hs : swapsWith e (some (.Name x pos')) pos.line X.env = pure false := by rfl) (hf : X.fn x = true ∨ X.env.scope.names.lookup x = some .local := by first | exact .inl rfl | exact .inr rfl | assumption) :
    PS X (.Assign [.Name x pos'] e pos) (LS (gOf B X) E (setS i f)) := (ps_set hN hi hx he hs hf).imp fun _ _ _ w => set_le w
/-! ### a def -/
def startE (n : Nat) (ds : List D) : EnvD := ds.map some ++ List.replicate (n - ds.length) none
def fnF (n : Nat) (f : SF) : Fn := fun ds st => (f (startE n ds) st).bind fun fl s => match fl with
  | .nx _ => .ok .non s
  | .rt d => .ok d s
  | _ => .bad
theorem RE.of {g : G} {q : List Addr} {H : Hp} : ∀ {vs : List V} {ds : List D}, RDs g q H vs ds → RE g q H (vs.map some) (ds.map some)
  | _, _, .nil => .nil
  | _, _, .cons r t => .cons (fun x e => by cases e; exact ⟨_, rfl, r⟩) (RE.of t)
theorem RE.start {g : G} {q : List Addr} {H : Hp} {vs : List V} {ds : List D} (r : RDs g q H vs ds) (n : Nat) : RE g q H (vs.map some ++ List.replicate (n - vs.length) none) (startE n ds) := by
  have h2 : ∀ k : Nat, RE g q H (List.replicate k none) (List.replicate k none) := by
    intro k
    induction k with
    | zero => exact .nil
    | succ k ih => exact .cons (fun x e => nomatch e) ih
  unfold startE
  rw [r.length]
  exact Paired.app (RE.of r) (h2 _)
theorem fn_le {g : G} {E : XK} {n : Nat} {f : SF} {N : List Str} {vs : List V} {H : Hp} {Q : VK} (hN : N.length = n) (w : LC g E (fnF n f) vs H Q) : LS g E f { nx := fun _ H' => Q .non H', rt := Q } (start N vs) H := by
  obtain ⟨q, st, ds, rs, rd, p⟩ := w
  subst hN
  refine ⟨q, startE N.length ds, st, rs, RE.start rd _, (R.post_bind.mp p).imp (fun fl s p q1 H1 e1 rs1 => ?_) fun _ _ h => h⟩
  cases fl with
  | nx e => exact fun sg re => p q1 _ H1 e1 rs1 .non
  | rt d => exact fun v rv => p q1 v H1 e1 rs1 rv
  | bk e => exact False.elim p
  | ct e => exact False.elim p
end
end VL

/-! VL3: what the built-in operations are on data; loops, comprehensions; the rule for a def. -/
namespace L2
open PySem PySem.Spec PyProof.Rows
section
variable {X : Cx}
theorem OpR.rI0 {op : Value → Value → Sem Value} {v : Int → Int → V} (h : OpR X op (rI0 v)) : OpR X op (rI (fun _ _ => True) v) := h.imp fun x y H Q ⟨i, j, h1, h2, _, h3⟩ => ⟨i, j, h1, h2, h3⟩
theorem PO.imp {e : Option Expr} {t t' : TO} (h : PO X e t) (i : ∀ sg H Q, t' sg H Q → t sg H Q) : PO X e t' := ⟨fun pins s sg H Q I w => h.run pins s sg H Q I (i _ _ _ w)⟩
end
end L2
namespace VL
open PySem PySem.Spec PyProof.Rows L2 LamX NdefX
variable {B : Tb}

section
variable {X : Cx} {E : XK}
/-- a sequence that may be read: list or tuple -/
theorem RO.seqL {g : G} {q : List Addr} {H : Hp} {a : Addr} {ds : List D} (h : RO g q H a (.lst ds) ∨ RO g q H a (.rl ds)) : ∃ xs, SqL g.K H a xs ∧ RDs g q H xs ds := by
  rcases h with ⟨xs, h, r⟩ | ⟨xs, h, r⟩
  · exact ⟨xs, SqL.of h, r⟩
  · exact ⟨xs, h.sq, r⟩
/-- the items of the list n -/
def listAt (st : Sto) (n : Nat) : Option (List D) := match st[n]? with
  | some (.lst xs) => some xs
  | some (.rl xs) => some xs
  | _ => none
theorem listAt_lst {st : Sto} {n : Nat} {xs : List D} (h : st[n]? = some (.lst xs)) : listAt st n = some xs := by unfold listAt; rw [h]
theorem listAt_rl {st : Sto} {n : Nat} {xs : List D} (h : st[n]? = some (.rl xs)) : listAt st n = some xs := by unfold listAt; rw [h]
theorem RS.listAt {g : G} {q : List Addr} {H : Hp} {st : Sto} (rs : RS g q H st) {n : Nat} {ds : List D} (h : listAt st n = some ds) : ∃ a xs, q[n]? = some a ∧ SqL g.K H a xs ∧ RDs g q H xs ds := by
  unfold VL.listAt at h
  split at h
  · rename_i xs e
    cases h
    obtain ⟨a, h1, h2⟩ := rs.get e
    obtain ⟨ys, h3, h4⟩ := RO.seqL (.inl h2)
    exact ⟨a, ys, h1, h3, h4⟩
  · rename_i xs e
    cases h
    obtain ⟨a, h1, h2⟩ := rs.get e
    obtain ⟨ys, h3, h4⟩ := RO.seqL (.inr h2)
    exact ⟨a, ys, h1, h3, h4⟩
  · cases h
theorem RS.lstAt {g : G} {q : List Addr} {H : Hp} {st : Sto} (rs : RS g q H st) {n : Nat} {ds : List D} (h : st[n]? = some (.lst ds)) : ∃ a xs, q[n]? = some a ∧ H a = some (.lst xs) ∧ RDs g q H xs ds := by
  obtain ⟨a, h1, xs, h2, h3⟩ := rs.get h
  exact ⟨a, xs, h1, h2, h3⟩

/-! ### arithmetic -/
def addD : D → D → Sto → R D
  | .int a, .int b, st => .ok (.int (a + b)) st
  | .str a, .str b, st => if a.length + b.length ≤ sizeLine then .ok (.str (a ++ b)) st else .bad
  | .tup a, .tup b, st => if a.length + b.length ≤ sizeLine then .ok (.tup (a ++ b)) st else .bad
  | .ref m, .ref n, st => match st[m]?, st[n]? with
    | some (.lst a), some (.lst b) => if a.length + b.length ≤ sizeLine then newO (.lst (a ++ b)) st else .bad
    | _, _ => .bad
  | _, _, _ => .bad
theorem op_addD : OpR X (binaryOp .Add) (LR (gOf B X) E addD) := ((op_add.or op_add_str).or (op_cat.or op_catA)).imp fun x y H Q w => by
  obtain ⟨q, st, a, b, rs, ra, rb, p⟩ := w
  cases a with
  | int i =>
    cases b with
    | int j => rw [ra.int_inv, rb.int_inv]; exact .inl (.inl ⟨i, j, rfl, rfl, p q _ H Ext.refl rs (.int _)⟩)
    | _ => exact False.elim p
  | str i =>
    cases b with
    | str j =>
      rw [ra.str_inv, rb.str_inv]
      by_cases hz : i.length + j.length ≤ sizeLine
      · have p : ((if i.length + j.length ≤ sizeLine then .ok (.str (i ++ j)) st else .bad) : R D).post _ _ := p
        rw [if_pos hz] at p
        exact .inl (.inr ⟨i, j, rfl, rfl, hz, p q _ H Ext.refl rs (.str _)⟩)
      · have p : ((if i.length + j.length ≤ sizeLine then .ok (.str (i ++ j)) st else .bad) : R D).post _ _ := p
        rw [if_neg hz] at p
        exact False.elim p
    | _ => exact False.elim p
  | tup i =>
    cases b with
    | tup j =>
      obtain ⟨a, xs, rfl, sa, rx⟩ := ra.tup_inv
      obtain ⟨b, ys, rfl, sb, ry⟩ := rb.tup_inv
      by_cases hz : i.length + j.length ≤ sizeLine
      · have p : ((if i.length + j.length ≤ sizeLine then .ok (.tup (i ++ j)) st else .bad) : R D).post _ _ := p
        rw [if_pos hz] at p
        have rxy := rx.append ry
        refine .inr (.inr ⟨a, b, xs, ys, rfl, rfl, sa, sb, by rw [rx.length, ry.length]; exact hz, fun e => ?_, fun _ e => ?_, fun _ _ t ht => ?_⟩)
        · subst e
          exact p q _ H Ext.refl rs (.tup sb rxy)
        · subst e
          rw [List.append_nil] at rxy
          exact p q _ H Ext.refl rs (.tup sa rxy)
        · obtain ⟨e2, rs2, r2⟩ := tup_new rs ht rxy
          exact p _ _ _ e2 rs2 r2
      · have p : ((if i.length + j.length ≤ sizeLine then .ok (.tup (i ++ j)) st else .bad) : R D).post _ _ := p
        rw [if_neg hz] at p
        exact False.elim p
    | _ => exact False.elim p
  | ref m =>
    cases b with
    | ref n =>
      have p : (match st[m]?, st[n]? with
        | some (.lst a), some (.lst b) => if a.length + b.length ≤ sizeLine then newO (.lst (a ++ b)) st else .bad
        | _, _ => .bad : R D).post _ _ := p
      split at p
      · rename_i i j e1 e2
        split at p
        · rename_i hz
          obtain ⟨a, xs, qa, ha, rx⟩ := rs.lstAt e1
          obtain ⟨b, ys, qb, hb, ry⟩ := rs.lstAt e2
          obtain ⟨a', rfl, qa'⟩ := ra.ref_inv
          obtain ⟨b', rfl, qb'⟩ := rb.ref_inv
          rw [qa] at qa'; cases qa'
          rw [qb] at qb'; cases qb'
          refine .inr (.inl ⟨a, b, xs, ys, rfl, rfl, ha, hb, by rw [rx.length, ry.length]; exact hz, fun t ht => ?_⟩)
          obtain ⟨e2, rs2, r2⟩ := lst_new rs ht (rx.append ry)
          exact p _ _ _ e2 rs2 r2
        · exact False.elim p
      · exact False.elim p
    | _ => exact False.elim p
  | _ => exact False.elim p
/-- two ints, under a condition -/
def intD (c : Int → Int → Bool) (f : Int → Int → D) : D → D → Sto → R D
  | .int a, .int b, st => if c a b = true then .ok (f a b) st else .bad
  | _, _, _ => .bad
theorem op_intD {op : Value → Value → Sem Value} {C : Int → Int → Prop} {v : Int → Int → V} {c : Int → Int → Bool} {f : Int → Int → D} (h : OpR X op (rI C v)) (hc : ∀ i j, c i j = true → C i j) (hv : ∀ q H i j, RD (gOf B X) q H (v i j) (f i j)) : OpR X op (LR (gOf B X) E (intD c f)) := h.imp fun x y H Q w => by
  obtain ⟨q, st, a, b, rs, ra, rb, p⟩ := w
  cases a with
  | int i =>
    cases b with
    | int j =>
      have p : ((if c i j = true then .ok (f i j) st else .bad) : R D).post _ _ := p
      split at p
      · rename_i hcc
        exact ⟨i, j, ra.int_inv, rb.int_inv, hc i j hcc, p q _ H Ext.refl rs (hv q H i j)⟩
      · exact False.elim p
    | _ => exact False.elim p
  | _ => exact False.elim p
def yes2 : Int → Int → Bool := fun _ _ => true
abbrev subD := intD yes2 fun a b => .int (a - b)
/-- within the model's line -/
def MulOk (a b : Int) : Prop := a.natAbs.log2 + b.natAbs.log2 < 1000000 ∨ a.natAbs < 2 ^ 64 ∨ b.natAbs < 2 ^ 64
instance {a b : Int} : Decidable (MulOk a b) := inferInstanceAs (Decidable (_ ∨ _ ∨ _))
abbrev mulD := intD (fun a b => decide (MulOk a b)) fun a b => .int (a * b)
abbrev modD := intD (fun _ b => decide (0 < b)) fun a b => .int (a % b)
abbrev divD := intD (fun _ b => decide (0 < b ∧ b.natAbs.log2 < 9000)) fun a b => .int (a / b)
abbrev powD := intD (fun a b => decide (0 ≤ b ∧ b ≤ 1000000 ∧ a.natAbs < 2 ^ 64)) fun a b => .int (a ^ b.toNat)
abbrev ltD := intD yes2 fun a b => .bl (decide (a < b))
abbrev leD := intD yes2 fun a b => .bl (decide (a ≤ b))
abbrev gtD := intD yes2 fun a b => .bl (decide (b < a))
abbrev geD := intD yes2 fun a b => .bl (decide (b ≤ a))
theorem op_subD : OpR X (binaryOp .Sub) (LR (gOf B X) E subD) := op_intD op_sub.rI0 (fun _ _ _ => trivial) fun _ _ _ _ => .int _
theorem op_mulD : OpR X (binaryOp .Mult) (LR (gOf B X) E mulD) := op_intD (C := MulOk) ((op_mul.or op_mulW).imp fun x y H Q ⟨i, j, e1, e2, c, q⟩ => by
  rcases c with c | c | c
  · exact .inr ⟨i, j, e1, e2, c, q⟩
  · exact .inl ⟨i, j, e1, e2, .inl (by omega), q⟩
  · exact .inl ⟨i, j, e1, e2, .inr (by omega), q⟩) (fun i j h => of_decide_eq_true (p := MulOk i j) h) fun _ _ _ _ => .int _
theorem op_modD : OpR X (binaryOp .Mod) (LR (gOf B X) E modD) := op_intD op_mod (fun i j h => of_decide_eq_true (p := 0 < j) h) fun _ _ _ _ => .int _
theorem op_divD : OpR X (binaryOp .FloorDiv) (LR (gOf B X) E divD) := op_intD op_fdivW (fun i j h => of_decide_eq_true (p := _ ∧ _) h) fun _ _ _ _ => .int _
theorem op_powD : OpR X (binaryOp .Pow) (LR (gOf B X) E powD) := op_intD op_pow (fun i j h => of_decide_eq_true (p := _ ∧ _) h) fun _ _ _ _ => .int _
theorem op_ltD : OpR X (compareOp .Lt) (LR (gOf B X) E ltD) := op_intD op_lt.rI0 (fun _ _ _ => trivial) fun _ _ _ _ => .bl _
theorem op_leD : OpR X (compareOp .LtE) (LR (gOf B X) E leD) := op_intD op_le.rI0 (fun _ _ _ => trivial) fun _ _ _ _ => .bl _
theorem op_gtD : OpR X (compareOp .Gt) (LR (gOf B X) E gtD) := op_intD op_gt.rI0 (fun _ _ _ => trivial) fun _ _ _ _ => .bl _
theorem op_geD : OpR X (compareOp .GtE) (LR (gOf B X) E geD) := op_intD op_ge.rI0 (fun _ _ _ => trivial) fun _ _ _ _ => .bl _
def negD : D → Sto → R D
  | .int a, st => .ok (.int (-a)) st
  | _, _ => .bad
def un1 (f : D → Sto → R D) (fa : EF) : EF := fun env st => (fa env st).bind f
theorem le_neg {a : Expr} {fa : EF} {pos : Pos} (ha : PE X a (LE (gOf B X) E fa)) : PE X (.UnaryOp .USub a pos) (LE (gOf B X) E (un1 negD fa)) := (pe_un un_neg ha).imp fun sg H Q w => by
  obtain ⟨q, env, st, rs, re, p⟩ := w
  refine LE.chain rs re (R.post_bind.mp p) fun x s1 q1 v H1 p e1 rs1 re1 rx => ?_
  cases x with
  | int i => exact ⟨i, rx.int_inv, p q1 _ H1 e1 rs1 (.int _)⟩
  | _ => exact False.elim p

/-! ### == -/
mutual
/-- as the library's data -/
def toPy : D → Option PyData
  | .non => some .none
  | .bl b => some (.bool b)
  | .int i => some (.int i)
  | .str x => some (.str x)
  | .tup xs => (toPys xs).map .tuple
  | .ref _ => none
  | .glb _ => none
  | .ty _ => none
  | .clo _ _ => none
def toPys : List D → Option (List PyData)
  | [] => some []
  | x :: xs => (toPy x).bind fun k => (toPys xs).map fun ks => k :: ks
end
mutual
theorem RD.dp {g : G} {q : List Addr} {H : Hp} : ∀ {v : V} {d : D} {p : PyData}, RD g q H v d → toPy d = some p → Dp g.K H v p
  | _, _, _, .non, e => by cases e; exact .non
  | _, _, _, .bl b, e => by cases e; exact .bl b
  | _, _, _, .int b, e => by cases e; exact .int b
  | _, _, _, .str b, e => by cases e; exact .str b
  | _, .tup ds, p, .tup h r, e => by
    unfold toPy at e
    obtain ⟨ps, h1, h2⟩ := Option.map_eq_some_iff.mp e
    subst h2
    exact .tup h (RDs.dp r h1)
  | _, .clo _ _, _, _, e => by unfold toPy at e; cases e
theorem RDs.dp {g : G} {q : List Addr} {H : Hp} : ∀ {v : List V} {d : List D} {p : List PyData}, RDs g q H v d → toPys d = some p → DpAll g.K H v p
  | _, _, _, .nil, e => by cases e; exact .nil
  | _, x :: xs, p, .cons r t, e => by
    unfold toPys at e
    obtain ⟨k, h1, h2⟩ := Option.bind_eq_some_iff.mp e
    obtain ⟨ks, h3, h4⟩ := Option.map_eq_some_iff.mp h2
    subst h4
    exact .cons (RD.dp r h1) (RDs.dp t h3)
end
/-- two scalars of which == is told at once -/
def sEq : D → D → Option Bool
  | .non, .non => some true
  | .non, .int _ => some false | .int _, .non => some false | .non, .bl _ => some false | .bl _, .non => some false | .non, .str _ => some false | .str _, .non => some false
  | .int a, .int b => some (decide (a = b))
  | .bl a, .bl b => some (decide (a = b))
  | .str a, .str b => some (decide (a = b))
  | .int _, .str _ => some false | .str _, .int _ => some false | .bl _, .str _ => some false | .str _, .bl _ => some false
  | _, _ => none
/-- a == b of data without lists -/
def eqP (a b : D) : Option Bool := match sEq a b with
  | some c => some c
  | none => match toPy a, toPy b with
    | some p, some r => if (SeqAt.shaped p && SeqAt.shaped r) = true then some (PyData.eqv p r) else none
    | _, _ => none
def eqD (a b : D) (st : Sto) : R D := match eqP a b with
  | some c => .ok (.bl c) st
  | none => .bad
def neD (a b : D) (st : Sto) : R D := match eqP a b with
  | some c => .ok (.bl (!c)) st
  | none => .bad
theorem sEq_scal {g : G} {q : List Addr} {H : Hp} {x y : V} {a b : D} {c : Bool} (ra : RD g q H x a) (rb : RD g q H y b) (h : sEq a b = some c) : scal x y = true ∧ decide (x = y) = c := by
  cases a <;> cases b <;> first
    | (cases h; done)
    | (cases ra; cases rb; cases h; exact ⟨rfl, by simp⟩)
theorem eqP_of {g : G} {q : List Addr} {H : Hp} {x y : V} {a b : D} {c : Bool} (ra : RD g q H x a) (rb : RD g q H y b) (h : eqP a b = some c) :
    (scal x y = true ∧ decide (x = y) = c) ∨ ∃ d e, Dp g.K H x d ∧ Dp g.K H y e ∧ SeqAt.shaped d = true ∧ SeqAt.shaped e = true ∧ PyData.eqv d e = c := by
  unfold eqP at h
  split at h
  · rename_i c' e
    cases h
    exact .inl (sEq_scal ra rb e)
  · split at h
    · rename_i p r e1 e2
      split at h
      · rename_i hs
        cases h
        rw [Bool.and_eq_true] at hs
        exact .inr ⟨p, r, ra.dp e1, rb.dp e2, hs.1, hs.2, rfl⟩
      · cases h
    · cases h
theorem op_eqDD (hu : X.A.units + 64 < cLine) : OpR X (compareOp .Eq) (LR (gOf B X) E eqD) := (op_eq.or (op_eqD hu)).imp fun x y H Q w => by
  obtain ⟨q, st, a, b, rs, ra, rb, p⟩ := w
  unfold eqD at p
  split at p
  · rename_i c e
    have k := p q (.bl c) H Ext.refl rs (.bl c)
    rcases eqP_of ra rb e with ⟨h1, h2⟩ | ⟨d, e, h1, h2, h3, h4, h5⟩
    · exact .inl ⟨h1, by rw [h2]; exact k⟩
    · exact .inr ⟨d, e, h1, h2, h3, h4, by rw [h5]; exact k⟩
  · exact False.elim p
theorem op_neDD (hu : X.A.units + 64 < cLine) : OpR X (compareOp .NotEq) (LR (gOf B X) E neD) := (op_ne.or (op_neD hu)).imp fun x y H Q w => by
  obtain ⟨q, st, a, b, rs, ra, rb, p⟩ := w
  unfold neD at p
  split at p
  · rename_i c e
    have k := p q (.bl (!c)) H Ext.refl rs (.bl (!c))
    rcases eqP_of ra rb e with ⟨h1, h2⟩ | ⟨d, e, h1, h2, h3, h4, h5⟩
    · exact .inl ⟨h1, by rw [h2]; exact k⟩
    · exact .inr ⟨d, e, h1, h2, h3, h4, by rw [h5]; exact k⟩
  · exact False.elim p
/-- x is None -/
def isN (neg : Bool) : D → D → Sto → R D
  | a, .non, st => .ok (.bl (match a with | .non => !neg | _ => neg)) st
  | _, _, _ => .bad
theorem RD.isnon {g : G} {q : List Addr} {H : Hp} {x : V} {a : D} (r : RD g q H x a) : decide (x = .non) = (match a with | .non => true | _ => false) := by
  cases r <;> simp
theorem op_isND : OpR X (compareOp .Is) (LR (gOf B X) E (isN false)) := op_isN.imp fun x y H Q w => by
  obtain ⟨q, st, a, b, rs, ra, rb, p⟩ := w
  cases b with
  | non =>
    refine ⟨rb.non_inv, ?_⟩
    rw [ra.isnon]
    have k := p q _ H Ext.refl rs (.bl _)
    cases a <;> exact k
  | _ => cases a <;> exact False.elim p
theorem op_notND : OpR X (compareOp .IsNot) (LR (gOf B X) E (isN true)) := op_notN.imp fun x y H Q w => by
  obtain ⟨q, st, a, b, rs, ra, rb, p⟩ := w
  cases b with
  | non =>
    refine ⟨rb.non_inv, ?_⟩
    rw [ra.isnon]
    have k := p q _ H Ext.refl rs (.bl _)
    cases a <;> exact k
  | _ => cases a <;> exact False.elim p

/-! ### subscripts, slices -/
def ixD : D → D → Sto → R D
  | .tup xs, .int i, st => match atI xs i with
    | some d => .ok d st
    | none => .bad
  | .ref n, .int i, st => match (listAt st n).bind fun xs => atI xs i with
    | some d => .ok d st
    | none => .bad
  | .str z, .int i, st => if z.length ≤ sizeLine then match atI z.cps.toList i with
    | some c => .ok (.str ⟨#[c]⟩) st
    | none => .bad
    else .bad
  | _, _, _ => .bad
theorem RDs.atI {g : G} {q : List Addr} {H : Hp} {xs : List V} {ds : List D} {i : Int} {d : D} (r : RDs g q H xs ds) (h : atI ds i = some d) : ∃ v, L2.atI xs i = some v ∧ RD g q H v d := by
  unfold L2.atI at h ⊢
  rw [r.length]
  obtain ⟨j, h1, h2⟩ := Option.bind_eq_some_iff.mp h
  rw [h1]
  exact r.get h2
theorem ix_D : IxR X (LR (gOf B X) E ixD) := ix_seq.imp fun x y H Q w => by
  obtain ⟨q, st, a, b, rs, ra, rb, p⟩ := w
  cases b with
  | int i =>
    cases a with
    | tup ds =>
      have p : (match atI ds i with | some d => .ok d st | none => .bad : R D).post _ _ := p
      split at p
      · rename_i d e
        obtain ⟨a, xs, rfl, hs, rx⟩ := ra.tup_inv
        obtain ⟨v, h1, h2⟩ := rx.atI e
        exact .inr (.inl ⟨a, xs, i, v, rfl, rb.int_inv, hs, h1, p q v H Ext.refl rs h2⟩)
      · exact False.elim p
    | ref n =>
      have p : (match (listAt st n).bind fun xs => atI xs i with | some d => .ok d st | none => .bad : R D).post _ _ := p
      split at p
      · rename_i d e
        obtain ⟨ds, e1, e2⟩ := Option.bind_eq_some_iff.mp e
        obtain ⟨a, xs, qa, hs, rx⟩ := rs.listAt e1
        obtain ⟨a', rfl, qa'⟩ := ra.ref_inv
        rw [qa] at qa'; cases qa'
        obtain ⟨v, h1, h2⟩ := rx.atI e2
        exact .inl ⟨a, xs, i, v, rfl, rb.int_inv, hs, h1, p q v H Ext.refl rs h2⟩
      · exact False.elim p
    | str z =>
      have p : (if z.length ≤ sizeLine then match atI z.cps.toList i with
        | some c => .ok (.str ⟨#[c]⟩) st
        | none => .bad
        else .bad : R D).post _ _ := p
      split at p
      · rename_i hz
        split at p
        · rename_i c e
          exact .inr (.inr ⟨z, i, c, ra.str_inv, rb.int_inv, hz, e, p q _ H Ext.refl rs (.str _)⟩)
        · exact False.elim p
      · exact False.elim p
    | _ => exact False.elim p
  | _ => cases a <;> exact False.elim p

/-- a part of a slice: none, or an int -/
abbrev OF := EnvD → Sto → R (Option Int)
def LO (g : G) (E : XK) (f : OF) : TO := fun sg H Q => ∃ q env st, RS g q H st ∧ RE g q H sg env ∧ (f env st).post (fun o st' => ∀ q' H', Ext q H q' H' → RS g q' H' st' → Q o H') (KX g q H E)
def nonO : OF := fun _ st => .ok none st
def someO (f : EF) : OF := fun env st => (f env st).bind fun d s => match d with
  | .int i => .ok (some i) s
  | _ => .bad
theorem lo_none : PO X none (LO (gOf B X) E nonO) := po_none.imp fun sg H Q w => by
  obtain ⟨q, env, st, rs, re, p⟩ := w
  exact p q H Ext.refl rs
theorem lo_some {e : Expr} {f : EF} (h : PE X e (LE (gOf B X) E f)) : PO X (some e) (LO (gOf B X) E (someO f)) := (po_some h).imp fun sg H Q w => by
  obtain ⟨q, env, st, rs, re, p⟩ := w
  refine LE.chain rs re (R.post_bind.mp p) fun x s1 q1 v H1 p e1 rs1 re1 rx => ?_
  cases x with
  | int i => exact ⟨i, rx.int_inv, p q1 H1 e1 rs1⟩
  | _ => exact False.elim p
def cutD (xs : List D) (lo hi : Option Int) : List D := (xs.drop (HT.sIx xs.length 0 lo)).take (HT.sIx xs.length xs.length hi - HT.sIx xs.length 0 lo)
theorem RDs.cut {g : G} {q : List Addr} {H : Hp} {xs : List V} {ds : List D} (r : RDs g q H xs ds) (lo hi : Option Int) : RDs g q H (cutV xs lo hi) (cutD ds lo hi) := by
  unfold cutV cutD
  rw [r.length]
  exact (r.drop _).take _
def slD : D → Option Int → Option Int → Sto → R D
  | .tup xs, lo, hi, st => .ok (.tup (cutD xs lo hi)) st
  | .ref n, lo, hi, st => match listAt st n with
    | some xs => newO (.lst (cutD xs lo hi)) st
    | none => .bad
  | .str z, lo, hi, st => if z.length ≤ sizeLine then .ok (.str (cutS z lo hi)) st else .bad
  | _, _, _, _ => .bad
def slF (fa : EF) (fl fh : OF) : EF := fun env st => (fa env st).bind fun d s => (fl env s).bind fun lo s1 => (fh env s1).bind fun hi s2 => slD d lo hi s2
theorem slD_ok {g : G} {q : List Addr} {H : Hp} {Q : VK} {K' : Str → Sto → Prop} {x : V} {d : D} {lo hi : Option Int} {st : Sto} (rs : RS g q H st) (rx : RD g q H x d) (p : (slD d lo hi st).post (KV g q H Q) K') :
    rSlA g.K x lo hi H Q ∨ rSlL g.K x lo hi H Q ∨ rSlS x lo hi H Q := by
  cases d with
  | tup ds =>
    obtain ⟨a, xs, rfl, hs, r⟩ := rx.tup_inv
    refine .inl ⟨a, xs, rfl, hs, fun hw => ?_, fun _ t ht => ?_⟩
    · have e : cutV xs lo hi = xs := by
        unfold cutV
        rw [hw.1, hw.2, List.drop_zero, Nat.sub_zero, List.take_length]
      have rc := r.cut lo hi
      rw [e] at rc
      exact p q _ H Ext.refl rs (.tup hs rc)
    · obtain ⟨e2, rs2, r2⟩ := tup_new rs ht (r.cut lo hi)
      exact p _ _ _ e2 rs2 r2
  | ref n =>
    have p : (match listAt st n with | some xs => newO (.lst (cutD xs lo hi)) st | none => .bad : R D).post _ _ := p
    split at p
    · rename_i ds e
      obtain ⟨a, xs, qa, hs, r⟩ := rs.listAt e
      obtain ⟨a', rfl, qa'⟩ := rx.ref_inv
      rw [qa] at qa'; cases qa'
      refine .inr (.inl ⟨a, xs, rfl, hs, fun t ht => ?_⟩)
      obtain ⟨e2, rs2, r2⟩ := lst_new rs ht (r.cut lo hi)
      exact p _ _ _ e2 rs2 r2
    · exact False.elim p
  | str z =>
    have p : (if z.length ≤ sizeLine then .ok (.str (cutS z lo hi)) st else .bad : R D).post _ _ := p
    split at p
    · rename_i hz
      exact .inr (.inr ⟨z, rx.str_inv, hz, p q _ H Ext.refl rs (.str _)⟩)
    · exact False.elim p
  | _ => exact False.elim p
theorem le_slice {e : Expr} {lo hi : Option Expr} {fa : EF} {fl fh : OF} {pos p2 : Pos} (he : PE X e (LE (gOf B X) E fa)) (hl : PO X lo (LO (gOf B X) E fl)) (hh : PO X hi (LO (gOf B X) E fh)) : PE X (.Subscript e (.Slice lo hi none p2) pos) (LE (gOf B X) E (slF fa fl fh)) :=
  (pe_slice (sl_tupA.or (sl_list.or sl_str)) he hl hh).imp fun sg H Q w => by
    obtain ⟨q, env, st, rs, re, p⟩ := w
    refine LE.chain rs re (R.post_bind.mp p) fun d s1 q1 v H1 p e1 rs1 re1 rx => ?_
    refine ⟨q1, env, s1, rs1, re1, (R.post_bind.mp p).imp (fun o s2 p q2 H2 e2 rs2 => ?_) fun _ _ h => h.ext e1⟩
    refine ⟨q2, env, s2, rs2, re1.ext e2, (R.post_bind.mp p).imp (fun o' s3 p q3 H3 e3 rs3 => ?_) fun _ _ h => h.ext (e1.trans e2)⟩
    exact slD_ok rs3 (rx.ext (e2.trans e3)) (p.imp (fun _ _ h => h.ext (e1.trans (e2.trans e3))) fun _ _ h => h)

/-! ### len, tuple, list, min, max, abs -/
def lenD : List D → Sto → R D
  | [.tup xs], st => .ok (.int xs.length) st
  | [.str z], st => if z.length ≤ sizeLine then .ok (.int z.length) st else .bad
  | [.ref n], st => match listAt st n with
    | some xs => .ok (.int xs.length) st
    | none => .bad
  | _, _ => .bad
theorem RDs.one_inv {g : G} {q : List Addr} {H : Hp} {vs : List V} {d : D} (r : RDs g q H vs [d]) : ∃ v, vs = [v] ∧ RD g q H v d := by
  cases r with | cons r t => cases t; exact ⟨_, rfl, r⟩
theorem RDs.two_inv {g : G} {q : List Addr} {H : Hp} {vs : List V} {d e : D} (r : RDs g q H vs [d, e]) : ∃ v w, vs = [v, w] ∧ RD g q H v d ∧ RD g q H w e := by
  cases r with | cons r t => cases t with | cons r' t' => cases t'; exact ⟨_, _, rfl, r, r'⟩
theorem call_lenD : CallR X (.builtin "len") (LC (gOf B X) E lenD) := call_len.imp fun vs H Q w => by
  obtain ⟨q, st, ds, rs, rd, p⟩ := w
  unfold lenD at p
  split at p
  · obtain ⟨v, rfl, r⟩ := rd.one_inv
    obtain ⟨a, xs, rfl, hs, rx⟩ := r.tup_inv
    exact ⟨_, xs.length, rfl, .inr ⟨xs, hs, rfl⟩, by rw [rx.length]; exact p q _ H Ext.refl rs (.int _)⟩
  · split at p
    · rename_i hz
      obtain ⟨v, rfl, r⟩ := rd.one_inv
      rw [r.str_inv]
      exact ⟨_, _, rfl, ⟨hz, rfl⟩, p q _ H Ext.refl rs (.int _)⟩
    · exact False.elim p
  · split at p
    · rename_i xs e
      obtain ⟨v, rfl, r⟩ := rd.one_inv
      obtain ⟨a, ys, qa, hs, rx⟩ := rs.listAt e
      obtain ⟨a', rfl, qa'⟩ := r.ref_inv
      rw [qa] at qa'; cases qa'
      exact ⟨_, ys.length, rfl, .inl ⟨ys, hs, rfl⟩, by rw [rx.length]; exact p q _ H Ext.refl rs (.int _)⟩
    · exact False.elim p
  · exact False.elim p
def tupleD : List D → Sto → R D
  | [.tup xs], st => .ok (.tup xs) st
  | [.ref n], st => match listAt st n with
    | some xs => .ok (.tup xs) st
    | none => .bad
  | _, _ => .bad
theorem call_tupleD : CallR X (.type "tuple") (LC (gOf B X) E tupleD) := call_tuple_of.imp fun vs H Q w => by
  obtain ⟨q, st, ds, rs, rd, p⟩ := w
  unfold tupleD at p
  split at p
  · obtain ⟨v, rfl, r⟩ := rd.one_inv
    obtain ⟨a, xs, rfl, hs, rx⟩ := r.tup_inv
    exact ⟨a, xs, rfl, .inr ⟨hs, p q _ H Ext.refl rs (.tup hs rx)⟩⟩
  · split at p
    · rename_i xs e
      obtain ⟨v, rfl, r⟩ := rd.one_inv
      obtain ⟨a, ys, qa, hs, rx⟩ := rs.listAt e
      obtain ⟨a', rfl, qa'⟩ := r.ref_inv
      rw [qa] at qa'; cases qa'
      refine ⟨a, ys, rfl, .inl ⟨hs, fun t ht => ?_⟩⟩
      obtain ⟨e2, rs2, r2⟩ := tup_new rs ht rx
      exact p _ _ _ e2 rs2 r2
    · exact False.elim p
  · exact False.elim p
def listD : List D → Sto → R D
  | [.tup xs], st => newO (.lst xs) st
  | [.ref n], st => match listAt st n with
    | some xs => newO (.lst xs) st
    | none => .bad
  | _, _ => .bad
theorem call_listD : CallR X (.type "list") (LC (gOf B X) E listD) := call_list_of.imp fun vs H Q w => by
  obtain ⟨q, st, ds, rs, rd, p⟩ := w
  unfold listD at p
  split at p
  · obtain ⟨v, rfl, r⟩ := rd.one_inv
    obtain ⟨a, xs, rfl, hs, rx⟩ := r.tup_inv
    refine ⟨a, xs, rfl, .inr hs, fun t ht => ?_⟩
    obtain ⟨e2, rs2, r2⟩ := lst_new rs ht rx
    exact p _ _ _ e2 rs2 r2
  · split at p
    · rename_i xs e
      obtain ⟨v, rfl, r⟩ := rd.one_inv
      obtain ⟨a, ys, qa, hs, rx⟩ := rs.listAt e
      obtain ⟨a', rfl, qa'⟩ := r.ref_inv
      rw [qa] at qa'; cases qa'
      refine ⟨a, ys, rfl, .inl hs, fun t ht => ?_⟩
      obtain ⟨e2, rs2, r2⟩ := lst_new rs ht rx
      exact p _ _ _ e2 rs2 r2
    · exact False.elim p
  · exact False.elim p
def int2D (f : Int → Int → Int) : List D → Sto → R D
  | [.int a, .int b], st => .ok (.int (f a b)) st
  | _, _ => .bad
theorem call_int2D {id : String} {f : Int → Int → Int} (h : CallR X (.builtin id) (fun xs H Q => ∃ i j, xs = [.int i, .int j] ∧ Q (.int (f i j)) H)) : CallR X (.builtin id) (LC (gOf B X) E (int2D f)) := h.imp fun vs H Q w => by
  obtain ⟨q, st, ds, rs, rd, p⟩ := w
  unfold int2D at p
  split at p
  · obtain ⟨v, w', rfl, r1, r2⟩ := rd.two_inv
    exact ⟨_, _, by rw [r1.int_inv, r2.int_inv], p q _ H Ext.refl rs (.int _)⟩
  · exact False.elim p
abbrev minD := int2D fun i j => if j < i then j else i
abbrev maxD := int2D fun i j => if j > i then j else i
theorem call_minD (hc : X.calm = true) : CallR X (.builtin "min") (LC (gOf B X) E minD) := call_int2D (call_min2 hc)
theorem call_maxD (hc : X.calm = true) : CallR X (.builtin "max") (LC (gOf B X) E maxD) := call_int2D (call_max2 hc)
def bools : List D → Option (List Bool)
  | [] => some []
  | .bl b :: r => (bools r).map fun bs => b :: bs
  | _ :: _ => none
theorem RDs.bools {g : G} {q : List Addr} {H : Hp} : ∀ {vs : List V} {ds : List D} {bs : List Bool}, RDs g q H vs ds → bools ds = some bs → vs = bs.map V.bl
  | _, _, _, .nil, e => by cases e; rfl
  | _, _, bs, .cons (d := .bl b) r t, e => by
    unfold VL.bools at e
    obtain ⟨cs, h1, h2⟩ := Option.map_eq_some_iff.mp e
    subst h2
    rw [r.bl_inv, RDs.bools t h1]
    rfl
  | _, _, _, .cons (d := .non) r t, e => nomatch e
  | _, _, _, .cons (d := .int _) r t, e => nomatch e
  | _, _, _, .cons (d := .str _) r t, e => nomatch e
  | _, _, _, .cons (d := .tup _) r t, e => nomatch e
  | _, _, _, .cons (d := .ref _) r t, e => nomatch e
  | _, _, _, .cons (d := .glb _) r t, e => nomatch e
  | _, _, _, .cons (d := .ty _) r t, e => nomatch e
def allD : List D → Sto → R D
  | [.ref n], st => match (listAt st n).bind bools with
    | some bs => .ok (.bl (bs.all id)) st
    | none => .bad
  | _, _ => .bad
theorem call_allD (hc : X.calm = true) : CallR X (.builtin "all") (LC (gOf B X) E allD) := (cr_all hc).imp fun vs H Q w => by
  obtain ⟨q, st, ds, rs, rd, p⟩ := w
  unfold allD at p
  split at p
  · split at p
    · rename_i bs e
      obtain ⟨xs, e1, e2⟩ := Option.bind_eq_some_iff.mp e
      obtain ⟨v, rfl, r⟩ := rd.one_inv
      obtain ⟨a, ys, qa, hs, rx⟩ := rs.listAt e1
      obtain ⟨a', rfl, qa'⟩ := r.ref_inv
      rw [qa] at qa'; cases qa'
      rw [rx.bools e2] at hs
      exact ⟨a, bs, rfl, hs, p q _ H Ext.refl rs (.bl _)⟩
    · exact False.elim p
  · exact False.elim p

/-! ### append -/
/-- a method of a built-in type: the receiver and the arguments -/
def LM (g : G) (E : XK) (f : D → List D → Sto → R D) : V → List V → Hp → VK → Prop := fun v vs H Q => ∃ q st d ds, RS g q H st ∧ RD g q H v d ∧ RDs g q H vs ds ∧ (f d ds st).post (KV g q H Q) (KX g q H E)
/-- the receiver's built-in type, as a method is looked up -/
def tyD (T : String) (d : D) (st : Sto) : Prop := match d with
  | .str _ => T = "str"
  | .ref n => (T = "list" ∧ (listAt st n).isSome = true) ∨ (T = "dict" ∧ ∃ kvs, st[n]? = some (.dic kvs))
  | _ => False
theorem tyD_is {g : G} {q : List Addr} {H : Hp} {st : Sto} {T : String} {pins : List (Addr × Obj)} {sg : L2.St} {s : Shared} {x : V} {d : D} {v : Value} (I : Inv X pins sg H s) (rs : RS (gOf B X) q H st) (rx : RD (gOf B X) q H x d) (r : RelV x v) (ty : tyD T d st) :
    s.TypeIs v T ∧ ∀ a, v = .ref a → ∃ ob, s.heap.get? a = some ob ∧ ob.dict = none := by
  cases d with
  | str z =>
    refine tyV_is (T := T) I r ?_
    rw [rx.str_inv]
    exact ty
  | ref n =>
    obtain ⟨a, rfl, qa⟩ := rx.ref_inv
    rcases ty with ⟨rfl, h⟩ | ⟨rfl, kvs, h⟩
    · obtain ⟨ds, h⟩ := Option.isSome_iff_exists.mp h
      obtain ⟨b, xs, qb, hs, _⟩ := rs.listAt h
      rw [qa] at qb; cases qb
      exact tyV_is (T := "list") I r (.inl ⟨rfl, xs, hs⟩)
    · obtain ⟨b, qb, hb⟩ := rs.get h
      rw [qa] at qb; cases qb
      rcases hb with ⟨gs, hk, _⟩ | ⟨_, xs, hk, _⟩
      · exact tyV_is (T := "dict") I r (.inr (.inr (.inl ⟨rfl, .inl ⟨gs, hk⟩⟩)))
      · cases r
        obtain ⟨⟨_, o, es, ep, e, ex, _⟩, _⟩ := I.hok a _ hk
        exact ⟨⟨o, e, ex.1⟩, fun b eb => by cases eb; exact ⟨o, e, ex.2.1⟩⟩
  | _ => exact False.elim ty
open Classical in
noncomputable def methF (T : String) (f : D → List D → Sto → R D) (fo : EF) (fa : AF) : EF := fun env st => (fo env st).bind fun d s => if tyD T d s then (fa env s).bind fun ds s' => f d ds s' else .bad
theorem le_bm {T id : String} {f : D → List D → Sto → R D} {o e : Expr} {es : List Expr} {name : Str} {apos cpos : Pos} {fo : EF} {fa : AF} (pa : PlainAttrs T) (slot : Slot T name id) (hty : typeOf (.builtin id) = pure (.type "method_descriptor")) (hm : MtR X id (LM (gOf B X) E f)) (ho : PE X o (LE (gOf B X) E fo)) (ha : PA X (e :: es) (LA (gOf B X) E fa))
    (hbase : attributeBase o name X.env (eval o X.env) = eval o X.env := by rfl)
    (hfew : ((backTo cpos (starEach (e :: es) X.env)).all (fun x => !x.1) && (backToKw cpos (keywordEach [] X.env)).all (fun x => x.1.isSome)
      && decide ((e :: es).length + ([] : List Keyword).length + (if ([] : List Keyword).isEmpty then 0 else 1) < 30)) = true := by rfl)
    (hline : (apos.endLine == cpos.line) = true := by rfl) (hs : starEach (e :: es) X.env = (false, eval e X.env) :: starEach es X.env := by rfl) (hplain : (backTo cpos (starEach es X.env)).any (·.1) = false := by rfl) :
    PE X (.Call (.Attribute o name apos) (e :: es) [] cpos) (LE (gOf B X) E (methF T f fo fa)) := by
  refine ⟨fun pins s sg H Q I w => ?_⟩
  obtain ⟨q, env, st, rs, re, p⟩ := w
  have w2 : LE (gOf B X) E fo sg H (fun x H1 => ∃ q1 s1 d, RS (gOf B X) q1 H1 s1 ∧ RD (gOf B X) q1 H1 x d ∧ tyD T d s1 ∧ LA (gOf B X) E fa sg H1 fun vs H2 => LM (gOf B X) E f x vs H2 Q) := by
    refine LE.chain rs re (R.post_bind.mp p) fun d s1 q1 v H1 p e1 rs1 re1 rx => ?_
    by_cases ht : tyD T d s1
    · rw [if_pos ht] at p
      refine ⟨q1, s1, d, rs1, rx, ht, ?_⟩
      refine LA.chain rs1 re1 ((R.post_bind.mp p).imp (fun _ _ h => h) fun _ _ h => h.ext e1) fun ds s2 q2 vs H2 p e2 rs2 re2 rd => ?_
      exact ⟨q2, s2, d, ds, rs2, rx.ext e2, rd, p.imp (fun _ _ h => h.ext (e1.trans e2)) fun _ _ h => h.ext (e1.trans e2)⟩
    · rw [if_neg ht] at p
      exact False.elim p
  refine wpAny_Call_method_late hbase hfew hline rfl (thn (ho.run pins s sg H _ I w2) fun v s1 ⟨x, H1, I1, r1, q1, st1, d, rs1, rx, ty, w3⟩ => ?_)
  obtain ⟨h1, h2⟩ := tyD_is (g := gOf B X) I1 rs1 rx r1 ty
  refine ⟨T, id, pa, slot, hty, h1, h2, ?_⟩
  have hA := ha.run cpos pins s1 sg H1 _ I1 w3
  rw [hs] at hA ⊢
  refine Calls.callWith_builtin (by show (false || (backTo cpos (starEach es X.env)).any (·.1)) = false; rw [hplain] <;> rfl) (Calls.evalArgs_plain ?_)
  exact thn hA fun us s2 ⟨vs, H2, I2, r2, q2⟩ => hm pins s2 sg H2 x vs v us Q I2 r1 r2 q2
theorem le_bm0 {T id : String} {f : D → List D → Sto → R D} {o : Expr} {name : Str} {apos cpos : Pos} {fo : EF} (pa : PlainAttrs T) (slot : Slot T name id) (hty : typeOf (.builtin id) = pure (.type "method_descriptor")) (hm : MtR X id (LM (gOf B X) E f)) (ho : PE X o (LE (gOf B X) E fo))
    (hbase : attributeBase o name X.env (eval o X.env) = eval o X.env := by rfl) (hline : (apos.endLine == cpos.line) = true := by rfl) : PE X (.Call (.Attribute o name apos) [] [] cpos) (LE (gOf B X) E (methF T f fo nilA)) := by
  refine ⟨fun pins s sg H Q I w => ?_⟩
  obtain ⟨q, env, st, rs, re, p⟩ := w
  have w2 : LE (gOf B X) E fo sg H (fun x H1 => ∃ q1 s1 d, RS (gOf B X) q1 H1 s1 ∧ RD (gOf B X) q1 H1 x d ∧ tyD T d s1 ∧ LM (gOf B X) E f x [] H1 Q) := by
    refine LE.chain rs re (R.post_bind.mp p) fun d s1 q1 v H1 p e1 rs1 re1 rx => ?_
    by_cases ht : tyD T d s1
    · rw [if_pos ht] at p
      exact ⟨q1, s1, d, rs1, rx, ht, q1, s1, d, [], rs1, rx, .nil, (show (f d [] s1).post _ _ from p).imp (fun _ _ h => h.ext e1) fun _ _ h => h.ext e1⟩
    · rw [if_neg ht] at p
      exact False.elim p
  refine wpAny_Call_method0_late hbase hline (thn (ho.run pins s sg H _ I w2) fun v s1 ⟨x, H1, I1, r1, q1, st1, d, rs1, rx, ty, w3⟩ => ?_)
  obtain ⟨h1, h2⟩ := tyD_is (g := gOf B X) I1 rs1 rx r1 ty
  exact ⟨T, id, pa, slot, hty, h1, h2, Calls.callWith_builtin rfl (PySem.evalArgs_none (hm pins s1 sg H1 x [] v [] Q I1 r1 .nil w3))⟩
def appD : D → List D → Sto → R D
  | .ref n, [d], st => match st[n]? with
    | some (.lst xs) => if xs.length < sizeLine then .ok .non (st.set n (.lst (xs ++ [d]))) else .bad
    | _ => .bad
  | _, _, _ => .bad
theorem lst_put {g : G} {q : List Addr} {H : Hp} {st : Sto} {n : Nat} {ds es : List D} {a : Addr} {xs ys : List V} (rs : RS g q H st) (h : st[n]? = some (.lst ds)) (qa : q[n]? = some a) (ha : H a = some (.lst xs)) (r : RDs g q H ys es) :
    RS g q (upd H a (.lst ys)) (st.set n (.lst es)) ∧ Ext q H q (upd H a (.lst ys)) := by
  have mu : Mut (H a) := by rw [ha]; trivial
  exact rs.put' qa (fun zs e => by rw [h] at e; cases e) mu (fun φ e => by rw [ha] at e; cases e) (fun ps e => by cases e) fun ext => ⟨ys, upd_same, r.ext ext⟩
theorem mt_appD : MtR X "list.append" (LM (gOf B X) E appD) := MtR.imp mt_append fun x vs H Q w => by
  obtain ⟨q, st, d, ds, rs, rx, rd, p⟩ := w
  unfold appD at p
  split at p
  · rename_i n e
    split at p
    · rename_i xs hx
      split at p
      · rename_i hz
        obtain ⟨y, rfl, ry⟩ := rd.one_inv
        obtain ⟨a, ys, qa, ha, r⟩ := rs.lstAt hx
        obtain ⟨a', rfl, qa'⟩ := rx.ref_inv
        rw [qa] at qa'; cases qa'
        obtain ⟨rs2, e2⟩ := lst_put rs hx qa ha (r.append (.cons ry .nil))
        exact ⟨a, ys, y, rfl, rfl, ha, by rw [r.length]; exact hz, p q _ _ e2 rs2 .non⟩
      · exact False.elim p
    · exact False.elim p
  · exact False.elim p
end
end VL

/-! VL4: walks, for, list comprehensions, the rule for a def. -/
namespace L2
open PySem PySem.Spec PyProof.Rows
theorem PI.imp {X : Cx} {tg e : Expr} {t t' : TI} (h : PI X tg e t) (i : ∀ sg H R, t' sg H R → t sg H R) : PI X tg e t' := ⟨fun pins s sg H R I w => h.run pins s sg H R I (i _ _ _ w)⟩
theorem PTs.imp {X : Cx} {e : List Expr} {t t' : TT} (h : PTs X e t) (i : ∀ sg H Q, t' sg H Q → t sg H Q) : PTs X e t' := ⟨fun pins s sg H Q I w => h.run pins s sg H Q I (i _ _ _ w)⟩
section
variable {X : Cx} {tg : Expr} {pins : List (Addr × Obj)} {σ : L2.St} {H : Hp} {s : Shared} {R : It → Hp → Prop} {a : Addr} {xs : List V}
theorem iter_l (I : Inv X pins σ H s) (hq : SqL X.K H a xs) (q : R (Itl X.K a) H) : wpAny (model X.prog X.w) X.A (pyIter (.ref a)) (PIE X pins σ tg R) X.xe s := by
  obtain ⟨its, rv, p, hz⟩ := I.list hq
  refine wpAny_pyIter_list p.isList ?_
  refine ⟨s.heap.objs.size, [s.heap.objs.size], _, _, H, rfl, I.kept (t' := s.toks) fun b o e => Heap.get?_push_of_some _ e, turn_list a _, ⟨_, Heap.get?_push_size _ rfl, rfl, rfl⟩, fun b hb => ?_, q⟩
  have e : b = s.heap.objs.size := by simpa using hb
  subst e
  exact I.fpOk (Nat.le_refl _) (I.hok.fresh (Nat.le_refl _))
theorem iter_t (I : Inv X pins σ H s) (hq : SqT X.K H a xs) (q : R (Itt X.K a) H) : wpAny (model X.prog X.w) X.A (pyIter (.ref a)) (PIE X pins σ tg R) X.xe s := by
  obtain ⟨its, rv, p, hz⟩ := I.tuple hq
  refine wpAny_pyIter_tuple (show s.heap.IsTuple a its.toArray from p) ?_
  refine ⟨s.heap.objs.size, [s.heap.objs.size], _, _, H, rfl, I.kept (t' := s.toks) fun b o e => Heap.get?_push_of_some _ e, turn_tuple a _, ⟨_, Heap.get?_push_size _ rfl, rfl, rfl⟩, fun b hb => ?_, q⟩
  have e : b = s.heap.objs.size := by simpa using hb
  subst e
  exact I.fpOk (Nat.le_refl _) (I.hok.fresh (Nat.le_refl _))
theorem iter_s {x : Str} {t : Tok} (I : Inv X pins σ H s) (q : R (Its x) H) : wpAny (model X.prog X.w) X.A (pyIter (.str x t)) (PIE X pins σ tg R) X.xe s := by
  cases ha : x.cps.all (· < 128)
  · exact wpAny_pyIter_wide ha (pi_one (tk := s.toks) I _ (turn_str _ x t "str_iterator" (.inr rfl)) ⟨_, Heap.get?_push_size _ rfl, rfl, rfl⟩ q)
  · exact wpAny_pyIter_ascii ha (pi_one (tk := s.toks) I _ (turn_str _ x t "str_ascii_iterator" (.inl rfl)) ⟨_, Heap.get?_push_size _ rfl, rfl, rfl⟩ q)
end
end L2
namespace VL
open PySem PySem.Spec PyProof.Rows L2 RZ RT LamX NdefX
variable {B : Tb}

/-! ### what is walked: the items, and what must stand still meanwhile -/
abbrev Chk := List (Nat × O)
def ChkOk (c : Chk) (st : Sto) : Prop := ∀ p ∈ c, st[p.1]? = some p.2
theorem ChkOk.nil {st : Sto} : ChkOk [] st := fun _ h => nomatch h
theorem ChkOk.one {st : Sto} {n : Nat} {o : O} (h : st[n]? = some o) : ChkOk [(n, o)] st := fun p hp => by
  rw [List.mem_singleton] at hp
  subst hp
  exact h
def chkAt (st : Sto) (n : Nat) : Chk := match st[n]? with
  | some o => [(n, o)]
  | none => []
theorem chkAt_list {st st' : Sto} {n : Nat} {xs : List D} (h : listAt st n = some xs) (c : ChkOk (chkAt st n) st') : listAt st' n = some xs := by
  unfold listAt at h
  split at h
  · rename_i ys e
    cases h
    unfold chkAt at c
    rw [e] at c
    exact listAt_lst (c _ (List.mem_singleton.mpr rfl))
  · rename_i ys e
    cases h
    unfold chkAt at c
    rw [e] at c
    exact listAt_rl (c _ (List.mem_singleton.mpr rfl))
  · cases h
abbrev ItF := EnvD → Sto → R (List D × Chk)
def Walks (g : G) (J : It) (q : List Addr) (H : Hp) (p : List D × Chk) : Prop := ∀ i q' H' st', Ext q H q' H' → RS g q' H' st' → ChkOk p.2 st' →
  (p.1.length ≤ i → J.stop i H') ∧ ∀ d, p.1[i]? = some d → J.go i H' ∧ ∀ x H2, J.yld i H' x H2 → Ext q' H' q' H2 ∧ RS g q' H2 st' ∧ RD g q' H2 x d
def KI (g : G) (q : List Addr) (H : Hp) (R : It → Hp → Prop) : List D × Chk → Sto → Prop := fun p st => ∀ q' H' J, Ext q H q' H' → RS g q' H' st → Walks g J q' H' p → R J H'
theorem KI.ext {g : G} {q q' : List Addr} {H H' : Hp} {R : It → Hp → Prop} (e : Ext q H q' H') {p : List D × Chk} {st : Sto} (k : KI g q H R p st) : KI g q' H' R p st := fun q2 H2 J e2 r m => k q2 H2 J (e.trans e2) r m
def LI (g : G) (E : XK) (f : ItF) : TI := fun sg H R => ∃ q env st, RS g q H st ∧ RE g q H sg env ∧ (f env st).post (KI g q H R) (KX g q H E)
theorem RDs.inj_get {g : G} {q : List Addr} {H : Hp} {xs : List V} {ds : List D} (r : RDs g q H xs ds) {i : Nat} {x : V} {d : D} (h1 : xs[i]? = some x) (h2 : ds[i]? = some d) : RD g q H x d := by
  obtain ⟨v, h3, h4⟩ := r.get h2
  rw [h1] at h3; cases h3
  exact h4
theorem walks_l {g : G} {q : List Addr} {H : Hp} {n : Nat} {a : Addr} {ds : List D} {c : Chk} (qa : q[n]? = some a) (hc : ∀ st', ChkOk c st' → listAt st' n = some ds) : Walks g (Itl g.K a) q H (ds, c) := by
  intro i q' H' st' e rs ok
  obtain ⟨b, xs, qb, hs, r⟩ := rs.listAt (hc st' ok)
  rw [e.at qa] at qb; cases qb
  refine ⟨fun hi => ⟨xs, hs, by rw [r.length]; exact hi⟩, fun d hd => ?_⟩
  obtain ⟨x, hx, rx⟩ := r.get hd
  refine ⟨⟨xs, x, hs, hx⟩, fun y H2 ⟨e2, hy⟩ => ?_⟩
  subst e2
  exact ⟨Ext.refl, rs, r.inj_get (hy xs hs) hd⟩
theorem walks_t {g : G} {q : List Addr} {H : Hp} {a : Addr} {xs : List V} {ds : List D} {c : Chk} (hs : SqT g.K H a xs) (r : RDs g q H xs ds) : Walks g (Itt g.K a) q H (ds, c) := by
  intro i q' H' st' e rs ok
  have hs' := sqT_ext e hs
  have r' := r.ext e
  refine ⟨fun hi => ⟨xs, hs', by rw [r.length]; exact hi⟩, fun d hd => ?_⟩
  obtain ⟨x, hx, rx⟩ := r'.get hd
  refine ⟨⟨xs, x, hs', hx⟩, fun y H2 ⟨e2, hy⟩ => ?_⟩
  subst e2
  exact ⟨Ext.refl, rs, r'.inj_get (hy xs hs') hd⟩
def signs (x : Str) : List D := x.cps.toList.map fun c => .str ⟨#[c]⟩
theorem walks_s {g : G} {q : List Addr} {H : Hp} {x : Str} {c : Chk} : Walks g (Its x) q H (signs x, c) := by
  intro i q' H' st' e rs ok
  refine ⟨fun hi => ?_, fun d hd => ?_⟩
  · show x.cps.size ≤ i
    have : (signs x).length = x.cps.size := by simp [signs]
    rw [← this]; exact hi
  · have hd : (signs x)[i]? = some d := hd
    unfold signs at hd
    rw [List.getElem?_map] at hd
    obtain ⟨k, hk, rfl⟩ := Option.map_eq_some_iff.mp hd
    have hk' : x.cps[i]? = some k := by simpa using hk
    refine ⟨(Array.getElem?_eq_some_iff.mp hk').1, fun y H2 ⟨e2, k', h1, h2⟩ => ?_⟩
    subst e2
    rw [hk'] at h1; cases h1
    subst h2
    exact ⟨Ext.refl, rs, .str _⟩
/-- over a list, a tuple, a text -/
def itD (d : D) (st : Sto) : R (List D × Chk) := match d with
  | .tup ds => .ok (ds, []) st
  | .str x => .ok (signs x, []) st
  | .ref n => match listAt st n with
    | some ds => .ok (ds, chkAt st n) st
    | none => .bad
  | _ => .bad
def itF (f : EF) : ItF := fun env st => (f env st).bind itD
section
variable {X : Cx} {E : XK} {tg : Expr}
theorem li_seq {e : Expr} {f : EF} (he : PE X e (LE (gOf B X) E f)) : PI X tg e (LI (gOf B X) E (itF f)) := by
  refine ⟨fun pins s sg H RR I w => ?_⟩
  obtain ⟨q, env, st, rs, re, p⟩ := w
  have w2 : LE (gOf B X) E f sg H (fun x H1 => ∃ q1 s1 d, RS (gOf B X) q1 H1 s1 ∧ RD (gOf B X) q1 H1 x d ∧ (itD d s1).post (KI (gOf B X) q1 H1 RR) (KX (gOf B X) q1 H1 E)) :=
    LE.chain rs re (R.post_bind.mp p) fun d s1 q1 v H1 p e1 rs1 re1 rx => ⟨q1, s1, d, rs1, rx, p.imp (fun _ _ h => h.ext e1) fun _ _ h => h.ext e1⟩
  refine thn (he.run pins s sg H _ I w2) fun v s1 ⟨x, H1, I1, r1, q1, st1, d, rs1, rx, p⟩ => ?_
  cases d with
  | tup ds =>
    obtain ⟨a, xs, rfl, hs, r⟩ := rx.tup_inv
    cases r1
    exact iter_t I1 hs (p q1 H1 _ Ext.refl rs1 (walks_t hs r))
  | str z =>
    rw [rx.str_inv] at r1
    obtain ⟨t, rfl⟩ := r1
    exact iter_s I1 (p q1 H1 _ Ext.refl rs1 walks_s)
  | ref n =>
    have p : (match listAt st1 n with | some ds => .ok (ds, chkAt st1 n) st1 | none => .bad : R (List D × Chk)).post _ _ := p
    split at p
    · rename_i ds e
      obtain ⟨a, xs, qa, hs, r⟩ := rs1.listAt e
      obtain ⟨a', rfl, qa'⟩ := rx.ref_inv
      rw [qa] at qa'; cases qa'
      cases r1
      exact iter_l I1 hs (p q1 H1 _ Ext.refl rs1 (walks_l qa fun st' ok => chkAt_list e ok))
    · exact False.elim p
  | _ => exact False.elim p
def intsD (lo c : Int) (n : Nat) : List D := (List.range n).map fun i => .int (lo + (i : Nat) * c)
theorem intsD_len {lo c : Int} {n : Nat} : (intsD lo c n).length = n := by simp [intsD]
theorem intsD_get {lo c : Int} {n i : Nat} {d : D} (h : (intsD lo c n)[i]? = some d) : i < n ∧ d = .int (lo + (i : Nat) * c) := by
  have h1 : i < n := by have l := (List.getElem?_eq_some_iff.mp h).1; rw [intsD_len] at l; exact l
  unfold intsD at h
  rw [List.getElem?_map, List.getElem?_range h1] at h
  exact ⟨h1, (Option.some.inj h).symm⟩
theorem walks_r {g : G} {q : List Addr} {H : Hp} {lo : Int} {n : Nat} {c : Chk} : Walks g (Itr lo n) q H (intsD lo 1 n, c) := by
  intro i q' H' st' e rs ok
  refine ⟨fun hi => ?_, fun d hd => ?_⟩
  · rw [intsD_len] at hi; exact hi
  · obtain ⟨h1, h2⟩ := intsD_get hd
    refine ⟨h1, fun y H2 ⟨e2, h3⟩ => ?_⟩
    subst e2
    subst h2 h3
    rw [Int.mul_one]
    exact ⟨Ext.refl, rs, .int _⟩
theorem walks_c {g : G} {q : List Addr} {H : Hp} {lo k : Int} {n : Nat} {c : Chk} : Walks g (Itc lo k n) q H (intsD lo k n, c) := by
  intro i q' H' st' e rs ok
  refine ⟨fun hi => ?_, fun d hd => ?_⟩
  · rw [intsD_len] at hi; exact hi
  · obtain ⟨h1, h2⟩ := intsD_get hd
    refine ⟨h1, fun y H2 ⟨e2, h3⟩ => ?_⟩
    subst e2
    subst h2 h3
    exact ⟨Ext.refl, rs, .int _⟩
def rng1D : List D → Sto → R (List D × Chk)
  | [.int j], st => if -(2 ^ 62) ≤ j ∧ j < 2 ^ 62 then .ok (intsD 0 1 j.toNat, []) st else .bad
  | _, _ => .bad
def rng2D : List D → Sto → R (List D × Chk)
  | [.int i, .int j], st => if -(2 ^ 62) ≤ i ∧ i < 2 ^ 62 ∧ -(2 ^ 62) ≤ j ∧ j < 2 ^ 62 then .ok (intsD i 1 (j - i).toNat, []) st else .bad
  | _, _ => .bad
def rng3D : List D → Sto → R (List D × Chk)
  | [.int i, .int j, .int c], st => if c ≠ 0 ∧ c.natAbs < 1073741824 ∧ Builtin.Range.small i j c = true ∧ 0 ≤ Builtin.Range.rangeSize i j c then .ok (intsD i c (Builtin.Range.rangeSize i j c).toNat, []) st else .bad
  | _, _ => .bad
def itA (f : List D → Sto → R (List D × Chk)) (fa : AF) : ItF := fun env st => (fa env st).bind f
theorem itA_le {f : List D → Sto → R (List D × Chk)} {fa : AF} {sg : L2.St} {H : Hp} {RR : It → Hp → Prop} (w : LI (gOf B X) E (itA f fa) sg H RR) {T : List V → Hp → Prop}
    (k : ∀ q st ds vs H, RS (gOf B X) q H st → RDs (gOf B X) q H vs ds → (f ds st).post (KI (gOf B X) q H RR) (KX (gOf B X) q H E) → T vs H) : LA (gOf B X) E fa sg H T := by
  obtain ⟨q, env, st, rs, re, p⟩ := w
  exact LA.chain rs re (R.post_bind.mp p) fun ds s1 q1 vs H1 p e1 rs1 re1 rx => k q1 s1 ds vs H1 rs1 rx (p.imp (fun _ _ h => h.ext e1) fun _ _ h => h.ext e1)
theorem RDs.three_inv {g : G} {q : List Addr} {H : Hp} {vs : List V} {d e f : D} (r : RDs g q H vs [d, e, f]) : ∃ v w u, vs = [v, w, u] ∧ RD g q H v d ∧ RD g q H w e ∧ RD g q H u f := by
  cases r with | cons r t => cases t with | cons r' t' => cases t' with | cons r2 t2 => cases t2; exact ⟨_, _, _, rfl, r, r', r2⟩
theorem li_rng1 {a : Expr} {fa : AF} {p pos : Pos} (hg : Gl X "range") (hm : X.mg "range" = none) (ha : PA X [a] (LA (gOf B X) E fa)) (hs : starEach [a] X.env = [(false, eval a X.env)] := by rfl) : PI X tg (.Call (.Name "range" p) [a] [] pos) (LI (gOf B X) E (itA rng1D fa)) :=
  (pi_range1 hg hm ha hs).imp fun sg H RR w => itA_le w fun q st ds vs H rs rd p => by
    unfold rng1D at p
    split at p
    · split at p
      · rename_i h
        obtain ⟨v, rfl, r⟩ := rd.one_inv
        rw [r.int_inv]
        exact ⟨_, rfl, h.1, h.2, p q H _ Ext.refl rs walks_r⟩
      · exact False.elim p
    · exact False.elim p
theorem li_rng2 {a b : Expr} {fa : AF} {p pos : Pos} (hg : Gl X "range") (hm : X.mg "range" = none) (ha : PA X [a, b] (LA (gOf B X) E fa)) (hs : starEach [a, b] X.env = [(false, eval a X.env), (false, eval b X.env)] := by rfl) (hs2 : starEach [b] X.env = [(false, eval b X.env)] := by rfl) :
    PI X tg (.Call (.Name "range" p) [a, b] [] pos) (LI (gOf B X) E (itA rng2D fa)) :=
  (pi_range2 hg hm ha hs hs2).imp fun sg H RR w => itA_le w fun q st ds vs H rs rd p => by
    unfold rng2D at p
    split at p
    · split at p
      · rename_i h
        obtain ⟨v, u, rfl, r, r'⟩ := rd.two_inv
        rw [r.int_inv, r'.int_inv]
        exact ⟨_, _, rfl, h, p q H _ Ext.refl rs walks_r⟩
      · exact False.elim p
    · exact False.elim p
theorem li_rng3 {fa : AF} {e : Expr} (h : PI X tg e (iRng3 (LA (gOf B X) E fa))) : PI X tg e (LI (gOf B X) E (itA rng3D fa)) :=
  h.imp fun sg H RR w => itA_le w fun q st ds vs H rs rd p => by
    unfold rng3D at p
    split at p
    · split at p
      · rename_i h
        obtain ⟨v, u, z, rfl, r, r', r2⟩ := rd.three_inv
        rw [r.int_inv, r'.int_inv, r2.int_inv]
        exact ⟨_, _, _, _, rfl, ⟨h.1, h.2.1, h.2.2.1, (Int.toNat_of_nonneg h.2.2.2).symm⟩, p q H _ Ext.refl rs walks_c⟩
      · exact False.elim p
    · exact False.elim p
/-- pairs of two walked together -/
def pairD (p : D × D) : D := .tup [p.1, p.2]
theorem zip_get {xs ys : List D} {i : Nat} {d : D} (h : ((xs.zip ys).map pairD)[i]? = some d) : ∃ x y, xs[i]? = some x ∧ ys[i]? = some y ∧ d = .tup [x, y] := by
  rw [List.getElem?_map] at h
  obtain ⟨⟨x, y⟩, h1, rfl⟩ := Option.map_eq_some_iff.mp h
  obtain ⟨h2, h3⟩ := List.getElem?_zip_eq_some.mp h1
  exact ⟨x, y, h2, h3, rfl⟩
theorem walks_zt {g : G} {q : List Addr} {H : Hp} {a b : Addr} {xs ys : List V} {ds es : List D} {c : Chk} (ha : SqT g.K H a xs) (r : RDs g q H xs ds) (hb : SqT g.K H b ys) (r' : RDs g q H ys es) : Walks g (ItzT g.K a b) q H ((ds.zip es).map pairD, c) := by
  intro i q' H' st' e rs ok
  have ha' := sqT_ext e ha
  have hb' := sqT_ext e hb
  have r := r.ext e
  have r' := r'.ext e
  refine ⟨fun hi => ⟨xs, ys, ha', hb', ?_⟩, fun d hd => ?_⟩
  · have hi : ((ds.zip es).map pairD).length ≤ i := hi
    rw [List.length_map, List.length_zip] at hi
    rw [r.length, r'.length]
    omega
  · obtain ⟨x, y, h1, h2, rfl⟩ := zip_get hd
    obtain ⟨u, hu, ru⟩ := r.get h1
    obtain ⟨v, hv, rv⟩ := r'.get h2
    refine ⟨⟨xs, ys, u, v, ha', hb', hu, hv⟩, fun z H2 ⟨T, x1, y1, hz, nT, h3, h4, h5⟩ => ?_⟩
    subst hz h3
    have e1 := h4 xs ha'
    rw [hu] at e1; cases e1
    have e2 := h5 ys hb'
    rw [hv] at e2; cases e2
    exact tup_new rs nT (.cons ru (.cons rv .nil))
theorem walks_zl {g : G} {q : List Addr} {H : Hp} {m n : Nat} {a b : Addr} {ds es : List D} {c : Chk} (qa : q[m]? = some a) (qb : q[n]? = some b) (hc : ∀ st', ChkOk c st' → listAt st' m = some ds ∧ listAt st' n = some es) : Walks g (Itz g.K a b) q H ((ds.zip es).map pairD, c) := by
  intro i q' H' st' e rs ok
  obtain ⟨ha, hb⟩ := hc st' ok
  obtain ⟨a', xs, qa', ha', r⟩ := rs.listAt ha
  obtain ⟨b', ys, qb', hb', r'⟩ := rs.listAt hb
  rw [e.at qa] at qa'; cases qa'
  rw [e.at qb] at qb'; cases qb'
  refine ⟨fun hi => ⟨xs, ys, ha', hb', ?_⟩, fun d hd => ?_⟩
  · have hi : ((ds.zip es).map pairD).length ≤ i := hi
    rw [List.length_map, List.length_zip] at hi
    rw [r.length, r'.length]
    omega
  · obtain ⟨x, y, h1, h2, rfl⟩ := zip_get hd
    obtain ⟨u, hu, ru⟩ := r.get h1
    obtain ⟨v, hv, rv⟩ := r'.get h2
    refine ⟨⟨xs, ys, u, v, ha', hb', hu, hv⟩, fun z H2 ⟨T, x1, y1, hz, nT, h3, h4, h5⟩ => ?_⟩
    subst hz h3
    have e1 := h4 xs ha'
    rw [hu] at e1; cases e1
    have e2 := h5 ys hb'
    rw [hv] at e2; cases e2
    exact tup_new rs nT (.cons ru (.cons rv .nil))
def zipD : List D → Sto → R (List D × Chk)
  | [.tup ds, .tup es], st => .ok ((ds.zip es).map pairD, []) st
  | [.ref m, .ref n], st => match listAt st m, listAt st n with
    | some ds, some es => .ok ((ds.zip es).map pairD, chkAt st m ++ chkAt st n) st
    | _, _ => .bad
  | _, _ => .bad
theorem li_zip {e : Expr} {fa : AF} (h : PI X tg e (iZipA X.K (LA (gOf B X) E fa))) : PI X tg e (LI (gOf B X) E (itA zipD fa)) :=
  h.imp fun sg H RR w => itA_le w fun q st ds vs H rs rd p => by
    unfold zipD at p
    split at p
    · obtain ⟨v, u, rfl, r, r'⟩ := rd.two_inv
      obtain ⟨a, xs, rfl, ha, ra⟩ := r.tup_inv
      obtain ⟨b, ys, rfl, hb, rb⟩ := r'.tup_inv
      exact ⟨a, b, xs, ys, rfl, .inr ⟨ha, hb, p q H _ Ext.refl rs (walks_zt ha ra hb rb)⟩⟩
    · split at p
      · rename_i ds es e1 e2
        obtain ⟨v, u, rfl, r, r'⟩ := rd.two_inv
        obtain ⟨a, xs, qa, ha, _⟩ := rs.listAt e1
        obtain ⟨b, ys, qb, hb, _⟩ := rs.listAt e2
        obtain ⟨a', rfl, qa'⟩ := r.ref_inv
        obtain ⟨b', rfl, qb'⟩ := r'.ref_inv
        rw [qa] at qa'; cases qa'
        rw [qb] at qb'; cases qb'
        exact ⟨a, b, xs, ys, rfl, .inl ⟨ha, hb, p q H _ Ext.refl rs (walks_zl qa qb fun st' ok => ⟨chkAt_list e1 fun z hz => ok z (List.mem_append_left _ hz), chkAt_list e2 fun z hz => ok z (List.mem_append_right _ hz)⟩)⟩⟩
      · exact False.elim p
    · exact False.elim p

/-! ### for -/
open Classical in
noncomputable def forL (c : Chk) (gf : GF) (body : SF) : List D → EnvD → Sto → R Fl
  | [], env, st => if ChkOk c st then .ok (.nx env) st else .bad
  | x :: r, env, st => if ChkOk c st then (gf x env st).bind fun e s => (body e s).bind fun fl s' => match fl with
      | .nx e' => forL c gf body r e' s'
      | .ct e' => forL c gf body r e' s'
      | .bk e' => .ok (.nx e') s'
      | .rt d => .ok (.rt d) s'
    else .bad
noncomputable def forS (it : ItF) (gf : GF) (body : SF) : SF := fun env st => (it env st).bind fun p s => forL p.2 gf body p.1 env s
theorem drop_cons {A : Type} {l : List A} {i : Nat} {x : A} (h : l[i]? = some x) : l.drop i = x :: l.drop (i + 1) := by
  obtain ⟨hl, e⟩ := List.getElem?_eq_some_iff.mp h
  rw [List.drop_eq_getElem_cons hl, e]
theorem ls_for {iter : Expr} {body : List Stmt} {it : ItF} {gf : GF} {fb : SF} {pos : Pos} (hp : PassesOwn (model X.prog X.w) X.A X.env X.xe) (hc : X.calm = true) (hi : PI X tg iter (LI (gOf B X) E it)) (hg : PG X tg (LG (gOf B X) E gf)) (hb : PSs X body (LS (gOf B X) E fb))
    (hs : ∀ x, foldedSetIterable iter X.env x = pure x := by intro _; rfl) : PS X (.For tg iter body [] pos) (LS (gOf B X) E (forS it gf fb)) := (ps_for hp hc hi hg hb hs).imp fun T sg H w => by
  obtain ⟨q, env, st, rs, re, p⟩ := w
  refine ⟨q, env, st, rs, re, (R.post_bind.mp p).imp (fun pr s1 p q1 H1 J e1 rs1 wk => ?_) fun _ _ h => h⟩
  obtain ⟨ds, c⟩ := pr
  refine ⟨fun i m sg2 H2 => ∃ q2 env2 st2, RS (gOf B X) q2 H2 st2 ∧ RE (gOf B X) q2 H2 sg2 env2 ∧ Ext q1 H1 q2 H2 ∧ i ≤ ds.length ∧ m = ds.length - i ∧ (forL c gf fb (ds.drop i) env2 st2).post (KS (gOf B X) q2 H2 T) (KX (gOf B X) q2 H2 E),
    ⟨_, q1, env, s1, rs1, re.ext e1, Ext.refl, Nat.zero_le _, rfl, (show (forL c gf fb ds env s1).post _ _ from p).imp (fun _ _ h => h.ext e1) fun _ _ h => h.ext e1⟩, ?_⟩
  rintro i m sg2 H2 ⟨q2, env2, st2, rs2, re2, e2, hil, rfl, p⟩
  by_cases hlt : i < ds.length
  · have hd : ds[i]? = some ds[i] := List.getElem?_eq_getElem hlt
    rw [drop_cons hd] at p
    unfold forL at p
    by_cases ok : ChkOk c st2
    · rw [if_pos ok] at p
      obtain ⟨go, yld⟩ := (wk i q2 H2 st2 e2 rs2 ok).2 _ hd
      refine .inr ⟨go, fun sg3 H3 => ∃ q3 env3 st3, RS (gOf B X) q3 H3 st3 ∧ RE (gOf B X) q3 H3 sg3 env3 ∧ Ext q1 H1 q3 H3 ∧ (forL c gf fb (ds.drop (i + 1)) env3 st3).post (KS (gOf B X) q3 H3 T) (KX (gOf B X) q3 H3 E), ?_, fun x H3 y => ?_⟩
      · rintro sg3 H3 ⟨q3, env3, st3, rs3, re3, e3, p3⟩
        exact ⟨ds.length - (i + 1), by omega, q3, env3, st3, rs3, re3, e3, by omega, rfl, p3⟩
      · obtain ⟨e3, rs3, rx⟩ := yld x H3 y
        refine ⟨q2, _, env2, st2, rs3, re2.ext e3, rx, (R.post_bind.mp p).imp (fun en s4 p q4 H4 sg4 e4 rs4 re4 => ?_) fun _ _ h => h.ext e3⟩
        refine ⟨q4, en, s4, rs4, re4, (R.post_bind.mp p).imp (fun fl s5 p q5 H5 e5 rs5 => ?_) fun _ _ h => h.ext (e3.trans e4)⟩
        have e25 : Ext q2 H2 q5 H5 := e3.trans (e4.trans e5)
        cases fl with
        | nx e => exact fun sg5 re5 => ⟨q5, e, s5, rs5, re5, e2.trans e25, (show (forL c gf fb (ds.drop (i + 1)) e s5).post _ _ from p).imp (fun _ _ h => h.ext e25) fun _ _ h => h.ext e25⟩
        | ct e => exact fun sg5 re5 => ⟨q5, e, s5, rs5, re5, e2.trans e25, (show (forL c gf fb (ds.drop (i + 1)) e s5).post _ _ from p).imp (fun _ _ h => h.ext e25) fun _ _ h => h.ext e25⟩
        | bk e => exact fun sg5 re5 => p q5 H5 e25 rs5 sg5 re5
        | rt d => exact fun v rv => p q5 H5 e25 rs5 v rv
    · rw [if_neg ok] at p
      exact False.elim p
  · have e : i = ds.length := by omega
    subst e
    rw [List.drop_length] at p
    unfold forL at p
    by_cases ok : ChkOk c st2
    · rw [if_pos ok] at p
      exact .inl ⟨(wk _ q2 H2 st2 e2 rs2 ok).1 (Nat.le_refl _), p q2 H2 Ext.refl rs2 sg2 re2⟩
    · rw [if_neg ok] at p
      exact False.elim p

/-! ### list comprehensions -/
def wipeE (env : EnvD) : List Nat → EnvD
  | [] => env
  | v :: vs => (wipeE env vs).set v none
theorem RE.wipe {g : G} {q : List Addr} {H : Hp} {sg : L2.St} {env : EnvD} (r : RE g q H sg env) : ∀ vs : List Nat, RE g q H (wipe sg vs) (wipeE env vs)
  | [] => r
  | v :: vs => Paired.set_ (fun x e => nomatch e) v (RE.wipe r vs)
/-- a target that stores names of vs alone -/
def LGw (g : G) (E : XK) (vs : List Nat) (f : GF) : TG := fun v sg H Q => ∃ q d env st, RS g q H st ∧ RE g q H sg env ∧ RD g q H v d ∧ (f d env st).post (fun e st' => ∀ q' H' sg', Ext q H q' H' → RS g q' H' st' → RE g q' H' sg' e → wipe sg' vs = wipe sg vs → Q sg' H') (KX g q H E)
def LGws (g : G) (E : XK) (vs : List Nat) (f : List D → EnvD → Sto → R EnvD) : TGs := fun xs sg H Q => ∃ q ds env st, RS g q H st ∧ RE g q H sg env ∧ RDs g q H xs ds ∧ (f ds env st).post (fun e st' => ∀ q' H' sg', Ext q H q' H' → RS g q' H' st' → RE g q' H' sg' e → wipe sg' vs = wipe sg vs → Q sg' H') (KX g q H E)
theorem wipe_set {sg : L2.St} {i : Nat} {v : Option V} : ∀ {vs : List Nat}, i ∈ vs → wipe (sg.set i v) vs = wipe sg vs
  | j :: vs, h => by
    unfold wipe
    by_cases hj : i ∈ vs
    · rw [wipe_set hj]
    · have e : i = j := by
        rcases List.mem_cons.mp h with e | e
        · exact e
        · exact absurd e hj
      subst e
      have comm : ∀ {ws : List Nat}, i ∉ ws → wipe (sg.set i v) ws = (wipe sg ws).set i v := by
        intro ws
        induction ws with
        | nil => intro _; rfl
        | cons w ws ih =>
          intro hn
          unfold wipe
          rw [ih (fun z => hn (List.mem_cons_of_mem _ z))]
          exact List.set_comm _ _ (fun z => hn (by rw [z]; exact List.mem_cons_self))
      rw [comm hj, List.set_set]
theorem lgw_name {e : Expr} {i : Nat} {vs : List Nat} (h : PG X e (gName i)) (hi : i ∈ vs) : PG X e (LGw (gOf B X) E vs (nameG i)) := h.imp fun v sg H Q w => by
  obtain ⟨q, d, env, st, rs, re, rd, p⟩ := w
  exact p q H _ Ext.refl rs (re.set rd) (wipe_set hi)
theorem lgws_nil {vs : List Nat} : PGs X [] (LGws (gOf B X) E vs nilG) := pgs_nil.imp fun xs sg H Q w => by
  obtain ⟨q, ds, env, st, rs, re, rd, p⟩ := w
  cases rd with
  | nil => exact ⟨rfl, p q H sg Ext.refl rs re rfl⟩
  | cons _ _ => exact False.elim p
theorem lgws_cons {e : Expr} {es : List Expr} {f : GF} {r : List D → EnvD → Sto → R EnvD} {vs : List Nat} (h1 : PG X e (LGw (gOf B X) E vs f)) (h2 : PGs X es (LGws (gOf B X) E vs r))
    (hs : (assignEach (e :: es) X.env).map (·.2) = assign e X.env :: (assignEach es X.env).map (·.2) := by rfl) : PGs X (e :: es) (LGws (gOf B X) E vs (consG f r)) := (pgs_cons h1 h2 hs).imp fun xs sg H Q w => by
  obtain ⟨q, ds, env, st, rs, re, rd, p⟩ := w
  cases rd with
  | nil => exact False.elim p
  | cons rd rds =>
    refine ⟨_, _, rfl, q, _, env, st, rs, re, rd, (R.post_bind.mp p).imp (fun e1 s1 p q1 H1 sg1 x1 rs1 re1 hw => ?_) fun _ _ h => h⟩
    exact ⟨q1, _, e1, s1, rs1, re1, rds.ext x1, (show (r _ e1 s1).post _ _ from p).imp (fun e2 s2 p q2 H2 sg2 x2 rs2 re2 hw2 => p q2 H2 sg2 (x1.trans x2) rs2 re2 (hw2.trans hw)) fun _ _ h => h.ext x1⟩
theorem lgw_tup {es : List Expr} {k : Nat} {f : List D → EnvD → Sto → R EnvD} {n : Nat} {vs : List Nat} {pos : Pos} (hc : X.calm = true) (h : PGs X es (LGws (gOf B X) E vs f))
    (hn : (assignEach es X.env).length = n := by rfl) (hst : (assignEach es X.env).findIdx? (·.1) = none := by rfl) : PG X (.Tuple es k pos) (LGw (gOf B X) E vs (tupG n f)) := (pg_tup hc h hn hst).imp fun v sg H Q w => by
  obtain ⟨q, d, env, st, rs, re, rd, p⟩ := w
  cases d with
  | tup ds =>
    obtain ⟨a, xs, rfl, hs, rx⟩ := rd.tup_inv
    by_cases hl : ds.length = n
    · have z : tupG n f (.tup ds) env st = f ds env st := if_pos hl
      rw [z] at p
      exact ⟨a, xs, rfl, hs, by rw [rx.length]; exact hl, q, ds, env, st, rs, re, rx, p⟩
    · have z : tupG n f (.tup ds) env st = .bad := if_neg hl
      rw [z] at p
      exact False.elim p
  | _ => exact False.elim p
open Classical in
noncomputable def lcL (c : Chk) (gf : GF) (tt : TF) (te : EF) (env : EnvD) (n : Nat) : List D → Sto → R Unit
  | [], st => if ChkOk c st then .ok () st else .bad
  | x :: r, st => if ChkOk c st then (gf x env st).noex.bind fun e s => (tt e s).noex.bind fun b s1 => if b = true then (te e s1).noex.bind fun d s2 => match s2[n]? with
        | some (.lst acc) => if acc.length < sizeLine then lcL c gf tt te env n r (s2.set n (.lst (acc ++ [d]))) else .bad
        | _ => .bad
      else lcL c gf tt te env n r s1
    else .bad
noncomputable def lcF (it : ItF) (vs : List Nat) (gf : GF) (tt : TF) (te : EF) : EF := fun env st => (it env st).bind fun p s => (lcL p.2 gf tt te (wipeE env vs) s.length p.1 (s ++ [.lst []])).bind fun _ s' => .ok (.ref s.length) s'
def yesT : TF := fun _ st => .ok true st
theorem lts_nil : PTs X [] (LT (gOf B X) E yesT) := pts_nil.imp fun sg H Q w => by
  obtain ⟨q, env, st, rs, re, p⟩ := w
  exact p q H Ext.refl rs
theorem lts_one {c : Expr} {t : TF} (h : PT X c (LT (gOf B X) E t)) : PTs X [c] (LT (gOf B X) E t) := pts_one h
theorem lc_le {it : ItF} {vs : List Nat} {gf : GF} {tt : TF} {te : EF} {sg : L2.St} {H : Hp} {Q : VK} (w : LE (gOf B X) E (lcF it vs gf tt te) sg H Q) : tLc (LI (gOf B X) E it) (LGw (gOf B X) E0 vs gf) (LT (gOf B X) E0 tt) (LE (gOf B X) E0 te) vs sg H Q := by
  obtain ⟨q, env, st, rs, re, p⟩ := w
  refine ⟨q, env, st, rs, re, (R.post_bind.mp p).imp (fun pr s1 p q1 H1 J e1 rs1 wk D hD => ?_) fun _ _ h => h⟩
  obtain ⟨ds, c⟩ := pr
  have p := R.post_bind.mp p
  obtain ⟨e2, rs2, r2⟩ := lst_new (xs := []) (ds := []) rs1 hD .nil
  have qD : (q1 ++ [D])[s1.length]? = some D := by rw [← rs1.len]; simp
  refine ⟨fun i m H3 => ∃ q3 st3, RS (gOf B X) q3 H3 st3 ∧ Ext (q1 ++ [D]) (upd H1 D (.lst [])) q3 H3 ∧ i ≤ ds.length ∧ m = ds.length - i ∧ (lcL c gf tt te (wipeE env vs) s1.length (ds.drop i) st3).post (fun _ st' => KV (gOf B X) q3 H3 Q (.ref s1.length) st') (KX (gOf B X) q3 H3 E),
    ⟨_, q1 ++ [D], s1 ++ [O.lst []], rs2, Ext.refl, Nat.zero_le _, rfl, (show (lcL c gf tt te (wipeE env vs) s1.length ds (s1 ++ [.lst []])).post _ _ from p).imp (fun _ _ h => KV.ext (e1.trans e2) h) fun _ _ h => h.ext (e1.trans e2)⟩, ?_⟩
  rintro i m H3 ⟨q3, st3, rs3, e3, hil, rfl, p⟩
  have reW : RE (gOf B X) q3 H3 (wipe sg vs) (wipeE env vs) := (re.ext (e1.trans (e2.trans e3))).wipe vs
  by_cases hlt : i < ds.length
  · have hd : ds[i]? = some ds[i] := List.getElem?_eq_getElem hlt
    rw [drop_cons hd] at p
    unfold lcL at p
    by_cases ok : ChkOk c st3
    · rw [if_pos ok] at p
      obtain ⟨go, yld⟩ := (wk i q3 H3 st3 (e2.trans e3) rs3 ok).2 _ hd
      refine .inr ⟨go, fun H4 => ∃ q4 st4, RS (gOf B X) q4 H4 st4 ∧ Ext (q1 ++ [D]) (upd H1 D (.lst [])) q4 H4 ∧ (lcL c gf tt te (wipeE env vs) s1.length (ds.drop (i + 1)) st4).post (fun _ st' => KV (gOf B X) q4 H4 Q (.ref s1.length) st') (KX (gOf B X) q4 H4 E), ?_, fun x H4 y => ?_⟩
      · rintro H4 ⟨q4, st4, rs4, e4, p4⟩
        exact ⟨ds.length - (i + 1), by omega, q4, st4, rs4, e4, by omega, rfl, p4⟩
      · obtain ⟨e4, rs4, rx⟩ := yld x H4 y
        refine ⟨q3, _, _, st3, rs4, reW.ext e4, rx, R.post_noex ((R.post_bind.mp p).imp (fun en s5 p q5 H5 sg5 e5 rs5 re5 hw => ?_) fun _ _ h => h)⟩
        have hww : wipe (wipe sg vs) vs = wipe sg vs := by
          have all : ∀ (ws : List Nat) (s0 : L2.St), (∀ v ∈ ws, s0.set v none = s0) → wipe s0 ws = s0 := by
            intro ws
            induction ws with
            | nil => intro s0 _; rfl
            | cons v ws ih =>
              intro s0 h
              unfold wipe
              rw [ih s0 fun u hu => h u (List.mem_cons_of_mem _ hu)]
              exact h v List.mem_cons_self
          have fix : ∀ (ws : List Nat) (v : Nat), v ∈ ws → (wipe sg ws).set v none = wipe sg ws := by
            intro ws
            induction ws with
            | nil => intro v h; cases h
            | cons u ws ih =>
              intro v h
              unfold wipe
              by_cases e : v = u
              · subst e; rw [List.set_set]
              · rw [List.set_comm _ _ (fun z => e z.symm), ih v (by
                  rcases List.mem_cons.mp h with z | z
                  · exact absurd z e
                  · exact z)]
          exact all vs _ (fix vs)
        refine ⟨hw.trans hww, q5, en, s5, rs5, re5, R.post_noex ((R.post_bind.mp p).imp (fun b s6 p q6 H6 e6 rs6 => ?_) fun _ _ h => h)⟩
        have re6 := re5.ext e6
        have e36 : Ext q3 H3 q6 H6 := e4.trans (e5.trans e6)
        cases b with
        | false =>
          exact iteF ⟨q6, s6, rs6, e3.trans e36, (show (lcL c gf tt te (wipeE env vs) s1.length (ds.drop (i + 1)) s6).post _ _ from p).imp (fun _ _ h => KV.ext e36 h) fun _ _ h => h.ext e36⟩
        | true =>
          refine iteT ⟨q6, en, s6, rs6, re6, R.post_noex ((R.post_bind.mp (show ((te en s6).noex.bind _).post _ _ from p)).imp (fun d s7 p q7 y7 H7 e7 rs7 ry => ?_) fun _ _ h => h)⟩
          have e37 : Ext q3 H3 q7 H7 := e36.trans e7
          have qD7 : q7[s1.length]? = some D := e37.at (e3.at qD)
          split at p
          · rename_i acc hacc
            split at p
            · rename_i hz
              obtain ⟨a, xs, qa, ha, r⟩ := rs7.lstAt hacc
              rw [qD7] at qa; cases qa
              obtain ⟨rs8, e8⟩ := lst_put rs7 hacc qD7 ha (r.append (.cons ry .nil))
              exact ⟨xs, ha, by rw [r.length]; exact hz, q7, _, rs8, e3.trans (e37.trans e8), p.imp (fun _ _ h => KV.ext (e37.trans e8) h) fun _ _ h => h.ext (e37.trans e8)⟩
            · exact False.elim p
          · exact False.elim p
    · rw [if_neg ok] at p
      exact False.elim p
  · have e : i = ds.length := by omega
    subst e
    rw [List.drop_length] at p
    unfold lcL at p
    by_cases ok : ChkOk c st3
    · rw [if_pos ok] at p
      exact .inl ⟨(wk _ q3 H3 st3 (e2.trans e3) rs3 ok).1 (Nat.le_refl _), p q3 _ H3 Ext.refl rs3 (.ref (e3.at qD))⟩
    · rw [if_neg ok] at p
      exact False.elim p
theorem le_lc {elt iter : Expr} {ifs : List Expr} {scope : Scope} {own : List (Str × Nat)} {pos : Pos} {it : ItF} {gf : GF} {tt : TF} {te : EF} (hc : X.calm = true) (hN : X.N.Nodup) (hi : PI X tg iter (LI (gOf B X) E it)) (ok : BlkOk X.N X.env.scope scope own)
    (hg : ∀ (s : Shared) (H : Hp) (C : Addr) (cl : List (Str × Addr)) (fp : List Addr), PG (X.blk s H scope (compEnvC scope cl C X.env) fp) tg (LGw (gOf B X) E0 (own.map (·.2)) gf)) (ht : ∀ (s : Shared) (H : Hp) (C : Addr) (cl : List (Str × Addr)) (fp : List Addr), PTs (X.blk s H scope (compEnvC scope cl C X.env) fp) ifs (LT (gOf B X) E0 tt))
    (he : ∀ (s : Shared) (H : Hp) (C : Addr) (cl : List (Str × Addr)) (fp : List Addr), PE (X.blk s H scope (compEnvC scope cl C X.env) fp) elt (LE (gOf B X) E0 te)) (hs : ∀ x, foldedSetIterable iter X.env x = pure x := by intro _; rfl) :
    PE X (.ListComp elt [⟨tg, iter, ifs, 0⟩] scope pos) (LE (gOf B X) E (lcF it (own.map (·.2)) gf tt te)) := (pe_lc hc hN hi ok hg ht he hs).imp fun _ _ _ w => lc_le w
theorem ls_setLc {i : Nat} {y : Str} {py : Pos} {elt iter : Expr} {ifs : List Expr} {scope : Scope} {own : List (Str × Nat)} {pos spos : Pos} {it : ItF} {gf : GF} {tt : TF} {te : EF} (hc : X.calm = true) (hN : X.N.Nodup) (hsw : swapsWith (.ListComp elt [⟨tg, iter, ifs, 0⟩] scope pos) (some (.Name y py)) spos.line X.env = pure true) (hi : PI X tg iter (LI (gOf B X) E it)) (ok : BlkOk X.N X.env.scope scope own)
    (hg : ∀ (s : Shared) (H : Hp) (C : Addr) (cl : List (Str × Addr)) (fp : List Addr), PG (X.blk s H scope (compEnvC scope cl C X.env) fp) tg (LGw (gOf B X) E0 (own.map (·.2)) gf)) (ht : ∀ (s : Shared) (H : Hp) (C : Addr) (cl : List (Str × Addr)) (fp : List Addr), PTs (X.blk s H scope (compEnvC scope cl C X.env) fp) ifs (LT (gOf B X) E0 tt))
    (he : ∀ (s : Shared) (H : Hp) (C : Addr) (cl : List (Str × Addr)) (fp : List Addr), PE (X.blk s H scope (compEnvC scope cl C X.env) fp) elt (LE (gOf B X) E0 te)) (hy : X.N[i]? = some y := by rfl) (hyl : X.env.scope.names.lookup y = some .local := by rfl) (hs : ∀ x, foldedSetIterable iter X.env x = pure x := by intro _; rfl) :
    PS X (.Assign [.Name y py] (.ListComp elt [⟨tg, iter, ifs, 0⟩] scope pos) spos) (LS (gOf B X) E (setS i (lcF it (own.map (·.2)) gf tt te))) :=
  (ps_setLc hc hN hy hyl hsw hi ok hg ht he hs).imp fun T sg H w => by
    obtain ⟨q, env, st, rs, re, p⟩ := w
    have h : LE (gOf B X) E (lcF it (own.map (·.2)) gf tt te) sg H (fun x H1 => gName i x sg H1 T.nx) :=
      LE.chain rs re (R.post_bind.mp p) fun x s1 q1 v H1 p e1 rs1 re1 rx => p q1 H1 e1 rs1 _ (re1.set rx)
    exact lc_le h
end

/-! ### a def that lets nothing out -/
def Sp0 (g : G) (n : Nat) (f : Fn) : Sp := fun vs H Q _ => vs.length = n ∧ LC g E0 f vs H Q
section
variable {P : Program} {w : World} {K : PySem.W.Frag} {mg : Str → Option Value} {base : Heap}
theorem fn0 {x qual : Str} {st : Stmt} {f : Addr} {fd : FuncData} {N ps : List Str} {k n m : Nat} {fb : SF} (F : Fun K x qual st f fd) (S : FnScope N ps (defScope st)) (hn : N.length = n) (hm : ps.length = m)
    (body : ∀ (cdv : Value) (A : Around) (outer : List Env) (s : Shared) (H : Hp) (E : XK), Room k (A.deeper (envOfC qual (defScope st) s.heap.objs.size f cdv)) →
      PSs (cxOf CX0 P w K mg base N qual (defScope st) f cdv A outer s H E).nox (defBody st) (LS ⟨P, w, K, mg, B⟩ E0 fb)) : FnOk P w K mg base CX0 (k + 1) f fd ps (Sp0 ⟨P, w, K, mg, B⟩ m (fnF n fb)) :=
  F.ok S (fun vs H Q E h => h.1.trans hm.symm) fun cdv A outer s H vs Q E hr h => ⟨_, body cdv A outer s H E hr, fn_le hn h.2⟩
end
section
variable {X : Cx}
theorem le_call0 {k n : Nat} {f : Addr} {fd : FuncData} {ps : List Str} {fn : Fn} {x : Str} {p pos : Pos} {e : Expr} {es : List Expr} {fa : AF} (F : FnOk X.prog X.w X.K X.mg X.base CX0 k f fd ps (Sp0 (gOf B X) n fn)) (hr : Room k X.A) (hm : X.mg x = some (.ref f)) (hk : PySem.W.keepIn X.K (.ref f) = true) (hb : Binds X.K fd ps [])
    (ha : PA X (e :: es) (LA (gOf B X) E0 fa)) (hla : ∀ env st ds s, fa env st = .ok ds s → ds.length = n) (hg : Gl X x := by rfl) (hdb : (x == ("__debug__" : Str)) = false := by decide) (he : starEach (e :: es) X.env = (false, eval e X.env) :: starEach es X.env := by rfl) (hpl : (backTo pos (starEach es X.env)).any (·.1) = false := by rfl) :
    PE X (.Call (.Name x p) (e :: es) [] pos) (LE (gOf B X) E0 (callF fn fa)) :=
  (pe_call F hr hg hm hk hb .nil pass0 ha hdb he hpl).imp fun sg H Q w => by
    obtain ⟨q, env, st, rs, re, p⟩ := w
    have p := R.post_bind.mp p
    have p' : (fa env st).post (fun ds s => ds.length = n ∧ (fn ds s).post (KV (gOf B X) q H Q) (KX (gOf B X) q H E0)) (KX (gOf B X) q H E0) := by
      cases hfa : fa env st with
      | ok ds s => rw [hfa] at p; exact ⟨hla _ _ _ _ hfa, p⟩
      | ex c s => rw [hfa] at p; exact p
      | bad => rw [hfa] at p; exact p
    refine LA.chain rs re p' fun xs s1 q1 vs H1 p e1 rs1 re1 rx => ?_
    rw [List.append_nil]
    exact ⟨by rw [rx.length]; exact p.1, q1, s1, xs, rs1, rx, p.2.imp (fun _ _ h => h.ext e1) fun _ _ h => h.ext e1⟩
theorem le_call00 {k : Nat} {f : Addr} {fd : FuncData} {ps : List Str} {fn : Fn} {x : Str} {p pos : Pos} (F : FnOk X.prog X.w X.K X.mg X.base CX0 k f fd ps (Sp0 (gOf B X) 0 fn)) (hr : Room k X.A) (hm : X.mg x = some (.ref f)) (hk : PySem.W.keepIn X.K (.ref f) = true) (hb : Binds X.K fd ps [])
    (hg : Gl X x := by rfl) (hdb : (x == ("__debug__" : Str)) = false := by decide) : PE X (.Call (.Name x p) [] [] pos) (LE (gOf B X) E0 (callF fn nilA)) :=
  (pe_call0 F hr hg hm hk hb .nil pass0 hdb).imp fun sg H Q w => by
    obtain ⟨q, env, st, rs, re, p⟩ := w
    exact ⟨rfl, q, st, [], rs, .nil, p⟩
end

/-! ### the law's end -/
def spLaw (K : PySem.W.Frag) : Sp := fun vs H Q _ => ∃ (a : Addr) (ns : List Int), vs = [.ref a] ∧ SqL K H a (ns.map V.int) ∧ ns.length ≤ 63 ∧ Only H ∧ ∀ H', Q (.bl true) H'
theorem law_end {g : G} {f : Fn} (hB : g.B.T = []) (h : ∀ ns : List Int, ns.length ≤ 63 → ∃ st, f [.ref 0] [.rl (ns.map D.int)] = .ok (.bl true) st) : ∀ vs H Q E, spLaw g.K vs H Q E → Sp0 g 1 f vs H Q E := by
  intro vs H Q E ⟨a, ns, hv, hS, hl, hO, k⟩
  subst hv
  obtain ⟨st, h⟩ := h ns hl
  have ro : RoL g.K H a (ns.map V.int) := by
    rcases hS with (hS | ⟨ob, hS⟩) | hS
    · rcases hO a with z | ⟨o, xs, z⟩
      · rw [hS] at z; cases z
      · rw [hS] at z; cases z
    · exact .inl ⟨ob, hS⟩
    · exact .inr hS
  refine ⟨rfl, [a], [.rl (ns.map D.int)], [.ref 0], ⟨rfl, fun m n b h1 h2 => ?_, fun n b o h1 h2 => ?_, ?_⟩, .cons (.ref rfl) .nil, ?_⟩
  · have l1 := (List.getElem?_eq_some_iff.mp h1).1
    have l2 := (List.getElem?_eq_some_iff.mp h2).1
    simp at l1 l2
    exact .inl (by omega)
  · have l1 := (List.getElem?_eq_some_iff.mp h1).1
    simp at l1
    subst l1
    simp at h1 h2
    subst h1 h2
    exact ⟨_, ro, RDs.ints⟩
  · intro p hp
    rw [hB] at hp
    cases hp
  · rw [h]
    intro q' v H' _ _ r
    rw [r.bl_inv]
    exact k H'
/-! .. where code objects are made -/
def spLawT (K : PySem.W.Frag) (T : List (Addr × Str)) : Sp := fun vs H Q _ => ∃ (a : Addr) (ns : List Int), vs = [.ref a] ∧ SqL K H a (ns.map V.int) ∧ ns.length ≤ 63 ∧ Tabs T H ∧ ∀ H', Q (.bl true) H'
theorem law_endT {g : G} {f : Fn} (h : ∀ (ns : List Int) (o : O), ns.length ≤ 63 → (o = .rl (ns.map D.int) ∨ o = .lst (ns.map D.int)) → ∃ st, f [.ref 0] [o] = .ok (.bl true) st) : ∀ vs H Q E, spLawT g.K g.B.T vs H Q E → Sp0 g 1 f vs H Q E := by
  intro vs H Q E ⟨a, ns, hv, hS, hl, hT, k⟩
  subst hv
  obtain ⟨o, ho, ro⟩ : ∃ o : O, (o = .rl (ns.map D.int) ∨ o = .lst (ns.map D.int)) ∧ RO g [a] H a o := by
    rcases hS with (hS | ⟨ob, hS⟩) | hS
    · exact ⟨_, .inr rfl, _, hS, RDs.ints⟩
    · exact ⟨_, .inl rfl, _, .inl ⟨ob, hS⟩, RDs.ints⟩
    · exact ⟨_, .inl rfl, _, .inr hS, RDs.ints⟩
  obtain ⟨st, h⟩ := h ns o hl ho
  refine ⟨rfl, [a], [o], [.ref 0], ⟨rfl, fun m n b h1 h2 => ?_, fun n b x h1 h2 => ?_, hT⟩, .cons (.ref rfl) .nil, ?_⟩
  · have l1 := (List.getElem?_eq_some_iff.mp h1).1
    have l2 := (List.getElem?_eq_some_iff.mp h2).1
    simp at l1 l2
    exact .inl (by omega)
  · have l1 := (List.getElem?_eq_some_iff.mp h1).1
    simp at l1
    subst l1
    simp at h1 h2
    subst h1 h2
    exact ro
  · rw [h]
    intro q' v H' _ _ r
    rw [r.bl_inv]
    exact k H'
end VL

/-! VL5: isinstance; names of types. -/
namespace VL
open PySem PySem.Spec PyProof.Rows L2 LamX NdefX
variable {B : Tb}
/-- a datum's built-in type -/
def tyOfD (d : D) (st : Sto) : Option String := match d with
  | .non => some "NoneType"
  | .bl _ => some "bool"
  | .int _ => some "int"
  | .str _ => some "str"
  | .tup _ => some "tuple"
  | .ref n => match st[n]? with
    | some (.lst _) => some "list"
    | some (.rl _) => some "list"
    | some (.dic _) => some "dict"
    | _ => none
  | _ => none
def isiD : List D → Sto → R D
  | [d, .ty T], st => match (tyOfD d st).bind fun a => kitB a T with
    | some b => .ok (.bl b) st
    | none => .bad
  | _, _ => .bad
section
variable {X : Cx} {E : XK}
theorem le_ty {x : Str} {T : String} {pos : Pos} (hg : Gl X x) (hm : X.mg x = none) (hv : bootBuiltins x = some (.type T)) (hn : x ≠ "__name__" := by decide) (hd : (x == ("__debug__" : Str)) = false := by decide) : PE X (.Name x pos) (LE (gOf B X) E (cF (.ty T))) :=
  le_c (pe_bltn (v := .ty T) hg hm hv rfl hn hd) fun _ _ => .ty T
theorem kit_D {pins : List (Addr × Obj)} {sg : L2.St} {q : List Addr} {H : Hp} {s : Shared} {st : Sto} {x : V} {d : D} {u : Value} {a : String} (I : L2.Inv X pins sg H s) (rs : RS (gOf B X) q H st) (rx : RD (gOf B X) q H x d) (r : RelV x u) (h : tyOfD d st = some a) :
    ∃ P : Heap → Prop, PySem.W.KitX X.K u (.type a) P ∧ P s.heap ∧ u ≠ .builtin "__main__.__loader__#opaque" := by
  cases d with
  | non => rw [rx.non_inv] at r; cases h; exact kit_of I r (.base .non)
  | bl b => rw [rx.bl_inv] at r; cases h; exact kit_of I r (.base (.bl b))
  | int i => rw [rx.int_inv] at r; cases h; exact kit_of I r (.base (.int i))
  | str z => rw [rx.str_inv] at r; cases h; exact kit_of I r (.base (.str z))
  | tup ds =>
    obtain ⟨p, xs, rfl, hs, _⟩ := rx.tup_inv
    cases h
    rcases hs with (hs | ⟨ob, hs⟩) | ⟨o, its, n, hk, hc, _⟩
    · exact kit_of I r (.base (.tup hs))
    · exact kit_of I r (.fTuple hs)
    · exact kit_of I r (.kTuple hk hc)
  | ref n =>
    obtain ⟨p, rfl, qp⟩ := rx.ref_inv
    unfold tyOfD at h
    simp only at h
    split at h
    · rename_i xs e
      cases h
      obtain ⟨b, ys, qb, hb, _⟩ := rs.lstAt e
      rw [qp] at qb; cases qb
      exact kit_of I r (.base (.lst hb))
    · rename_i xs e
      cases h
      obtain ⟨b, qb, ys, hb, _⟩ := rs.get e
      rw [qp] at qb; cases qb
      rcases hb with ⟨ob, hb⟩ | ⟨o, its, n, hk, hc, _⟩
      · exact kit_of I r (.base (.frz hb))
      · exact kit_of I r (.kList hk hc)
    · rename_i kvs e
      cases h
      obtain ⟨b, qb, hb⟩ := rs.get e
      rw [qp] at qb; cases qb
      rcases hb with ⟨gs, hk, _⟩ | ⟨_, xs, hk, _⟩
      · exact kit_of I r (.base (.dK hk))
      · cases r
        obtain ⟨⟨_, o, es, ep, e, ex, _⟩, _⟩ := I.hok p _ hk
        exact ⟨_, PySem.W.kitx_dict, ⟨o, e, ex.1⟩, fun z => nomatch z⟩
    · cases h
  | _ => cases h
theorem call_isiD : CallR X (.builtin "isinstance") (LC (gOf B X) E isiD) := by
  intro pins s sg H vs us Q I r w
  obtain ⟨q, st, ds, rs, rd, p⟩ := w
  unfold isiD at p
  split at p
  · rename_i d T
    split at p
    · rename_i b e
      obtain ⟨a, h1, h2⟩ := Option.bind_eq_some_iff.mp e
      obtain ⟨x, c, rfl, rx, rc⟩ := rd.two_inv
      rw [rc.ty_inv] at r
      obtain ⟨u1, u2, rfl, r1, r2⟩ := vals2 r
      cases (show u2 = Value.type T from r2)
      obtain ⟨P, Z, hp, hx⟩ := kit_D I rs rx r1 h1
      exact PySem.W.kia_one Z I.kIn hp (kit_ty h2) hx fun tk => ⟨.bl b, H, I.tok tk, rfl, p q _ H Ext.refl rs (.bl b)⟩
    · exact False.elim p
  · exact False.elim p
end
end VL

/-! VL6: in; enumerate, reversed; t[::-1]; a def that calls itself. -/
namespace PySem
open Sem (wp)
theorem vl_enum_newT (l : Addr) (items : Array Value) (n : Nat) (dct : Option Addr) (sl : Array (Option Value)) :
    Meets (Builtin.«enumerate.__new__» ⟨[.type "enumerate", .ref l], []⟩) (fun _ R s => s.heap.get? l = some { cls := .type "tuple", dict := dct, data := .seq items n, slots := sl } ∧
      R (.ok (.ret (.ref (s.heap.push { cls := .type "tuple_iterator", data := .fields #[.ref l, .int 0 0] }).objs.size)))
        { s with heap := (s.heap.push { cls := .type "tuple_iterator", data := .fields #[.ref l, .int 0 0] }).push { cls := .type "enumerate", data := .fields #[.none, .bool false, .ref s.heap.objs.size, rawInt 0, .none, .none] } }) :=
  .of_wp fun prog w A R s h => by
    obtain ⟨hp, g, d, tk, os⟩ := s; obtain ⟨hl, h⟩ := h
    have hsub := sub_enumerate
    have hL : Heap.IsTuple (Shared.heap ⟨hp, g, d, tk, os⟩) l items := ⟨_, hl, rfl, n, rfl⟩
    wp_walk using wpAny_loadPart' hl
    refine wpAny_stack_any fun st => wpAny_pure ?_
    split
    · rename_i c _ _ _ _ _
      cases (c == Value.type "enumerate")
      · wp_walk using wpAny_loadPart' hl, wpAny_pyIter_tuple hL
        exact ⟨_, rfl, h⟩
      · wp_walk using wpAny_loadPart' hl, wpAny_pyIter_tuple hL
        exact ⟨_, rfl, h⟩
    · wp_walk using wpAny_loadPart' hl, wpAny_pyIter_tuple hL
      exact ⟨_, rfl, h⟩
section
variable {prog : Program} {w : World} {A : Around} {E : Value → Shared → Prop} {s : Shared}
theorem vl_enum_tuple {l : Addr} {items : Array Value} {Q : Value → Shared → Prop} (hL : s.heap.IsTuple l items)
    (h : ∀ h', IsEnum h' (s.heap.objs.size + 1) s.heap.objs.size 0 .none → h'.IsTupleIter s.heap.objs.size l 0 → h'.objs.size = s.heap.objs.size + 2 →
      (∀ b o, s.heap.get? b = some o → h'.get? b = some o) → Q (.ref (s.heap.objs.size + 1)) { s with heap := h' }) :
    wpAny (model prog w) A (call (.type "enumerate") [.ref l]) Q E s := by
  obtain ⟨⟨c, dct, dt, sl⟩, hl, hc, n, hd⟩ := hL
  replace hc : c = .type "tuple" := hc
  replace hd : dt = .seq items n := hd
  subst hc hd
  refine callType_new F.called_enumerate (by decide) (F.typeCall_enumerate_1 _) (F.newCall_enumerate_1 _) (fun obj => F.args_object_init_2 obj _) F.entry_enumerate_new
    (vl_enum_newT l items n dct sl) ⟨hl, ?_⟩
  have hz : (s.heap.push { cls := .type "tuple_iterator", data := .fields #[.ref l, .int 0 0] }).objs.size = s.heap.objs.size + 1 := Heap.size_push ..
  show _ ∧ _
  rw [hz]
  have he : IsEnum ((s.heap.push { cls := .type "tuple_iterator", data := .fields #[.ref l, .int 0 0] }).push
      { cls := .type "enumerate", data := .fields #[.none, .bool false, .ref s.heap.objs.size, rawInt 0, .none, .none] }) (s.heap.objs.size + 1) s.heap.objs.size 0 .none := by
    have := Heap.get?_push_size (s.heap.push { cls := .type "tuple_iterator", data := .fields #[.ref l, .int 0 0] })
      (o := { cls := .type "enumerate", data := .fields #[.none, .bool false, .ref s.heap.objs.size, rawInt 0, .none, .none] }) rfl
    rw [hz] at this; exact this
  exact ⟨⟨_, he, rfl⟩, h _ he ⟨_, Heap.get?_push_of_some _ (Heap.get?_push_size _ rfl), rfl, rfl⟩ (by rw [Heap.size_push, hz]) fun b o x => Heap.get?_push_of_some _ (Heap.get?_push_of_some _ x)⟩
end
end PySem
namespace L2
open PySem PySem.Spec PyProof.Rows
/-! ### enumerate(tuple) -/
def IteT (K : PySem.W.Frag) (a : Addr) : It :=
  ⟨fun i H => ∃ (xs : List V) (x : V), SqT K H a xs ∧ xs[i]? = some x, fun i H v H' => ∃ T x, v = .ref T ∧ H T = none ∧ H' = upd H T (.tup [.int (i : Nat), x]) ∧ ∀ xs, SqT K H a xs → xs[i]? = some x, fun i H => ∃ xs : List V, SqT K H a xs ∧ xs.length ≤ i⟩
theorem turn_enumT {P : Program} {w : World} {K : PySem.W.Frag} {elts : List Expr} {kk : Nat} {tpos : Pos} (a e it : Addr) (hai : a ≠ it) (hae : a ≠ e) :
    Turn P w K (.Tuple elts kk tpos) (IteT K a) [e, it] e (fun i h => (∃ old, IsEnum h e it ((i : Nat) : Int) old) ∧ h.IsTupleIter it a i ∧ e ≠ it) where
  mem := by simp
  obj := fun i h st b hb => by
    obtain ⟨⟨old, he⟩, ⟨o, ho, hc, hd⟩, _⟩ := st
    have e' : b = e ∨ b = it := by simpa using hb
    rcases e' with z | z
    · rw [z]; exact ⟨_, he, fun v q => nomatch q⟩
    · rw [z]; exact ⟨o, ho, fun v q => by rw [hd] at q; cases q⟩
  keep := fun i h h' st k => let ⟨⟨old, he⟩, hi, hne⟩ := st; ⟨⟨old, k e (by simp) _ he⟩, hi.at fun o q => k it (by simp) o q, hne⟩
  item := by
    intro X hP hw hK hc i pins s σ H E I hf st hg
    subst hP hw hK
    obtain ⟨⟨old, he⟩, hit, hne⟩ := st
    obtain ⟨xs, x, hq, hx⟩ := hg
    obtain ⟨its, rv, p, hz⟩ := I.tuple hq
    obtain ⟨u, hu, ru⟩ := rv.get hx
    have hel : e < s.heap.objs.size := Heap.lt_size he
    have hil : it < s.heap.objs.size := by obtain ⟨_, q, _⟩ := hit; exact Heap.lt_size q
    have D := Draws.tuple (prog := X.prog) (w := X.w) (A := X.A.in1) (show X.A.in1.handled = none from I.ok.hd hc) it a hai its.toArray
    have pt : s.heap.IsTuple a its.toArray := p
    have hlt : i < its.toArray.size := by
      have := (List.getElem?_eq_some_iff.mp hu).1
      simpa using this
    refine wpAny_pyNext_enum_itemD D he ⟨hit, pt⟩ hlt hne (by simp only [List.mem_cons, List.not_mem_nil, or_false, not_or]; exact ⟨hne, Ne.symm hae⟩) fun x2 h' tk hP ho hst hT hsz hk => ?_
    have ex : x2 = u := by
      have : its.toArray[i]? = some u := by simpa using hu
      rw [this] at hP
      exact (Option.some.inj hP).symm
    subst ex
    obtain ⟨hit', _⟩ := hst
    refine ⟨_, rfl, wpAny_letOwnedTupleGo_enum (s := { s with heap := h', toks := tk + 1 }) ho fun h'' he' sb => ?_⟩
    have hT2 : h''.get? s.heap.objs.size = some { cls := .type "tuple", data := .seq #[.int i tk, x2] } := (sb.2 _ (Nat.ne_of_gt hel)).trans hT
    have new : ObjOk X.prog X.w (upd H s.heap.objs.size (.tup [.int (i : Nat), x])) h'' s.heap.objs.size (.tup [.int (i : Nat), x]) :=
      ⟨by show 2 ≤ sizeLine; decide, [.int i tk, x2], .cons ⟨_, rfl⟩ (.cons ru .nil), ⟨_, hT2, rfl, _, rfl⟩⟩
    have I1 : Inv X pins σ (upd H s.heap.objs.size (.tup [.int (i : Nat), x])) { s with heap := h'', toks := tk + 1 } :=
      I.turnedNew (ch := [e, it]) (fun b ob hb q => (sb.2 b (fun z => hb (by simp [z]))).trans (hk b ob (fun z => hb (by simp [z])) (fun z => hb (by simp [z])) q)) hf (Nat.le_refl _) new
    refine ⟨.ref s.heap.objs.size, _, I1, rfl, ⟨_, x, rfl, I.hok.fresh (Nat.le_refl _), rfl, fun ys hy => by rw [I.tuple_inj hy hq]; exact hx⟩, ⟨⟨x2, ?_⟩, hit'.at fun o q => (sb.2 it (Ne.symm hne)).trans q, hne⟩, fun b hb => ?_⟩
    · have e1 : ((i + 1 : Nat) : Int) = (i : Int) + 1 := by omega
      rw [e1]; exact he'
    · have hb' : b < s.heap.objs.size := by
        have e' : b = e ∨ b = it := by simpa using hb
        rcases e' with z | z
        · rw [z]; exact hel
        · rw [z]; exact hil
      rw [upd_ne (Nat.ne_of_lt hb')]
      exact (hf b hb).1
  done := by
    intro X hP hw hK hc i pins s σ H E I hf st hg
    subst hP hw hK
    obtain ⟨⟨old, he⟩, hit, hne⟩ := st
    obtain ⟨xs, hq, hx⟩ := hg
    obtain ⟨its, rv, p, hz⟩ := I.tuple hq
    obtain ⟨f0, f1, f2, f3, f4, f5⟩ := hf it (by simp)
    have hl := rv.length
    have hT : s.TypeIs (.ref e) "enumerate" := ⟨_, he, rfl⟩
    unfold pyNext
    refine wpAny_bind (wpAny_attempt (wpAny_callSpecial?_slot (name := Str.ofString "__next__") hT F.slot_enumerate_next
      (wpAny_call_entry F.slot_enumerate_next hT F.entry_enumerate_next ?_ (F.args_enumerate_next_1 _))))
    show wpAny _ _ (field (.ref e) 2 >>= _) _ _ _
    refine wpAny_bind (wpAny_field he rfl (x := .ref it) rfl ?_)
    refine wpAny_bind (wpAny_nextOf_tuple_end (I.ok.hd hc) hit (show s.heap.IsTuple a its.toArray from p) (by simp; omega) fun h' x he' hx' => ?_)
    obtain ⟨o, ho, hc'⟩ := hx'
    refine wpAny_bind (wpAny_isInstance (T := "StopIteration") (b := true) ⟨o, ho, hc'⟩ isSubtype_stop ?_)
    exact wpAny_pure ⟨rfl, I.turned (t' := s.toks) (fun b o hb q => he' b o hb q) f0 f1 f3 f4 f5⟩
  self := fun A i s Q E st h => let ⟨⟨_, he⟩, _⟩ := st; wpAny_pyIter_enum he h
def iEnumA (K : PySem.W.Frag) (ta : TA) : TI := fun σ H R => ta σ H fun vs H1 => ∃ a xs, vs = [.ref a] ∧ ((SqL K H1 a xs ∧ R (Ite K a) H1) ∨ (SqT K H1 a xs ∧ R (IteT K a) H1))
theorem pi_enumA {X : Cx} {e : Expr} {ta : TA} {p pos tpos : Pos} {elts : List Expr} {kk : Nat} (hg : Gl X "enumerate") (hm : X.mg "enumerate" = none) (ha : PA X [e] ta) (hs : starEach [e] X.env = [(false, eval e X.env)] := by rfl) :
    PI X (.Tuple elts kk tpos) (.Call (.Name "enumerate" p) [e] [] pos) (iEnumA X.K ta) := by
  refine ⟨fun pins s σ H R I h => ?_⟩
  refine Call_ (ld_blt I hg hm boot_enumerate (PyProof.Rows.callWith_type1 (thn (ha.run pos pins s σ H _ I h) fun us s1 ⟨vs, H1, I1, r1, q1⟩ => ?_) hs rfl))
  obtain ⟨a, xs, ex, hq⟩ := q1
  subst ex
  cases r1 with
  | cons r rr =>
    cases rr
    cases r
    rcases hq with ⟨hq, q⟩ | ⟨hq, q⟩
    · obtain ⟨its, rv, p', hz⟩ := I1.list hq
      refine call_enumerate_list p'.isList fun h' he hit hsz hk => wpAny_pyIter_enum he ?_
      have I2 : Inv X pins σ H1 { s1 with heap := h' } := I1.kept (t' := s1.toks) hk
      refine ⟨s1.heap.objs.size + 1, [s1.heap.objs.size + 1, s1.heap.objs.size], _, _, H1, rfl, I2, turn_enum a (s1.heap.objs.size + 1) s1.heap.objs.size, ⟨⟨.none, he⟩, hit, Nat.succ_ne_self _⟩, fun b hb => ?_, q⟩
      have e' : b = s1.heap.objs.size + 1 ∨ b = s1.heap.objs.size := by simpa using hb
      have hle : s1.heap.objs.size ≤ b := by
        rcases e' with z | z
        · rw [z]; exact Nat.le_add_right _ _
        · rw [z]; exact Nat.le_refl _
      exact I1.fpOk hle (I1.hok.fresh hle)
    · obtain ⟨its, rv, p', hz⟩ := I1.tuple hq
      have pt : s1.heap.IsTuple a its.toArray := p'
      have hal : a < s1.heap.objs.size := by obtain ⟨o, ho, _⟩ := id p'; exact Heap.lt_size ho
      refine vl_enum_tuple pt fun h' he hit hsz hk => wpAny_pyIter_enum he ?_
      have I2 : Inv X pins σ H1 { s1 with heap := h' } := I1.kept (t' := s1.toks) hk
      refine ⟨s1.heap.objs.size + 1, [s1.heap.objs.size + 1, s1.heap.objs.size], _, _, H1, rfl, I2, turn_enumT a (s1.heap.objs.size + 1) s1.heap.objs.size (Nat.ne_of_lt hal) (Nat.ne_of_lt (Nat.lt_succ_of_lt hal)), ⟨⟨.none, he⟩, hit, Nat.succ_ne_self _⟩, fun b hb => ?_, q⟩
      have e' : b = s1.heap.objs.size + 1 ∨ b = s1.heap.objs.size := by simpa using hb
      have hle : s1.heap.objs.size ≤ b := by
        rcases e' with z | z
        · rw [z]; exact Nat.le_add_right _ _
        · rw [z]; exact Nat.le_refl _
      exact I1.fpOk hle (I1.hok.fresh hle)
end L2
namespace VL
open PySem PySem.Spec PyProof.Rows L2 RZ RT LamX NdefX
variable {B : Tb}
section
variable {X : Cx} {E : XK} {tg : Expr}
/-- (0, x), (1, y), .. -/
def numbered (ds : List D) : List D := (ds.zipIdx).map fun p => .tup [.int (p.2 : Nat), p.1]
theorem numbered_get {ds : List D} {i : Nat} {d : D} (h : (numbered ds)[i]? = some d) : ∃ x, ds[i]? = some x ∧ d = .tup [.int (i : Nat), x] := by
  unfold numbered at h
  rw [List.getElem?_map, List.getElem?_zipIdx] at h
  cases e : ds[i]? with
  | none => rw [e] at h; simp at h
  | some x =>
    rw [e] at h
    simp at h
    exact ⟨x, rfl, h.symm⟩
theorem numbered_len {ds : List D} : (numbered ds).length = ds.length := by simp [numbered]
theorem walks_et {g : G} {q : List Addr} {H : Hp} {a : Addr} {xs : List V} {ds : List D} {c : Chk} (hs : SqT g.K H a xs) (r : RDs g q H xs ds) : Walks g (IteT g.K a) q H (numbered ds, c) := by
  intro i q' H' st' e rs ok
  have hs' := sqT_ext e hs
  have r' := r.ext e
  refine ⟨fun hi => ⟨xs, hs', by rw [r.length]; rw [numbered_len] at hi; exact hi⟩, fun d hd => ?_⟩
  obtain ⟨x, hx, rfl⟩ := numbered_get hd
  obtain ⟨u, hu, ru⟩ := r'.get hx
  refine ⟨⟨xs, u, hs', hu⟩, fun y H2 ⟨T, z, hz, nT, h3, h4⟩ => ?_⟩
  subst hz h3
  have e1 := h4 xs hs'
  rw [hu] at e1; cases e1
  exact tup_new rs nT (.cons (.int _) (.cons ru .nil))
theorem walks_el {g : G} {q : List Addr} {H : Hp} {n : Nat} {a : Addr} {ds : List D} {c : Chk} (qa : q[n]? = some a) (hc : ∀ st', ChkOk c st' → listAt st' n = some ds) : Walks g (Ite g.K a) q H (numbered ds, c) := by
  intro i q' H' st' e rs ok
  obtain ⟨b, xs, qb, hs, r⟩ := rs.listAt (hc st' ok)
  rw [e.at qa] at qb; cases qb
  refine ⟨fun hi => ⟨xs, hs, by rw [r.length]; rw [numbered_len] at hi; exact hi⟩, fun d hd => ?_⟩
  obtain ⟨x, hx, rfl⟩ := numbered_get hd
  obtain ⟨u, hu, ru⟩ := r.get hx
  refine ⟨⟨xs, u, hs, hu⟩, fun y H2 ⟨T, z, hz, nT, h3, h4⟩ => ?_⟩
  subst hz h3
  have e1 := h4 xs hs
  rw [hu] at e1; cases e1
  exact tup_new rs nT (.cons (.int _) (.cons ru .nil))
def enumD : List D → Sto → R (List D × Chk)
  | [.tup ds], st => .ok (numbered ds, []) st
  | [.ref n], st => match listAt st n with
    | some ds => .ok (numbered ds, chkAt st n) st
    | none => .bad
  | _, _ => .bad
theorem li_enum {e : Expr} {fa : AF} (h : PI X tg e (iEnumA X.K (LA (gOf B X) E fa))) : PI X tg e (LI (gOf B X) E (itA enumD fa)) :=
  h.imp fun sg H RR w => itA_le w fun q st ds vs H rs rd p => by
    unfold enumD at p
    split at p
    · obtain ⟨v, rfl, r⟩ := rd.one_inv
      obtain ⟨a, xs, rfl, ha, ra⟩ := r.tup_inv
      exact ⟨a, xs, rfl, .inr ⟨ha, p q H _ Ext.refl rs (walks_et ha ra)⟩⟩
    · split at p
      · rename_i ds e1
        obtain ⟨v, rfl, r⟩ := rd.one_inv
        obtain ⟨a, xs, qa, ha, _⟩ := rs.listAt e1
        obtain ⟨a', rfl, qa'⟩ := r.ref_inv
        rw [qa] at qa'; cases qa'
        exact ⟨a, xs, rfl, .inl ⟨ha, p q H _ Ext.refl rs (walks_el qa fun st' ok => chkAt_list e1 ok)⟩⟩
      · exact False.elim p
    · exact False.elim p
/-! ### in -/
def flatD : D → Bool
  | .non => true
  | .bl _ => true
  | .int _ => true
  | .str _ => true
  | _ => false
def eqF : D → D → Bool
  | .non, .non => true
  | .bl a, .bl b => a == b
  | .bl a, .int b => (if a then 1 else 0) == b
  | .int a, .bl b => a == (if b then 1 else 0)
  | .int a, .int b => a == b
  | .str a, .str b => a == b
  | _, _ => false
theorem flat_of {g : G} {q : List Addr} {H : Hp} {v : V} {d : D} (r : RD g q H v d) (h : flatD d = true) : flatV v = true := by cases r <;> first | rfl | cases h
theorem eqF_of {g : G} {q : List Addr} {H : Hp} {v w : V} {d e : D} (r : RD g q H v d) (r' : RD g q H w e) (h : flatD d = true) (h' : flatD e = true) : eqV v w = eqF d e := by
  cases r <;> first | (cases h; done) | (cases r' <;> first | rfl | (cases h'; done))
theorem all_flat {g : G} {q : List Addr} {H : Hp} : ∀ {vs : List V} {ds : List D}, RDs g q H vs ds → ds.all flatD = true → vs.all flatV = true
  | _, _, .nil, _ => rfl
  | _, _, .cons r t, h => by
    rw [List.all_cons, Bool.and_eq_true] at h
    rw [List.all_cons, flat_of r h.1, all_flat t h.2]
    rfl
theorem any_eqF {g : G} {q : List Addr} {H : Hp} {v : V} {d : D} (r : RD g q H v d) (h : flatD d = true) : ∀ {vs : List V} {ds : List D}, RDs g q H vs ds → ds.all flatD = true → (vs.any fun y => eqV y v) = ds.any fun y => eqF y d
  | _, _, .nil, _ => rfl
  | _, _, .cons r' t, h' => by
    rw [List.all_cons, Bool.and_eq_true] at h'
    rw [List.any_cons, List.any_cons, eqF_of r' r h'.1 h, any_eqF r h t h'.2]
/-- x in a list or tuple of flat items -/
def inL (neg : Bool) (x : D) (ds : List D) (st : Sto) : R D := if flatD x = true ∧ ds.all flatD = true then .ok (.bl (if neg then !(ds.any fun y => eqF y x) else ds.any fun y => eqF y x)) st else .bad
def inSq (neg : Bool) : D → D → Sto → R D
  | x, .tup ds, st => inL neg x ds st
  | x, .ref n, st => match listAt st n with
    | some ds => inL neg x ds st
    | none => .bad
  | _, _, _ => .bad
theorem inL_of {g : G} {q : List Addr} {H : Hp} {Q : VK} {K' : Str → Sto → Prop} {neg : Bool} {v : V} {x : D} {p : Addr} {xs : List V} {ds : List D} {st : Sto} (rs : RS g q H st) (rx : RD g q H v x) (hs : SqL g.K H p xs ∨ SqT g.K H p xs) (r : RDs g q H xs ds) (k : (inL neg x ds st).post (KV g q H Q) K') : rIn g.K neg v (.ref p) H Q := by
  unfold inL at k
  split at k
  · rename_i h
    refine ⟨p, xs, rfl, hs, flat_of rx h.1, all_flat r h.2, ?_⟩
    unfold inV
    rw [any_eqF rx h.1 r h.2]
    exact k q _ H Ext.refl rs (.bl _)
  · exact False.elim k
theorem inSq_of {neg : Bool} {x y : V} {H : Hp} {Q : VK} (w : LR (gOf B X) E (inSq neg) x y H Q) : rIn X.K neg x y H Q := by
  obtain ⟨q, st, a, b, rs, ra, rb, p⟩ := w
  cases b with
  | tup ds =>
    obtain ⟨p', xs, rfl, hs, r⟩ := rb.tup_inv
    exact inL_of (g := gOf B X) rs ra (.inr hs) r (show (inL neg a ds st).post _ _ by cases a <;> exact p)
  | ref n =>
    have p : (match listAt st n with | some ds => inL neg a ds st | none => .bad : R D).post (KV (gOf B X) q H Q) (KX (gOf B X) q H E) := by cases a <;> exact p
    split at p
    · rename_i ds e
      obtain ⟨p', xs, qa, hs, r⟩ := rs.listAt e
      obtain ⟨p2, rfl, qb⟩ := rb.ref_inv
      rw [qa] at qb; cases qb
      exact inL_of (g := gOf B X) rs ra (.inl hs) r p
    · exact False.elim p
  | _ => cases a <;> exact False.elim p
theorem op_inD : OpR X (compareOp .In) (LR (gOf B X) E (inSq false)) := op_in_seq.imp fun _ _ _ _ w => inSq_of w
theorem op_notInD : OpR X (compareOp .NotIn) (LR (gOf B X) E (inSq true)) := op_notIn_seq.imp fun _ _ _ _ w => inSq_of w
/-! ### reversed -/
theorem walks_rl {g : G} {q : List Addr} {H : Hp} {n : Nat} {a : Addr} {ds : List D} {c : Chk} (qa : q[n]? = some a) (hc : ∀ st', ChkOk c st' → listAt st' n = some ds) : Walks g (Itv g.K a ds.length) q H (ds.reverse, c) := by
  intro i q' H' st' e rs ok
  obtain ⟨b, xs, qb, hs, r⟩ := rs.listAt (hc st' ok)
  rw [e.at qa] at qb; cases qb
  refine ⟨fun hi => by rw [List.length_reverse] at hi; exact hi, fun d hd => ?_⟩
  have hl := (List.getElem?_eq_some_iff.mp hd).1
  rw [List.length_reverse] at hl
  have hd2 : ds[ds.length - 1 - i]? = some d := by
    have hd : ds.reverse[i]? = some d := hd
    rw [List.getElem?_reverse hl] at hd
    exact hd
  obtain ⟨x, hx, rx⟩ := r.get hd2
  refine ⟨⟨hl, xs, x, hs, hx⟩, fun y H2 ⟨e2, hy⟩ => ?_⟩
  subst e2
  exact ⟨Ext.refl, rs, r.inj_get (hy xs hs) hd2⟩
theorem walks_rt {g : G} {q : List Addr} {H : Hp} {a : Addr} {xs : List V} {ds : List D} {c : Chk} (hs : SqT g.K H a xs) (r : RDs g q H xs ds) : Walks g (ItvT g.K a ds.length) q H (ds.reverse, c) := by
  intro i q' H' st' e rs ok
  have hs' := sqT_ext e hs
  have r' := r.ext e
  refine ⟨fun hi => by rw [List.length_reverse] at hi; exact hi, fun d hd => ?_⟩
  have hl := (List.getElem?_eq_some_iff.mp hd).1
  rw [List.length_reverse] at hl
  have hd2 : ds[ds.length - 1 - i]? = some d := by
    have hd : ds.reverse[i]? = some d := hd
    rw [List.getElem?_reverse hl] at hd
    exact hd
  obtain ⟨x, hx, rx⟩ := r'.get hd2
  refine ⟨⟨hl, xs, x, hs', hx⟩, fun y H2 ⟨e2, hy⟩ => ?_⟩
  subst e2
  exact ⟨Ext.refl, rs, r'.inj_get (hy xs hs') hd2⟩
def revD (d : D) (st : Sto) : R (List D × Chk) := match d with
  | .tup ds => .ok (ds.reverse, []) st
  | .ref n => match listAt st n with
    | some ds => .ok (ds.reverse, chkAt st n) st
    | none => .bad
  | _ => .bad
theorem li_rev {e : Expr} {f : EF} (h : PI X tg e (iRevA X.K (LE (gOf B X) E f))) : PI X tg e (LI (gOf B X) E (fun env st => (f env st).bind revD)) :=
  h.imp fun sg H RR w => by
    obtain ⟨q, env, st, rs, re, p⟩ := w
    refine LE.chain rs re (R.post_bind.mp p) fun d s1 q1 v H1 p e1 rs1 re1 rx => ?_
    cases d with
    | tup ds =>
      obtain ⟨a, xs, rfl, ha, ra⟩ := rx.tup_inv
      exact ⟨a, xs, rfl, .inr ⟨ha, by rw [ra.length]; exact p q1 H1 _ e1 rs1 (walks_rt ha ra)⟩⟩
    | ref n =>
      have p : (match listAt s1 n with | some ds => .ok (ds.reverse, chkAt s1 n) s1 | none => .bad : R (List D × Chk)).post _ _ := p
      split at p
      · rename_i ds e
        obtain ⟨a, xs, qa, ha, ra⟩ := rs1.listAt e
        obtain ⟨a', rfl, qa'⟩ := rx.ref_inv
        rw [qa] at qa'; cases qa'
        exact ⟨a, xs, rfl, .inl ⟨ha, by rw [ra.length]; exact p q1 H1 _ e1 rs1 (walks_rl qa fun st' ok => chkAt_list e ok)⟩⟩
      · exact False.elim p
    | _ => exact False.elim p
end
/-! ### a def that calls itself: at depth 0 nothing is told -/
theorem fn_bad {P : Program} {w : World} {K : PySem.W.Frag} {mg : Str → Option Value} {base : Heap} {k n : Nat} {f : Addr} {fd : FuncData} {ps : List Str} {g : G} (hn : ps.length = n) : FnOk P w K mg base CX0 k f fd ps (Sp0 g n fun _ _ => .bad) :=
  ⟨fun vs H Q E h => h.1.trans hn.symm, fun A outer s H args us vs Q E hr he hb hv h => by
    obtain ⟨_, q, st, ds, _, _, p⟩ := h
    exact False.elim p⟩
end VL

/-! VL7: t[::-1] of tuples and lists. -/
namespace HT
open PySem PySem.Spec PyProof.Rows
section
variable {prog : Program} {w : World} {A : Around} {E : Value → Shared → Prop} {s : Shared}
theorem vl_applied_back {sl : Addr} {vl vu vk : Value} {n : Nat} {Q : Int × Int × Nat → Shared → Prop} (hs : s.heap.IsSliceOf sl vl vu vk) (pl : IsPart vl none) (pu : IsPart vu none) (pk : IsPart vk (some (-1)))
    (h : Q ((n : Int) - 1, -1, n) s) : wpAny (model prog w) A (Builtin.Slice.sliceApplied (.ref sl) (pure (n : Int))) Q E s := by
  obtain ⟨os, hos, hcs, hds⟩ := id hs
  unfold Builtin.Slice.sliceApplied Builtin.Slice.sliceFields
  refine wpAny_bind (wpAny_bind (wpAny_field hos hds (x := vl) rfl (wpAny_bind (wpAny_field hos hds (x := vu) rfl (wpAny_bind (wpAny_field hos hds (x := vk) rfl (wpAny_pure ?_)))))))
  refine wpAny_bind (slicePart_ pk ?_)
  show wpAny _ _ (if ((-1 : Int) == 0) = true then _ else _) _ _ s
  rw [if_neg (by decide)]
  refine wpAny_bind (slicePart_ pl (wpAny_bind (slicePart_ pu (wpAny_bind (wpAny_pure ?_)))))
  show wpAny _ _ (match Builtin.Slice.sliceAdjust none none (-1) (n : Int) with | (lo, hi) => pure (lo, (-1 : Int), Builtin.Slice.slicePlaces lo hi (-1))) _ _ s
  have e : Builtin.Slice.sliceAdjust none none (-1) (n : Int) = ((n : Int) - 1, -1) := rfl
  rw [e]
  have e2 : Builtin.Slice.slicePlaces ((n : Int) - 1) (-1) (-1) = n := by
    unfold Builtin.Slice.slicePlaces
    rw [if_neg (by decide)]
    split
    · simp
    · omega
  show wpAny _ _ (pure ((n : Int) - 1, (-1 : Int), Builtin.Slice.slicePlaces ((n : Int) - 1) (-1) (-1))) _ _ s
  rw [e2]
  exact wpAny_pure h
theorem vl_pick_back (xs : Array Value) : ((List.range xs.size).filterMap fun (m : Nat) => xs[(((xs.size : Int) - 1) + (m : Int) * -1).toNat]?).toArray = xs.toList.reverse.toArray := by
  have e : (fun (m : Nat) => xs[(((xs.size : Int) - 1) + (m : Int) * -1).toNat]?) = (fun i => xs[i]?) ∘ fun m => xs.size - 1 - m := by
    funext m
    have : (((xs.size : Int) - 1) + (m : Int) * -1).toNat = xs.size - 1 - m := by omega
    show xs[(((xs.size : Int) - 1) + (m : Int) * -1).toNat]? = xs[xs.size - 1 - m]?
    rw [this]
  rw [e, ← List.filterMap_map, PySem.W.krv_range, List.filterMap_reverse]
  have := PySem.W.krv_all xs
  rw [this]
theorem getItem_tuple_back {t sl : Addr} {items : Array Value} {vl vu vk : Value} {Q : Value → Shared → Prop} (ht : IsTup s.heap t items) (hs : s.heap.IsSliceOf sl vl vu vk) (pl : IsPart vl none) (pu : IsPart vu none) (pk : IsPart vk (some (-1)))
    (h : Q (.ref s.heap.objs.size) { s with heap := s.heap.push { cls := .type "tuple", data := .seq items.toList.reverse.toArray } })
    (hsz : items.size ≤ sizeLine) : wpAny (model prog w) A (getItem (.ref t) (.ref sl)) Q E s := by
  have htake : sizeOk (.seq items.toList.reverse.toArray) := by
    show items.toList.reverse.toArray.size ≤ sizeLine
    rw [List.size_toArray, List.length_reverse, Array.length_toList]
    exact hsz
  obtain ⟨os, hos, hcs, hds⟩ := id hs
  have hTs : s.TypeIs (.ref sl) "slice" := ⟨os, hos, hcs⟩
  unfold getItem
  try with_reducible refine wpAny_holding ?_
  first | refine wpAny_bind (wpAny_pure ?_) | skip
  refine wpAny_bind (wpAny_sequenceKey ht.typeIs (by decide) ?_)
  refine wpAny_bind (wpAny_callSpecial?_slot (name := Str.ofString "__getitem__") ht.typeIs PyProof.Rows.slot_tuple_getitem
    (wpAny_call_entry PyProof.Rows.slot_tuple_getitem ht.typeIs entry_tuple_getitem ?_ (args_tuple_getitem _ _)))
  show wpAny _ _ (Builtin.Tuple.tupleItemsOf (.ref t) >>= _) _ _ s
  refine wpAny_bind (tupleItemsOf_ ht ?_)
  refine wpAny_bind (wpAny_typeOf hTs ?_)
  rw [if_pos (by decide)]
  refine wpAny_bind (vl_applied_back hs pl pu pk ?_)
  have hno : ¬ ((((items.size : Int) - 1) == 0 && (-1 : Int) == 1 && items.size == items.size) = true) := by
    intro q
    rw [Bool.and_eq_true, Bool.and_eq_true] at q
    exact absurd q.1.2 (by decide)
  show wpAny _ _ (if (((items.size : Int) - 1) == 0 && (-1 : Int) == 1 && items.size == items.size) = true then _ else _) _ _ s
  rw [if_neg hno, vl_pick_back]
  first
    | exact wpAny_bind (m := Builtin.Tuple.tupleExact _) (wpAny_newObj_type (wpAny_pure ⟨_, rfl, wpAny_pure h⟩) htake)
    | exact wpAny_bind (m := Builtin.Tuple.tupleExact _) (wpAny_newObj_type (wpAny_bind (wpAny_pure (wpAny_pure ⟨_, rfl, wpAny_pure h⟩))) htake)
    | exact wpAny_bind (wpAny_bind (m := Builtin.Tuple.tupleExact _) (wpAny_newObj_type (wpAny_pure (wpAny_pure ⟨_, rfl, wpAny_pure h⟩)) htake))
    | exact wpAny_bind (wpAny_bind (m := Builtin.Tuple.tupleExact _) (wpAny_newObj_type (wpAny_pure ⟨_, rfl, wpAny_pure h⟩) htake))
end
end HT
namespace L2
open PySem PySem.Spec PyProof.Rows
def tRevA (K : PySem.W.Frag) (te : TE) : TE := fun σ H Q => te σ H fun x H1 => ∃ a xs, x = .ref a ∧ ((SqL K H1 a xs ∧ ∀ p, H1 p = none → Q (.ref p) (upd H1 p (.lst xs.reverse))) ∨ (SqT K H1 a xs ∧ ∀ p, H1 p = none → Q (.ref p) (upd H1 p (.tup xs.reverse))))
theorem pe_revA {X : Cx} {e : Expr} {te : TE} {k : Nat} {p1 p2 p3 pos : Pos} (he : PE X e te) : PE X (.Subscript e (.Slice none none (some (.UnaryOp .USub (.Constant (.int 1) k p1) p2)) p3) pos) (tRevA X.K te) := by
  refine ⟨fun pins s σ H Q I h => ?_⟩
  refine Subscript_ (thn (he.run pins s σ H _ I h) fun v s1 ⟨x, H1, I1, r1, q1⟩ => ?_)
  obtain ⟨a, xs, ex, hx⟩ := q1
  subst ex
  cases r1
  have hst : PO X (some (.UnaryOp .USub (.Constant (.int 1) k p1) p2)) (tPart (tUn (rU fun i => .int (-i)) (tC (.int 1)))) := po_some (pe_un un_neg pe_int)
  refine wpAny_Slice (thn (po_none.run pins s1 σ H1 (fun o H2 => o = none ∧ H2 = H1) I1 ⟨rfl, rfl⟩) fun vl s2 ⟨l, H2, I2, pl, el, e2⟩ => ?_)
  subst el e2
  refine thn (po_none.run pins s2 σ H2 (fun o H3 => o = none ∧ H3 = H2) I2 ⟨rfl, rfl⟩) fun vu s3 ⟨u, H3, I3, pu, eu, e3⟩ => ?_
  subst eu e3
  refine thn (hst.run pins s3 σ H3 (fun o H4 => o = some (-1) ∧ H4 = H3) I3 ⟨1, rfl, -1, rfl, rfl, rfl⟩) fun vs s4 ⟨o, H4, I4, ps, eo, e4⟩ => ?_
  subst eo e4
  have I5 : Inv X pins σ H4 { s4 with heap := s4.heap.push { cls := .type "slice", data := .fields #[vl, vu, vs] } } := I4.kept (t' := s4.toks) fun b ob q => Heap.get?_push_of_some _ q
  rcases hx with ⟨hx, q⟩ | ⟨hx, q⟩
  · obtain ⟨its, r, ht, hz⟩ := I5.list hx
    have hlen := r.length
    show wpAny (model X.prog X.w) X.A (subscriptTail e (.Slice none none (some (.UnaryOp .USub (.Constant (.int 1) k p1) p2)) p3) (.ref a) (.ref s4.heap.objs.size)) (EP X pins σ Q) X.xe { s4 with heap := s4.heap.push { cls := .type "slice", data := .fields #[vl, vu, vs] } }
    refine tail_any (ops := [.ref a, .ref s4.heap.objs.size]) ht.isList.typeIs (PySem.slot_list_getitem.lookup) ?_ (by with_unfolding_all rfl)
    refine wpAny_getItem_list_slice ht.isList (Heap.IsSliceOf.new _ vl vu vs) pl pu ps (by decide) ?_ (by rw [List.size_toArray]; omega)
    rw [PySem.W.krv_pick]
    refine ⟨.ref _, _, I5.laid (t' := s4.toks) (o := .lst xs.reverse) (fun b ob q => Heap.get?_push_of_some _ q) (Nat.le_refl _) ?_, rfl, q _ (I5.hok.fresh (Nat.le_refl _))⟩
    exact ⟨by rw [List.length_reverse]; exact hz, _, 0, r.reverse, Heap.get?_push_size _ rfl⟩
  · obtain ⟨its, r, ht, hz⟩ := I5.tuple hx
    have hlen := r.length
    show wpAny (model X.prog X.w) X.A (subscriptTail e (.Slice none none (some (.UnaryOp .USub (.Constant (.int 1) k p1) p2)) p3) (.ref a) (.ref s4.heap.objs.size)) (EP X pins σ Q) X.xe { s4 with heap := s4.heap.push { cls := .type "slice", data := .fields #[vl, vu, vs] } }
    refine tail_any (ops := [.ref a, .ref s4.heap.objs.size]) ht.typeIs (PyProof.Rows.slot_tuple_getitem.lookup) ?_ (by with_unfolding_all rfl)
    refine HT.getItem_tuple_back ht (Heap.IsSliceOf.new _ vl vu vs) pl pu ps ?_ (by rw [List.size_toArray]; omega)
    refine ⟨.ref _, _, I5.laid (t' := s4.toks) (o := .tup xs.reverse) (fun b ob q => Heap.get?_push_of_some _ q) (Nat.le_refl _) ?_, rfl, q _ (I5.hok.fresh (Nat.le_refl _))⟩
    exact ⟨by rw [List.length_reverse]; exact hz, _, r.reverse, IsTup.new _ _⟩
end L2
namespace VL
open PySem PySem.Spec PyProof.Rows L2 LamX NdefX
variable {B : Tb}
section
variable {X : Cx} {E : XK}
def backD (d : D) (st : Sto) : R D := match d with
  | .tup ds => .ok (.tup ds.reverse) st
  | .ref n => match listAt st n with
    | some ds => newO (.lst ds.reverse) st
    | none => .bad
  | _ => .bad
theorem le_back {e : Expr} {f : EF} {k : Nat} {p1 p2 p3 pos : Pos} (he : PE X e (LE (gOf B X) E f)) : PE X (.Subscript e (.Slice none none (some (.UnaryOp .USub (.Constant (.int 1) k p1) p2)) p3) pos) (LE (gOf B X) E (un1 backD f)) := (pe_revA he).imp fun sg H Q w => by
  obtain ⟨q, env, st, rs, re, p⟩ := w
  refine LE.chain rs re (R.post_bind.mp p) fun d s1 q1 v H1 p e1 rs1 re1 rx => ?_
  cases d with
  | tup ds =>
    obtain ⟨a, xs, rfl, ha, ra⟩ := rx.tup_inv
    refine ⟨a, xs, rfl, .inr ⟨ha, fun t ht => ?_⟩⟩
    obtain ⟨e2, rs2, r2⟩ := tup_new rs1 ht ra.reverse
    exact p _ _ _ (e1.trans e2) rs2 r2
  | ref n =>
    have p : (match listAt s1 n with | some ds => newO (.lst ds.reverse) s1 | none => .bad : R D).post _ _ := p
    split at p
    · rename_i ds e
      obtain ⟨a, xs, qa, ha, ra⟩ := rs1.listAt e
      obtain ⟨a', rfl, qa'⟩ := rx.ref_inv
      rw [qa] at qa'; cases qa'
      refine ⟨a, xs, rfl, .inl ⟨ha, fun t ht => ?_⟩⟩
      obtain ⟨e2, rs2, r2⟩ := lst_new rs1 ht ra.reverse
      exact p _ _ _ (e1.trans e2) rs2 r2
    · exact False.elim p
  | _ => exact False.elim p
end
end VL

/-! VLX: further built-ins, targets. -/
namespace VL
open PySem PySem.Spec PyProof.Rows L2 LamX NdefX
variable {B : Tb}
section
variable {X : Cx} {E : XK}
def int1D : List D → Sto → R D
  | [.int i], st => .ok (.int i) st
  | [.bl b], st => .ok (.int (if b = true then 1 else 0)) st
  | _, _ => .bad
theorem call_int1D : CallR X (.type "int") (LC (gOf B X) E int1D) := call_int1.imp fun vs H Q w => by
  obtain ⟨q, st, ds, rs, rd, p⟩ := w
  unfold int1D at p
  split at p
  · cases rd with
    | cons r t =>
      cases t
      exact .inl ⟨_, by rw [r.int_inv], p q _ H Ext.refl rs (.int _)⟩
  · cases rd with
    | cons r t =>
      cases t
      exact .inr ⟨_, by rw [r.bl_inv], p q _ H Ext.refl rs (.int _)⟩
  · exact False.elim p
/-! ### xs[i] = v -/
def setIx : D → D → D → Sto → R Unit
  | .ref n, .int i, d, st => match st[n]? with
    | some (.lst xs) => (match ixN xs.length i with
      | some j => .ok () (st.set n (.lst (xs.set j d)))
      | none => .bad)
    | _ => .bad
  | _, _, _, _ => .bad
def subG (fo fi : EF) (g : D → D → D → Sto → R Unit) : GF := fun d env st => (fo env st).bind fun o s => (fi env s).bind fun i s2 => (g o i d s2).bind fun _ s3 => .ok env s3
theorem setIx_of {x y v : V} {H : Hp} {Q : Hp → Prop} {g : G} {q : List Addr} {st : Sto} {a b d : D} {K' : Str → Sto → Prop} (rs : RS g q H st) (ra : RD g q H x a) (rb : RD g q H y b) (rd : RD g q H v d) (p : (setIx a b d st).post (fun _ st' => ∀ H', Ext q H q H' → RS g q H' st' → Q H') K') : rSetL x y v H Q := by
  cases a with
  | ref n =>
    cases b with
    | int i =>
      unfold setIx at p
      simp only at p
      split at p
      · rename_i xs hx
        split at p
        · rename_i j hj
          obtain ⟨a', rfl, qa⟩ := ra.ref_inv
          obtain ⟨a, qa', ro⟩ := rs.get hx
          rw [qa] at qa'; cases qa'
          obtain ⟨ys, hy, ry⟩ := ro
          obtain ⟨rs2, e2⟩ := lst_put (ys := ys.set j v) (es := xs.set j d) rs hx qa hy (RDs.set rd j ry)
          exact ⟨a', ys, i, j, rfl, rb.int_inv, hy, by rw [ry.length]; exact hj, p _ e2 rs2⟩
        · exact False.elim p
      · exact False.elim p
    | _ => exact False.elim p
  | _ => cases b <;> exact False.elim p
theorem lg_sub {o i : Expr} {fo fi : EF} {pos : Pos} (ho : PE X o (LE (gOf B X) E fo)) (hi : PE X i (LE (gOf B X) E fi))
    (ha : ∀ v, assign (.Subscript o i pos) X.env v = (do
      let ov ← holding [v] (eval o X.env)
      let iv ← holding [v, ov] (eval i X.env)
      standAt pos
      holding [v, ov, iv] (setItem ov iv v)
      release [v, ov, iv] []) := by intro _; rfl) : PG X (.Subscript o i pos) (LG (gOf B X) E (subG fo fi setIx)) := (pg_sub ho hi set_list ha).imp fun v sg H Q w => by
  obtain ⟨q, d, env, st, rs, re, rd, p⟩ := w
  refine LE.chain rs re (R.post_bind.mp p) fun x s1 q1 vx H1 p e1 rs1 re1 rx => ?_
  refine LE.chain rs1 re1 ((R.post_bind.mp p).imp (fun _ _ h => h) fun _ _ h => h.ext e1) fun y s2 q2 vy H2 p e2 rs2 re2 ry => ?_
  refine setIx_of rs2 (rx.ext e2) ry (rd.ext (e1.trans e2)) (K' := KX (gOf B X) q H E) ((R.post_bind.mp p).imp (fun u s3 p H3 e3 rs3 => ?_) fun _ _ h => h)
  exact p q2 H3 sg ((e1.trans e2).trans e3) rs3 (re2.ext e3)
/-- a target that takes a list apart -/
def unlG (n : Nat) (f : List D → EnvD → Sto → R EnvD) : GF := fun d env st => match d with
  | .ref k => (match listAt st k with
    | some ds => if ds.length = n then f ds env st else .bad
    | none => .bad)
  | _ => .bad
theorem lg_unl {es : List Expr} {k : Nat} {f : List D → EnvD → Sto → R EnvD} {n : Nat} {pos : Pos} (hc : X.calm = true) (h : PGs X es (LGs (gOf B X) E f))
    (hn : (assignEach es X.env).length = n := by rfl) (hst : (assignEach es X.env).findIdx? (·.1) = none := by rfl) : PG X (.Tuple es k pos) (LG (gOf B X) E (unlG n f)) := (pg_unl hc h hn hst).imp fun v sg H Q w => by
  obtain ⟨q, d, env, st, rs, re, rd, p⟩ := w
  cases d with
  | ref m =>
    obtain ⟨a, rfl, qa⟩ := rd.ref_inv
    unfold unlG at p
    simp only at p
    split at p
    · rename_i ds hd
      obtain ⟨a', xs, qa', hs, rx⟩ := rs.listAt hd
      rw [qa] at qa'; cases qa'
      split at p
      · rename_i hl
        exact ⟨a, xs, rfl, hs, by rw [rx.length]; exact hl, q, ds, env, st, rs, re, rx, p⟩
      · exact False.elim p
    · exact False.elim p
  | _ => exact False.elim p
/-! ### a list times an int -/
def repD : D → D → Sto → R D
  | .ref n, .int k, st => match st[n]? with
    | some (.lst xs) => if -(2 ^ 63) ≤ k ∧ k < 2 ^ 63 ∧ xs.length * k.toNat ≤ sizeLine then newO (.lst (List.replicate k.toNat xs).flatten) st else .bad
    | _ => .bad
  | _, _, _ => .bad
theorem RDs.rep {g : G} {q : List Addr} {H : Hp} {vs : List V} {ds : List D} (r : RDs g q H vs ds) : ∀ k : Nat, RDs g q H (List.replicate k vs).flatten (List.replicate k ds).flatten
  | 0 => .nil
  | k + 1 => by
    rw [List.replicate_succ, List.replicate_succ, List.flatten_cons, List.flatten_cons]
    exact r.append (RDs.rep r k)
theorem op_repD : OpR X (binaryOp .Mult) (LR (gOf B X) E repD) := op_rep.imp fun x y H Q w => by
  obtain ⟨q, st, a, b, rs, ra, rb, p⟩ := w
  unfold repD at p
  split at p
  · split at p
    · rename_i xs hx
      split at p
      · rename_i hk
        obtain ⟨l, rfl, qa⟩ := ra.ref_inv
        obtain ⟨l', ys, qa', hl, ry⟩ := rs.lstAt hx
        rw [qa] at qa'; cases qa'
        refine ⟨l, _, ys, rfl, rb.int_inv, hl, hk.1, hk.2.1, by rw [ry.length]; exact hk.2.2, fun u hu => ?_⟩
        obtain ⟨e2, rs2, r2⟩ := lst_new rs hu (ry.rep _)
        exact p _ _ _ e2 rs2 r2
      · exact False.elim p
    · exact False.elim p
  · exact False.elim p
/-! ### max of three -/
def max3D : List D → Sto → R D
  | [.int i, .int j, .int k], st => .ok (.int (if (if i < j then j else i) < k then k else if i < j then j else i)) st
  | _, _ => .bad
theorem call_max3D (hc : X.calm = true) : CallR X (.builtin "max") (LC (gOf B X) E max3D) := (call_max3Nu hc).imp fun vs H Q w => by
  obtain ⟨q, st, ds, rs, rd, p⟩ := w
  unfold max3D at p
  split at p
  · rename_i i j k
    obtain ⟨v, u, t, rfl, r, r', r''⟩ := rd.three_inv
    have e1 := r.int_inv
    have e2 := r'.int_inv
    have e3 := r''.int_inv
    subst e1 e2 e3
    refine ⟨_, _, _, .int (if (if i < j then j else i) < k then k else if i < j then j else i), rfl, ?_, p q _ H Ext.refl rs (.int _)⟩
    unfold nuMax3 nuMax2 nuLt nuCB
    by_cases h : i < j
    · by_cases h2 : j < k <;> simp [h, h2]
    · by_cases h2 : i < k <;> simp [h, h2]
  · exact False.elim p
/-! ### zip of three lists -/
def Itz3 (K : PySem.W.Frag) (a b c : Addr) : It :=
  ⟨fun i H => ∃ (xs ys zs : List V) (x y z : V), SqL K H a xs ∧ SqL K H b ys ∧ SqL K H c zs ∧ xs[i]? = some x ∧ ys[i]? = some y ∧ zs[i]? = some z,
    fun i H v H' => ∃ T x y z, v = .ref T ∧ H T = none ∧ H' = upd H T (.tup [x, y, z]) ∧ (∀ xs, SqL K H a xs → xs[i]? = some x) ∧ (∀ ys, SqL K H b ys → ys[i]? = some y) ∧ ∀ zs, SqL K H c zs → zs[i]? = some z,
    fun i H => ∃ xs ys zs : List V, SqL K H a xs ∧ SqL K H b ys ∧ SqL K H c zs ∧ (xs.length ≤ i ∨ ys.length ≤ i ∨ zs.length ≤ i)⟩
/-- a list's iterator that may stand behind its end -/
theorem draws_listX {prog : Program} {w : World} {A : Around} (hh : A.handled = none) (it l : Addr) (hne : l ≠ it) (items : Array Value) (n : Nat) (hn : items.size ≤ n) :
    Draws prog w A it [it, l] n (fun i v => items[i]? = some v) (fun i h => h.IsListIter it l i ∧ h.IsList l items ∧ (n = items.size ∨ n ≤ i)) where
  live := fun _ _ st => let ⟨o, ho, _⟩ := st.1; ⟨o, ho⟩
  frame := fun _ _ _ st hk => ⟨st.1.at fun o e => hk it (by simp) o e, st.2.1.at fun o e => hk l (by simp) o e, st.2.2⟩
  item := fun i s Q E hi st hQ => by
    have hs : i < items.size := by
      rcases st.2.2 with e | e
      · omega
      · omega
    refine wpAny_nextOf_list_item st.1 st.2.1 (x := items[i]) (by simp [hs]) fun h' hit' hs' => ?_
    refine hQ _ h' s.toks (by simp [hs]) ⟨hit', st.2.1.extBut hs'.extBut hne, ?_⟩ hs'
    rcases st.2.2 with e | e
    · exact .inl e
    · exact .inr (by omega)
  done := fun s Q E st hE => wpAny_nextOf_list_end hh st.1 st.2.1 (by simp; omega) hE
theorem turn_zip3 {P : Program} {w : World} {K : PySem.W.Frag} {elts : List Expr} {kk : Nat} {tpos : Pos} {a b c N : Addr} (la : a < N) (lb : b < N) (lc : c < N) :
    Turn P w K (.Tuple elts kk tpos) (Itz3 K a b c) [N + 5, N + 3, N + 4, N, N + 1, N + 2] (N + 5) (fun i h => IsZip h (N + 5) (N + 3) (N + 4) .none ∧ IsTupOf3 h (N + 3) (.ref N) (.ref (N + 1)) (.ref (N + 2)) ∧ (∃ x y z, IsTupOf3 h (N + 4) x y z) ∧ h.IsListIter N a i ∧ h.IsListIter (N + 1) b i ∧ h.IsListIter (N + 2) c i) where
  mem := by simp
  obj := fun i h st d hd => by
    obtain ⟨hz, hTI, ⟨x, y, z, hTO⟩, ⟨o1, e1, _, d1⟩, ⟨o2, e2, _, d2⟩, ⟨o3, e3, _, d3⟩⟩ := st
    have e' : d = N + 5 ∨ d = N + 3 ∨ d = N + 4 ∨ d = N ∨ d = N + 1 ∨ d = N + 2 := by simpa using hd
    rcases e' with q | q | q | q | q | q
    · rw [q]; exact ⟨_, hz, fun v q => nomatch q⟩
    · rw [q]; exact ⟨_, hTI, fun v q => nomatch q⟩
    · rw [q]; exact ⟨_, hTO, fun v q => nomatch q⟩
    · rw [q]; exact ⟨o1, e1, fun v q => by rw [d1] at q; cases q⟩
    · rw [q]; exact ⟨o2, e2, fun v q => by rw [d2] at q; cases q⟩
    · rw [q]; exact ⟨o3, e3, fun v q => by rw [d3] at q; cases q⟩
  keep := fun i h h' st k => by
    obtain ⟨hz, hTI, ⟨x, y, z, hTO⟩, h1, h2, h3⟩ := st
    exact ⟨k (N + 5) (by simp) _ hz, k (N + 3) (by simp) _ hTI, ⟨x, y, z, k (N + 4) (by simp) _ hTO⟩, h1.at fun o q => k N (by simp) o q, h2.at fun o q => k (N + 1) (by simp) o q, h3.at fun o q => k (N + 2) (by simp) o q⟩
  item := by
    intro X hP hw hK hc i pins s σ H E I hf st hg
    subst hP hw hK
    obtain ⟨hz, hTI, ⟨x0, y0, z0, hTO⟩, h1, h2, h3⟩ := st
    obtain ⟨xs, ys, zs, x, y, z, hqx, hqy, hqz, hx, hy, hzz⟩ := hg
    obtain ⟨its, rv, p, _⟩ := I.list hqx
    obtain ⟨its2, rv2, p2, _⟩ := I.list hqy
    obtain ⟨its3, rv3, p3, _⟩ := I.list hqz
    obtain ⟨u, hu, ru⟩ := rv.get hx
    obtain ⟨u2, hu2, ru2⟩ := rv2.get hy
    obtain ⟨u3, hu3, ru3⟩ := rv3.get hzz
    have hh : X.A.in1.handled = none := I.ok.hd hc
    have S := zip_sep3 (N := N) (fp1 := [a]) (fp2 := [b]) (fp3 := [c]) (fun x hx => by rw [List.mem_singleton.mp hx]; exact la) (fun x hx => by rw [List.mem_singleton.mp hx]; exact lb) (fun x hx => by rw [List.mem_singleton.mp hx]; exact lc)
    have D1 := Draws.list (prog := X.prog) (w := X.w) hh N a (Nat.ne_of_lt la) its.toArray
    have D2 := Draws.list (prog := X.prog) (w := X.w) hh (N + 1) b (show b ≠ N + 1 from Nat.ne_of_lt (Nat.lt_succ_of_lt lb)) its2.toArray
    have D3 := Draws.list (prog := X.prog) (w := X.w) hh (N + 2) c (show c ≠ N + 2 from Nat.ne_of_lt (Nat.lt_succ_of_lt (Nat.lt_succ_of_lt lc))) its3.toArray
    have g1 := (List.getElem?_eq_some_iff.mp hu).1
    have g2 := (List.getElem?_eq_some_iff.mp hu2).1
    have g3 := (List.getElem?_eq_some_iff.mp hu3).1
    have hzl : N + 5 < s.heap.objs.size := Heap.lt_size hz
    refine wpAny_pyNext_zipD3_item S D1 D2 D3 hz hTI hTO ⟨h1, p.isList⟩ ⟨h2, p2.isList⟩ ⟨h3, p3.isList⟩ (by simpa using g1) (by simpa using g2) (by simpa using g3) fun v1 v2 v3 h' tk y1 y2 y3 b1 b2 d1 d2 d3 hT hsz hk => ?_
    obtain rfl : v1 = u := by
      have : its[i]? = some v1 := by simpa using y1
      rw [hu] at this; cases this; rfl
    obtain rfl : v2 = u2 := by
      have : its2[i]? = some v2 := by simpa using y2
      rw [hu2] at this; cases this; rfl
    obtain rfl : v3 = u3 := by
      have : its3[i]? = some v3 := by simpa using y3
      rw [hu3] at this; cases this; rfl
    refine ⟨_, rfl, wpAny_letOwnedTupleGo_zip (s := { s with heap := h', toks := tk }) b1 fun h'' z'' sb => ?_⟩
    have hT2 : h''.get? s.heap.objs.size = some { cls := .type "tuple", data := .seq #[v1, v2, v3] } := (sb.2 _ (Nat.ne_of_gt hzl)).trans hT
    have new : ObjOk X.prog X.w (upd H s.heap.objs.size (.tup [x, y, z])) h'' s.heap.objs.size (.tup [x, y, z]) :=
      ⟨by show 3 ≤ sizeLine; decide, [v1, v2, v3], .cons ru (.cons ru2 (.cons ru3 .nil)), ⟨_, hT2, rfl, _, rfl⟩⟩
    have I1 : Inv X pins σ (upd H s.heap.objs.size (.tup [x, y, z])) { s with heap := h'', toks := tk } :=
      I.turnedNew (t' := tk) (ch := [N + 5, N + 3, N + 4, N, N + 1, N + 2]) (fun c o hb q => (sb.2 c (fun q' => hb (by simp [q']))).trans (hk c o (fun q' => hb (by simp [q'])) (fun q' => hb (by simp [q'])) (fun q' => hb (by simp [q'])) (fun q' => hb (by simp [q'])) (fun q' => hb (by simp [q'])) q)) hf (Nat.le_refl _) new
    have ne : ∀ {j k : Nat}, j ≠ k → (N + j : Nat) ≠ N + k := fun h e => h (Nat.add_left_cancel e)
    refine ⟨.ref s.heap.objs.size, _, I1, rfl, ⟨_, x, y, z, rfl, I.hok.fresh (Nat.le_refl _), rfl, fun l hl => by rw [I.list_inj hl hqx]; exact hx, fun l hl => by rw [I.list_inj hl hqy]; exact hy, fun l hl => by rw [I.list_inj hl hqz]; exact hzz⟩, ⟨z'', ?_, ⟨v1, v2, v3, ?_⟩, ?_, ?_, ?_⟩, fun c hcm => ?_⟩
    · exact (sb.2 _ S.TIz).trans (hk _ _ S.TIz S.TITO S.TIi1 S.TIi2 S.TIi3 hTI)
    · exact (sb.2 _ S.TOz).trans b2
    · exact d1.1.at fun o q => (sb.2 _ (Ne.symm S.zi1)).trans q
    · exact d2.1.at fun o q => (sb.2 _ (Ne.symm S.zi2)).trans q
    · exact d3.1.at fun o q => (sb.2 _ (Ne.symm S.zi3)).trans q
    · have hlt : c < s.heap.objs.size := by
        have e' : c = N + 5 ∨ c = N + 3 ∨ c = N + 4 ∨ c = N ∨ c = N + 1 ∨ c = N + 2 := by simpa using hcm
        rcases e' with q | q | q | q | q | q
        · rw [q]; exact hzl
        · rw [q]; exact Heap.lt_size hTI
        · rw [q]; exact Heap.lt_size hTO
        · rw [q]; obtain ⟨_, e1, _⟩ := h1; exact Heap.lt_size e1
        · rw [q]; obtain ⟨_, e2, _⟩ := h2; exact Heap.lt_size e2
        · rw [q]; obtain ⟨_, e3, _⟩ := h3; exact Heap.lt_size e3
      rw [upd_ne (Nat.ne_of_lt hlt)]
      exact (hf c hcm).1
  done := by
    intro X hP hw hK hc i pins s σ H E I hf st hg
    subst hP hw hK
    obtain ⟨hz, hTI, ⟨x0, y0, z0, hTO⟩, h1, h2, h3⟩ := st
    obtain ⟨xs, ys, zs, hqx, hqy, hqz, hend⟩ := hg
    obtain ⟨its, rv, p, _⟩ := I.list hqx
    obtain ⟨its2, rv2, p2, _⟩ := I.list hqy
    obtain ⟨its3, rv3, p3, _⟩ := I.list hqz
    have l1 := rv.length
    have l2 := rv2.length
    have l3 := rv3.length
    have hh : X.A.in1.handled = none := I.ok.hd hc
    have S := zip_sep3 (N := N) (fp1 := [a]) (fp2 := [b]) (fp3 := [c]) (fun x hx => by rw [List.mem_singleton.mp hx]; exact la) (fun x hx => by rw [List.mem_singleton.mp hx]; exact lb) (fun x hx => by rw [List.mem_singleton.mp hx]; exact lc)
    have D1 := draws_listX (prog := X.prog) (w := X.w) hh N a (Nat.ne_of_lt la) its.toArray (max i its.length) (by simp; omega)
    have D2 := draws_listX (prog := X.prog) (w := X.w) hh (N + 1) b (show b ≠ N + 1 from Nat.ne_of_lt (Nat.lt_succ_of_lt lb)) its2.toArray (max i its2.length) (by simp; omega)
    have D3 := draws_listX (prog := X.prog) (w := X.w) hh (N + 2) c (show c ≠ N + 2 from Nat.ne_of_lt (Nat.lt_succ_of_lt (Nat.lt_succ_of_lt lc))) its3.toArray (max i its3.length) (by simp; omega)
    exact wpAny_pyNext_zipD3_end S D1 D2 D3 hz hTI hTO ⟨h1, p.isList, by simp; omega⟩ ⟨h2, p2.isList, by simp; omega⟩ ⟨h3, p3.isList, by simp; omega⟩ (by omega) (by omega) (by omega) (by omega) fun h' tk hk => ⟨rfl, I.turnedL (t' := tk) (ch := [N + 5, N + 3, N + 4, N, N + 1, N + 2]) (fun c o hb q =>
      hk c o (fun q' => hb (by simp [q'])) (fun q' => hb (by simp [q'])) (fun q' => hb (by simp [q'])) (fun q' => hb (by simp [q'])) (fun q' => hb (by simp [q'])) q) hf⟩
  self := fun A i s Q E st h => wpAny_pyIter_zip st.1 h
def iZip3 (K : PySem.W.Frag) (ta : TA) : TI := fun σ H R => ta σ H fun vs H1 => ∃ a b c xs ys zs, vs = [.ref a, .ref b, .ref c] ∧ SqL K H1 a xs ∧ SqL K H1 b ys ∧ SqL K H1 c zs ∧ R (Itz3 K a b c) H1
theorem pi_zip3 {X : Cx} {e e2 e3 : Expr} {ta : TA} {p pos tpos : Pos} {elts : List Expr} {kk : Nat} (hg : Gl X "zip") (hm : X.mg "zip" = none) (ha : PA X [e, e2, e3] ta)
    (hs : starEach [e, e2, e3] X.env = (false, eval e X.env) :: starEach [e2, e3] X.env := by rfl) (hpl : (backTo pos (starEach [e2, e3] X.env)).any (·.1) = false := by rfl) :
    PI X (.Tuple elts kk tpos) (.Call (.Name "zip" p) [e, e2, e3] [] pos) (iZip3 X.K ta) := by
  refine ⟨fun pins s σ H R I h => ?_⟩
  refine Call_ (ld_blt I hg hm PyProof.Rows.boot_zip (PyProof.Rows.callWith_type1 (thn (ha.run pos pins s σ H _ I h) fun us s1 ⟨vs, H1, I1, r1, q1⟩ => ?_) hs hpl))
  obtain ⟨a, b, c, xs, ys, zs, ex, hqx, hqy, hqz, q⟩ := q1
  subst ex
  cases r1 with
  | cons r rr =>
    cases rr with
    | cons r' rr =>
      cases rr with
      | cons r'' rr =>
        cases rr
        cases r
        cases r'
        cases r''
        obtain ⟨its, rv, p1, _⟩ := I1.list hqx
        obtain ⟨its2, rv2, p2, _⟩ := I1.list hqy
        obtain ⟨its3, rv3, p3, _⟩ := I1.list hqz
        refine zip_begins3 (begins_list a its.toArray) (begins_list b its2.toArray) (begins_list c its3.toArray) p1.isList p2.isList p3.isList fun h' hz hTI hTO h1 h2 h3 hsz hk => wpAny_pyIter_zip hz ?_
        have I2 : Inv X pins σ H1 { s1 with heap := h' } := I1.kept (t' := s1.toks) hk
        refine ⟨s1.heap.objs.size + 5, [s1.heap.objs.size + 5, s1.heap.objs.size + 3, s1.heap.objs.size + 4, s1.heap.objs.size, s1.heap.objs.size + 1, s1.heap.objs.size + 2], _, _, H1, rfl, I2, turn_zip3 p1.lt p2.lt p3.lt, ⟨hz, hTI, ⟨_, _, _, hTO⟩, ⟨_, h1, rfl, rfl⟩, ⟨_, h2, rfl, rfl⟩, ⟨_, h3, rfl, rfl⟩⟩, fun d hcm => ?_, q⟩
        have e' : d = s1.heap.objs.size + 5 ∨ d = s1.heap.objs.size + 3 ∨ d = s1.heap.objs.size + 4 ∨ d = s1.heap.objs.size ∨ d = s1.heap.objs.size + 1 ∨ d = s1.heap.objs.size + 2 := by simpa using hcm
        have hle : s1.heap.objs.size ≤ d := by
          rcases e' with z | z | z | z | z | z
          · rw [z]; exact Nat.le_add_right _ _
          · rw [z]; exact Nat.le_add_right _ _
          · rw [z]; exact Nat.le_add_right _ _
          · rw [z]; exact Nat.le_refl _
          · rw [z]; exact Nat.le_add_right _ _
          · rw [z]; exact Nat.le_add_right _ _
        exact I1.fpOk hle (I1.hok.fresh hle)
/-- three of three walked together -/
def threes : List D → List D → List D → List D
  | x :: xs, y :: ys, z :: zs => .tup [x, y, z] :: threes xs ys zs
  | _, _, _ => []
theorem threes_len : ∀ {xs ys zs : List D}, (threes xs ys zs).length = min (min xs.length ys.length) zs.length
  | [], _, _ => by simp [threes]
  | _ :: _, [], _ => by simp [threes]
  | _ :: _, _ :: _, [] => by simp [threes]
  | x :: xs, y :: ys, z :: zs => by
    simp only [threes, List.length_cons]
    rw [threes_len]
    omega
theorem threes_get : ∀ {xs ys zs : List D} {i : Nat} {d : D}, (threes xs ys zs)[i]? = some d → ∃ x y z, xs[i]? = some x ∧ ys[i]? = some y ∧ zs[i]? = some z ∧ d = .tup [x, y, z]
  | [], _, _, i, d, h => by simp [threes] at h
  | _ :: _, [], _, i, d, h => by simp [threes] at h
  | _ :: _, _ :: _, [], i, d, h => by simp [threes] at h
  | x :: xs, y :: ys, z :: zs, 0, d, h => by
    simp [threes] at h
    exact ⟨x, y, z, rfl, rfl, rfl, h.symm⟩
  | x :: xs, y :: ys, z :: zs, i + 1, d, h => by
    simp only [threes, List.getElem?_cons_succ] at h
    obtain ⟨a, b, c, h1, h2, h3, h4⟩ := threes_get h
    exact ⟨a, b, c, by simpa using h1, by simpa using h2, by simpa using h3, h4⟩
theorem walks_z3 {g : G} {q : List Addr} {H : Hp} {m n o : Nat} {a b c : Addr} {ds es fs : List D} {ck : Chk} (qa : q[m]? = some a) (qb : q[n]? = some b) (qc : q[o]? = some c) (hc : ∀ st', ChkOk ck st' → listAt st' m = some ds ∧ listAt st' n = some es ∧ listAt st' o = some fs) : Walks g (Itz3 g.K a b c) q H (threes ds es fs, ck) := by
  intro i q' H' st' e rs ok
  obtain ⟨ha, hb, hd⟩ := hc st' ok
  obtain ⟨a', xs, qa', ha', r⟩ := rs.listAt ha
  obtain ⟨b', ys, qb', hb', r'⟩ := rs.listAt hb
  obtain ⟨c', zs, qc', hc', r''⟩ := rs.listAt hd
  rw [e.at qa] at qa'; cases qa'
  rw [e.at qb] at qb'; cases qb'
  rw [e.at qc] at qc'; cases qc'
  refine ⟨fun hi => ⟨xs, ys, zs, ha', hb', hc', ?_⟩, fun d hd => ?_⟩
  · have hi : (threes ds es fs).length ≤ i := hi
    rw [threes_len] at hi
    rw [r.length, r'.length, r''.length]
    omega
  · obtain ⟨x, y, z, h1, h2, h3, rfl⟩ := threes_get hd
    obtain ⟨u, hu, ru⟩ := r.get h1
    obtain ⟨v, hv, rv⟩ := r'.get h2
    obtain ⟨w, hw, rw'⟩ := r''.get h3
    refine ⟨⟨xs, ys, zs, u, v, w, ha', hb', hc', hu, hv, hw⟩, fun p H2 ⟨T, x1, y1, z1, hz, nT, h3, h4, h5, h6⟩ => ?_⟩
    subst hz h3
    have e1 := h4 xs ha'
    rw [hu] at e1; cases e1
    have e2 := h5 ys hb'
    rw [hv] at e2; cases e2
    have e3 := h6 zs hc'
    rw [hw] at e3; cases e3
    exact tup_new rs nT (.cons ru (.cons rv (.cons rw' .nil)))
def zip3D : List D → Sto → R (List D × Chk)
  | [.ref m, .ref n, .ref o], st => match listAt st m, listAt st n, listAt st o with
    | some ds, some es, some fs => .ok (threes ds es fs, chkAt st m ++ (chkAt st n ++ chkAt st o)) st
    | _, _, _ => .bad
  | _, _ => .bad
theorem li_zip3 {tg e : Expr} {fa : AF} (h : PI X tg e (iZip3 X.K (LA (gOf B X) E fa))) : PI X tg e (LI (gOf B X) E (itA zip3D fa)) :=
  h.imp fun sg H RR w => itA_le w fun q st ds vs H rs rd p => by
    unfold zip3D at p
    split at p
    · split at p
      · rename_i ds es fs e1 e2 e3
        obtain ⟨v, u, t, rfl, r, r', r''⟩ := rd.three_inv
        obtain ⟨a, xs, qa, ha, _⟩ := rs.listAt e1
        obtain ⟨b, ys, qb, hb, _⟩ := rs.listAt e2
        obtain ⟨c, zs, qc, hc, _⟩ := rs.listAt e3
        obtain ⟨a', rfl, qa'⟩ := r.ref_inv
        obtain ⟨b', rfl, qb'⟩ := r'.ref_inv
        obtain ⟨c', rfl, qc'⟩ := r''.ref_inv
        rw [qa] at qa'; cases qa'
        rw [qb] at qb'; cases qb'
        rw [qc] at qc'; cases qc'
        exact ⟨a, b, c, xs, ys, zs, rfl, ha, hb, hc, p q H _ Ext.refl rs (walks_z3 qa qb qc fun st' ok => ⟨chkAt_list e1 fun z hz => ok z (List.mem_append_left _ hz), chkAt_list e2 fun z hz => ok z (List.mem_append_right _ (List.mem_append_left _ hz)), chkAt_list e3 fun z hz => ok z (List.mem_append_right _ (List.mem_append_right _ hz))⟩)⟩
      · exact False.elim p
    · exact False.elim p
/-- what the proof never comes to -/
def badF : EF := fun _ _ => .bad
def badS : SF := fun _ _ => .bad
theorem le_bad {e : Expr} {E : XK} : PE X e (LE (gOf B X) E badF) := ⟨fun pins s σ H Q I w => by
  obtain ⟨q, env, st, rs, re, pp⟩ := w
  exact False.elim pp⟩
theorem ls_bad {s : Stmt} {E : XK} : PS X s (LS (gOf B X) E badS) := ⟨fun pins s σ H Q I w => by
  obtain ⟨q, env, st, rs, re, pp⟩ := w
  exact False.elim pp⟩
end
end VL

/-! VLY: names of the module, dicts by texts and intsO, text operations, sum, extend. -/
namespace VL
open PySem PySem.Spec PyProof.Rows L2 LamX NdefX
variable {B : Tb}
section
variable {X : Cx} {E : XK}
/-! ### a constant of the module -/
theorem le_gc {x : Str} {pos : Pos} {v : V} {d : D} (hg : Gl X x) (h : ∃ u, X.mg x = some u ∧ RelV v u) (r : ∀ q H, RD (gOf B X) q H v d) (hd : (x == ("__debug__" : Str)) = false := by decide) : PE X (.Name x pos) (LE (gOf B X) E (cF d)) := by
  obtain ⟨u, hm, ru⟩ := h
  exact le_c (pe_glob hg hm ru hd) r
/-! ### a truth is a truth -/
def isB (neg : Bool) : D → D → Sto → R D
  | .bl a, .bl b, st => .ok (.bl (if neg then !decide (a = b) else decide (a = b))) st
  | _, _, _ => .bad
theorem op_isBD : OpR X (compareOp .Is) (LR (gOf B X) E (isB false)) := op_is_bl.imp fun x y H Q w => by
  obtain ⟨q, st, a, b, rs, ra, rb, p⟩ := w
  unfold isB at p
  split at p
  · exact ⟨_, _, ra.bl_inv, rb.bl_inv, p q _ H Ext.refl rs (.bl _)⟩
  · exact False.elim p
theorem op_isnotBD : OpR X (compareOp .IsNot) (LR (gOf B X) E (isB true)) := op_isnot_bl.imp fun x y H Q w => by
  obtain ⟨q, st, a, b, rs, ra, rb, p⟩ := w
  unfold isB at p
  split at p
  · exact ⟨_, _, ra.bl_inv, rb.bl_inv, p q _ H Ext.refl rs (.bl _)⟩
  · exact False.elim p
/-! ### a sign in a text -/
def sgn : Str → Option Nat := fun x => match x.cps.toList with
  | [c] => some c
  | _ => none
def inTx (neg : Bool) : D → D → Sto → R D
  | .str x, .str z, st => match sgn x with
    | some c => .ok (.bl (if neg then !decide (c ∈ z.cps.toList) else decide (c ∈ z.cps.toList))) st
    | none => .bad
  | _, _, _ => .bad
theorem sgn_eq {x : Str} {c : Nat} (h : sgn x = some c) : x = ⟨#[c]⟩ := by
  unfold sgn at h
  split at h
  · rename_i d e
    cases h
    cases x with
    | mk a => cases a with | mk l => cases e; rfl
  · cases h
theorem op_inTxD : OpR X (compareOp .In) (LR (gOf B X) E (inTx false)) := op_in_sign.imp fun x y H Q w => by
  obtain ⟨q, st, a, b, rs, ra, rb, p⟩ := w
  unfold inTx at p
  split at p
  · split at p
    · rename_i h
      exact ⟨_, _, by rw [ra.str_inv, sgn_eq h], rb.str_inv, p q _ H Ext.refl rs (.bl _)⟩
    · exact False.elim p
  · exact False.elim p
/-! ### extend -/
def extD : D → List D → Sto → R D
  | .ref n, [.ref m], st => match st[n]?, st[m]? with
    | some (.lst xs), some (.lst ys) => if xs.length + ys.length ≤ sizeLine then .ok .non (st.set n (.lst (xs ++ ys))) else .bad
    | _, _ => .bad
  | _, _, _ => .bad
theorem mt_extD : MtR X "list.extend" (LM (gOf B X) E extD) := MtR.imp mt_extend fun x vs H Q w => by
  obtain ⟨q, st, d, ds, rs, rx, rd, p⟩ := w
  unfold extD at p
  split at p
  · split at p
    · rename_i xs ys h1 h2
      split at p
      · rename_i hz
        obtain ⟨a, rfl, qa⟩ := rx.ref_inv
        obtain ⟨v, rfl, rv⟩ := rd.one_inv
        obtain ⟨b, rfl, qb⟩ := rv.ref_inv
        obtain ⟨a', us, qa', ha, ru⟩ := rs.lstAt h1
        rw [qa] at qa'; cases qa'
        obtain ⟨b', ws, qb', hb, rw'⟩ := rs.lstAt h2
        rw [qb] at qb'; cases qb'
        obtain ⟨rs2, e2⟩ := lst_put rs h1 qa ha (ru.append rw')
        exact ⟨a, b, us, ws, rfl, rfl, ha, hb, by rw [ru.length, rw'.length]; exact hz, p q _ _ e2 rs2 .non⟩
      · exact False.elim p
    · exact False.elim p
  · exact False.elim p
/-! ### sum of intsO -/
def intsO : List D → Option (List Int)
  | [] => some []
  | .int i :: r => (intsO r).map fun is => i :: is
  | _ => none
theorem ints_map : ∀ ns : List Int, intsO (ns.map D.int) = some ns
  | [] => rfl
  | n :: ns => by rw [List.map_cons, intsO, ints_map ns]; rfl
theorem RDs.ints_ {g : G} {q : List Addr} {H : Hp} : ∀ {vs : List V} {ds : List D} {is : List Int}, RDs g q H vs ds → intsO ds = some is → vs = is.map V.int
  | _, _, _, .nil, h => by cases h; rfl
  | v :: vs, d :: ds, is, .cons r t, h => by
    cases d with
    | int i =>
      obtain ⟨js, h1, rfl⟩ := Option.map_eq_some_iff.mp (show (intsO ds).map (fun is => i :: is) = some is from h)
      rw [r.int_inv, RDs.ints_ t h1]
      rfl
    | _ => cases h
def sumD : List D → Sto → R D
  | [.ref n], st => match (listAt st n).bind intsO with
    | some is => .ok (.int is.sum) st
    | none => .bad
  | _, _ => .bad
theorem call_sumD (hc : X.calm = true) : CallR X (.builtin "sum") (LC (gOf B X) E sumD) := (cr_sum hc).imp fun vs H Q w => by
  obtain ⟨q, st, ds, rs, rd, p⟩ := w
  unfold sumD at p
  split at p
  · split at p
    · rename_i is h
      obtain ⟨xs, h1, h2⟩ := Option.bind_eq_some_iff.mp h
      obtain ⟨v, rfl, r⟩ := rd.one_inv
      obtain ⟨a, rfl, qa⟩ := r.ref_inv
      obtain ⟨b, us, qb, hs, ru⟩ := rs.listAt h1
      rw [qa] at qb; cases qb
      refine ⟨a, is, rfl, ?_, p q _ H Ext.refl rs (.int _)⟩
      rw [← ru.ints_ h2]; exact hs
    · exact False.elim p
  · exact False.elim p
/-! ### texts joined; a text times an int -/
def strsO : List D → Option (List Str)
  | [] => some []
  | .str i :: r => (strsO r).map fun is => i :: is
  | _ => none
theorem strs_map : ∀ ns : List Str, strsO (ns.map D.str) = some ns
  | [] => rfl
  | n :: ns => by rw [List.map_cons, strsO, strs_map ns]; rfl
theorem RDs.strs_ {g : G} {q : List Addr} {H : Hp} : ∀ {vs : List V} {ds : List D} {is : List Str}, RDs g q H vs ds → strsO ds = some is → vs = is.map V.str
  | _, _, _, .nil, h => by cases h; rfl
  | v :: vs, d :: ds, is, .cons r t, h => by
    cases d with
    | str i =>
      obtain ⟨js, h1, rfl⟩ := Option.map_eq_some_iff.mp (show (strsO ds).map (fun is => i :: is) = some is from h)
      rw [r.str_inv, RDs.strs_ t h1]
      rfl
    | _ => cases h
def joinD : D → List D → Sto → R D
  | .str a, [.ref n], st => match (listAt st n).bind strsO with
    | some ys => if (ys.map (·.length)).sum + ys.length * a.length ≤ 16777216 then .ok (.str (Txt.join a ys)) st else .bad
    | none => .bad
  | _, _, _ => .bad
theorem mt_joinD : MtR X "str.join" (LM (gOf B X) E joinD) := MtR.imp mt_join fun x vs H Q w => by
  obtain ⟨q, st, d, ds, rs, rx, rd, p⟩ := w
  unfold joinD at p
  split at p
  · split at p
    · rename_i ys h
      split at p
      · rename_i hz
        obtain ⟨xs, h1, h2⟩ := Option.bind_eq_some_iff.mp h
        obtain ⟨v, rfl, r⟩ := rd.one_inv
        obtain ⟨b, rfl, qb⟩ := r.ref_inv
        obtain ⟨b', us, qb', hs, ru⟩ := rs.listAt h1
        rw [qb] at qb'; cases qb'
        refine ⟨_, b, ys, rx.str_inv, rfl, .inl ?_, hz, p q _ H Ext.refl rs (.str _)⟩
        rw [← ru.strs_ h2]; exact hs
      · exact False.elim p
    · exact False.elim p
  · exact False.elim p
theorem fold_size (a : Array Nat) : ∀ (n : Nat) (acc : Array Nat), ((List.replicate n a).foldl (· ++ ·) acc).size = acc.size + n * a.size
  | 0, acc => by simp
  | n + 1, acc => by
    rw [List.replicate_succ, List.foldl_cons, fold_size a n, Array.size_append, Nat.add_mul]
    omega
def timesS (x : Str) (n : Nat) : Str := if n = 1 ∨ x.length = 0 then x else ⟨(List.replicate n x.cps).foldl (· ++ ·) #[]⟩
def mulTx : D → D → Sto → R D
  | .str x, .int n, st => if 1 ≤ n ∧ n ≤ 1000 ∧ x.length ≤ 1000 then .ok (.str (timesS x n.toNat)) st else .bad
  | _, _, _ => .bad
theorem op_mulTx : OpR X (binaryOp .Mult) (LR (gOf B X) E mulTx) := fun pins s sg H x y v u Q I rx ry w => by
  obtain ⟨q, st, a, b, rs, ra, rb, p⟩ := w
  unfold mulTx at p
  split at p
  · rename_i z n
    split at p
    · rename_i hz
      have e1 := ra.str_inv
      have e2 := rb.int_inv
      subst e1 e2
      obtain ⟨t, rfl⟩ := rx
      obtain ⟨t2, rfl⟩ := ry
      have hn : ¬ n < 1 := by omega
      refine PySem.P.mul_str (by
        rw [decide_eq_false (by omega : ¬ n < -(2 ^ 63 : Int)), decide_eq_false (by omega : ¬ n ≥ 2 ^ 63)]; rfl) (fun _ _ h => ?_) (fun _ _ => ?_) ?_
      · have h1 : (1001 : Int) ≤ (2 ^ 63 - 1) / n := by
          rw [Int.le_ediv_iff_mul_le (by omega)]
          omega
        have h2 : (z.length : Int) ≤ 1000 := by omega
        omega
      · have h1 : z.length * n.toNat ≤ 1000 * 1000 := Nat.mul_le_mul hz.2.2 (by omega)
        have h2 : (sizeLine : Nat) = 16777216 := by decide
        unfold Builtin.Str.tooLong
        exact decide_eq_false (by omega)
      · rw [if_neg hn]
        by_cases h1 : n.toNat = 1 ∨ z.length = 0
        · have e : (n == 1 || z.length == 0) = true := by
            rcases h1 with h1 | h1
            · have : n = 1 := by omega
              subst this; rfl
            · simp [h1]
          rw [e, if_pos rfl]
          have e2 : timesS z n.toNat = z := if_pos h1
          rw [e2] at p
          exact ⟨.str z, H, I, ⟨_, rfl⟩, p q _ H Ext.refl rs (.str _)⟩
        · have e : (n == 1 || z.length == 0) = false := by
            rw [Bool.or_eq_false_iff]
            exact ⟨by simp; omega, by simp; intro h; exact h1 (.inr (by rw [h]))⟩
          rw [e, if_neg Bool.false_ne_true]
          have e2 : timesS z n.toNat = ⟨(List.replicate n.toNat z.cps).foldl (· ++ ·) #[]⟩ := if_neg h1
          rw [e2] at p
          refine ⟨?_, .str _, H, I.tok _, ⟨_, rfl⟩, p q _ H Ext.refl rs (.str _)⟩
          show ((List.replicate n.toNat z.cps).foldl (· ++ ·) #[]).size ≤ sizeLine
          rw [fold_size]
          have h3 : n.toNat * z.cps.size ≤ 1000 * 1000 := Nat.mul_le_mul (by omega) hz.2.2
          have h2 : (sizeLine : Nat) = 16777216 := by decide
          simp only [List.size_toArray, List.length_nil]
          omega
    · exact False.elim p
  · exact False.elim p
/-! ### dicts whose keys are texts and ints -/
def isKD : D → Bool
  | .int _ => true
  | .str _ => true
  | _ => false
def keyQ : D → D → Bool
  | .int a, .int b => decide (a = b)
  | .str a, .str b => decide (a = b)
  | _, _ => false
theorem keyQ_dK (a b : Key) : keyQ (dK a) (dK b) = decide (a = b) := by
  cases a <;> cases b <;> simp [dK, keyQ]
theorem isKD_of_dK {k : Key} : isKD (dK k) = true := by cases k <;> rfl
theorem isKD_of {g : G} {q : List Addr} {H : Hp} {v : V} {d : D} (r : RD g q H v d) (h : isKD d = true) : ∃ k, d = dK k ∧ v = kV k := by
  cases r with
  | int i => exact ⟨.inl i, rfl, rfl⟩
  | str x => exact ⟨.inr x, rfl, rfl⟩
  | _ => cases h
def dget (kvs : List (D × D)) (k : D) : Option D := (kvs.find? fun p => keyQ p.1 k).map (·.2)
def dput (kvs : List (D × D)) (k v : D) : List (D × D) := if (kvs.any fun p => keyQ p.1 k) = true then kvs.map (fun p => if keyQ p.1 k = true then (p.1, v) else p) else kvs ++ [(k, v)]
def keysOk (kvs : List (D × D)) : Bool := kvs.all fun p => isKD p.1
abbrev PK (g : G) (q : List Addr) (H : Hp) : D × D → Key × V → Prop := fun p x => p.1 = dK x.1 ∧ RD g q H x.2 p.2
theorem dget_val {g : G} {q : List Addr} {H : Hp} (k : Key) {kvs : List (D × D)} {gs : List (Key × V)} (h : Paired (PK g q H) kvs gs) :
    (∀ d, dget kvs (dK k) = some d → ∃ v, valV gs k = some v ∧ RD g q H v d) ∧ (dget kvs (dK k) = none → valV gs k = none) := by
  induction h with
  | nil => exact ⟨fun d e => (nomatch (show (none : Option D) = some d from e)), fun _ => rfl⟩
  | @cons p x ps xs hp _ ih =>
    obtain ⟨h1, h2⟩ := hp
    have hq : keyQ p.1 (dK k) = decide (x.1 = k) := by rw [h1, keyQ_dK]
    unfold dget at ih ⊢
    rw [List.find?_cons, hq]
    by_cases e : x.1 = k
    · rw [decide_eq_true e]
      exact ⟨fun d ed => by cases ed; exact ⟨x.2, valV_pos e, h2⟩, fun ed => by cases ed⟩
    · rw [decide_eq_false e, valV_neg e]
      exact ih
theorem paired_map {A B C D' : Type} {F : A → B → Prop} {F' : C → D' → Prop} {f : A → C} {g : B → D'} (h : ∀ a b, F a b → F' (f a) (g b)) : ∀ {l : List A} {m : List B}, Paired F l m → Paired F' (l.map f) (m.map g)
  | _, _, .nil => .nil
  | _, _, .cons a t => .cons (h _ _ a) (paired_map h t)
theorem any_key {g : G} {q : List Addr} {H : Hp} (k : Key) {kvs : List (D × D)} {gs : List (Key × V)} (h : Paired (PK g q H) kvs gs) : (kvs.any fun p => keyQ p.1 (dK k)) = gs.any fun x => decide (x.1 = k) := by
  induction h with
  | nil => rfl
  | @cons p x ps xs hp _ ih => rw [List.any_cons, List.any_cons, ih, hp.1, keyQ_dK]
theorem dput_val {g : G} {q : List Addr} {H : Hp} {k : Key} {v : V} {d : D} (r : RD g q H v d) {kvs : List (D × D)} {gs : List (Key × V)} (h : Paired (PK g q H) kvs gs) : Paired (PK g q H) (dput kvs (dK k) d) (putK gs k v) := by
  unfold dput putK
  rw [any_key k h]
  by_cases e : (gs.any fun x => decide (x.1 = k)) = true
  · rw [if_pos e, if_pos e]
    refine paired_map (fun p x hp => ?_) h
    obtain ⟨h1, h2⟩ := hp
    have hq : keyQ p.1 (dK k) = decide (x.1 = k) := by rw [h1, keyQ_dK]
    rw [hq]
    by_cases e2 : x.1 = k
    · rw [decide_eq_true e2, if_pos rfl, if_pos e2]; exact ⟨h1, r⟩
    · rw [decide_eq_false e2, if_neg Bool.false_ne_true, if_neg e2]; exact ⟨h1, h2⟩
  · rw [if_neg e, if_neg e]
    exact Paired.app h (.cons ⟨rfl, r⟩ .nil)
theorem RS.dicK {g : G} {q : List Addr} {H : Hp} {st : Sto} (rs : RS g q H st) {n : Nat} {kvs : List (D × D)} (h : st[n]? = some (.dic kvs)) (hk : keysOk kvs = true) : ∃ a gs, q[n]? = some a ∧ H a = some (.dK gs) ∧ Paired (PK g q H) kvs gs := by
  obtain ⟨a, qa, ro⟩ := rs.get h
  rcases ro with ⟨gs, h1, h2⟩ | ⟨⟨hn, _⟩, xs, _, hp⟩
  · exact ⟨a, gs, qa, h1, h2⟩
  · cases hp with
    | nil => exact absurd rfl hn
    | @cons p x ps xs hp t =>
      unfold keysOk at hk
      rw [List.all_cons, Bool.and_eq_true] at hk
      obtain ⟨k, _, e⟩ := isKD_of hp.2.2.1 hk.1
      cases k <;> cases e
/-- d[k] -/
def dixD : D → D → Sto → R D
  | .ref n, k, st => match st[n]? with
    | some (.dic kvs) => if (keysOk kvs && isKD k) = true then (match dget kvs k with
      | some d => .ok d st
      | none => .bad) else .bad
    | _ => .bad
  | _, _, _ => .bad
variable {a o i e value : Expr} {fa fb fc : EF} {pos pos' : Pos}
theorem le_dix (hu : X.A.units + 1 < cLine) (ha : PE X o (LE (gOf B X) E fa)) (hb : PE X i (LE (gOf B X) E fb)) (hs : NoSl i) : PE X (.Subscript o i pos) (LE (gOf B X) E (opF dixD fa fb)) := (pe_dget hu ha hb hs).imp fun sg H Q w => by
  obtain ⟨q, env, st, rs, re, p⟩ := w
  refine LE.chain rs re (R.post_bind.mp p) fun x s1 q1 v H1 p e1 rs1 re1 rx => ?_
  refine LE.chain rs1 re1 ((R.post_bind.mp p).imp (fun _ _ h => h) fun _ _ h => h.ext e1) fun y s2 q2 u H2 p e2 rs2 re2 ry => ?_
  unfold dixD at p
  split at p
  · split at p
    · rename_i kvs hk
      split at p
      · rename_i hok
        rw [Bool.and_eq_true] at hok
        obtain ⟨a', rfl, qa⟩ := (rx.ext e2).ref_inv
        obtain ⟨b, gs, qb, hb, hp⟩ := rs2.dicK hk hok.1
        rw [qa] at qb; cases qb
        obtain ⟨k, rfl, rfl⟩ := isKD_of ry hok.2
        split at p
        · rename_i d hd
          obtain ⟨w, hw, rw'⟩ := (dget_val k hp).1 d hd
          exact ⟨a', w, rfl, .inl ⟨gs, k, .inl hb, rfl, hw.symm⟩, p q2 w H2 (e1.trans e2) rs2 rw'⟩
        · exact False.elim p
      · exact False.elim p
    · exact False.elim p
  · exact False.elim p
/-- k in d -/
def dinD (neg : Bool) : D → D → Sto → R D
  | k, .ref n, st => match st[n]? with
    | some (.dic kvs) => if (keysOk kvs && isKD k) = true then .ok (.bl (if neg then !(dget kvs k).isSome else (dget kvs k).isSome)) st else .bad
    | _ => .bad
  | _, _, _ => .bad
theorem din_le {neg : Bool} {sg : L2.St} {H : Hp} {Q : VK} (w : LE (gOf B X) E (opF (dinD neg) fa fb) sg H Q) : LE (gOf B X) E fa sg H fun y H1 => LE (gOf B X) E fb sg H1 fun x H2 => ∃ a o, x = .ref a ∧ DGet H2 a y o ∧ Q (.bl (if neg then !o.isSome else o.isSome)) H2 := by
  obtain ⟨q, env, st, rs, re, p⟩ := w
  refine LE.chain rs re (R.post_bind.mp p) fun x s1 q1 v H1 p e1 rs1 re1 rx => ?_
  refine LE.chain rs1 re1 ((R.post_bind.mp p).imp (fun _ _ h => h) fun _ _ h => h.ext e1) fun y s2 q2 u H2 p e2 rs2 re2 ry => ?_
  cases y with
  | ref n =>
    unfold dinD at p
    simp only at p
    split at p
    · rename_i kvs hk
      split at p
      · rename_i hok
        rw [Bool.and_eq_true] at hok
        obtain ⟨a', rfl, qa⟩ := ry.ref_inv
        obtain ⟨b, gs, qb, hb, hp⟩ := rs2.dicK hk hok.1
        rw [qa] at qb; cases qb
        obtain ⟨k, rfl, rfl⟩ := isKD_of rx hok.2
        have es : (dget kvs (dK k)).isSome = (valV gs k).isSome := by
          cases hd : dget kvs (dK k) with
          | some d => obtain ⟨w, hw, _⟩ := (dget_val k hp).1 d hd; rw [hw]; rfl
          | none => rw [(dget_val k hp).2 hd]; rfl
        rw [es] at p
        exact ⟨a', valV gs k, rfl, .inl ⟨gs, k, .inl hb, rfl, rfl⟩, p q2 _ H2 (e1.trans e2) rs2 (.bl _)⟩
      · exact False.elim p
    · exact False.elim p
  | _ => cases x <;> exact False.elim p
theorem lt_din (hu : X.A.units + 1 < cLine) (ha : PE X i (LE (gOf B X) E fa)) (hb : PE X o (LE (gOf B X) E fb)) (hm : behindInMarks .In o = false := by rfl) : PT X (.Compare i [.In] [o] pos) (LT (gOf B X) E (bF (opF (dinD false) fa fb))) :=
  (pt_cmp (pc_din hu ha hb) hm).imp fun _ _ _ w => din_le (neg := false) (bool_le w)
theorem lt_dnotin (hu : X.A.units + 1 < cLine) (ha : PE X i (LE (gOf B X) E fa)) (hb : PE X o (LE (gOf B X) E fb)) (hm : behindInMarks .NotIn o = false := by rfl) : PT X (.Compare i [.NotIn] [o] pos) (LT (gOf B X) E (bF (opF (dinD true) fa fb))) :=
  (pt_cmp (pc_dnotin hu ha hb) hm).imp fun _ _ _ w => din_le (neg := true) (bool_le w)
/-- d.get(k, x) -/
def dgetF (fa fb fc : EF) : EF := fun env st => (fa env st).bind fun o s1 => match o, s1 with
  | .ref n, s1 => (match s1[n]? with
    | some (.dic kvs) => if keysOk kvs = true then (fb env s1).bind fun k s2 => (fc env s2).bind fun z s3 => (match s3[n]? with
      | some (.dic kvs') => if (keysOk kvs' && isKD k) = true then .ok ((dget kvs' k).getD z) s3 else .bad
      | _ => .bad) else .bad
    | _ => .bad)
  | _, _ => .bad
theorem le_dget2 {f : Expr} {apos cpos : Pos} (hu : X.A.units + 1 < cLine) (ha : PE X o (LE (gOf B X) E fa)) (hb : PE X e (LE (gOf B X) E fb)) (hc : PE X f (LE (gOf B X) E fc)) (m : M2 X o "get" apos e f cpos) : PE X (.Call (.Attribute o "get" apos) [e, f] [] cpos) (LE (gOf B X) E (dgetF fa fb fc)) := (pe_dget2 hu ha hb hc m).imp fun sg H Q w => by
  obtain ⟨q, env, st, rs, re, p⟩ := w
  refine LE.chain rs re (R.post_bind.mp p) fun x s1 q1 v H1 p e1 rs1 re1 rx => ?_
  cases x with
  | ref n =>
    simp only at p
    split at p
    · rename_i kvs hk
      split at p
      · rename_i hok
        obtain ⟨a', rfl, qa⟩ := rx.ref_inv
        obtain ⟨b, gs, qb, hb, _⟩ := rs1.dicK hk hok
        rw [qa] at qb; cases qb
        refine ⟨a', rfl, .inl ⟨gs, .inl hb⟩, ?_⟩
        refine LE.chain rs1 re1 ((R.post_bind.mp p).imp (fun _ _ h => h) fun _ _ h => h.ext e1) fun y s2 q2 u H2 p e2 rs2 re2 ry => ?_
        refine LE.chain rs2 re2 ((R.post_bind.mp p).imp (fun _ _ h => h) fun _ _ h => h.ext (e1.trans e2)) fun z s3 q3 t H3 p e3 rs3 re3 rz => ?_
        split at p
        · rename_i kvs' hk'
          split at p
          · rename_i hok'
            rw [Bool.and_eq_true] at hok'
            obtain ⟨b, gs', qb, hb', hp'⟩ := rs3.dicK hk' hok'.1
            rw [e3.at (e2.at qa)] at qb; cases qb
            obtain ⟨k, rfl, rfl⟩ := isKD_of ry hok'.2
            refine ⟨valV gs' k, .inl ⟨gs', k, .inl hb', rfl, rfl⟩, ?_⟩
            cases hd : dget kvs' (dK k) with
            | some d =>
              obtain ⟨w, hw, rw'⟩ := (dget_val k hp').1 d hd
              rw [hd] at p
              rw [hw]
              exact p q3 w H3 (e1.trans (e2.trans e3)) rs3 rw'
            | none =>
              rw [hd] at p
              rw [(dget_val k hp').2 hd]
              exact p q3 t H3 (e1.trans (e2.trans e3)) rs3 rz
          · exact False.elim p
        · exact False.elim p
      · exact False.elim p
    · exact False.elim p
  | _ => exact False.elim p
/-- d[k] = v -/
def dputS (fv fo fk : EF) : SF := fun env st => (fv env st).bind fun v s1 => (fo env s1).bind fun o s2 => (fk env s2).bind fun k s3 => match o with
  | .ref n => (match s3[n]? with
    | some (.dic kvs) => if (keysOk kvs && isKD k && decide (kvs.length < sizeLine)) = true then .ok (.nx env) (s3.set n (.dic (dput kvs k v))) else .bad
    | _ => .bad)
  | _ => .bad
theorem ls_dput (hu : X.A.units + 1 < cLine) (ha : PE X o (LE (gOf B X) E fa)) (hb : PE X i (LE (gOf B X) E fb)) (hc : PE X value (LE (gOf B X) E fc)) (hs : swapsWith value (some (.Subscript o i pos')) pos.line X.env = pure false := by rfl) :
    PS X (.Assign [.Subscript o i pos'] value pos) (LS (gOf B X) E (dputS fc fa fb)) := (ps_dput hu ha hb hc hs).imp fun T sg H w => by
  obtain ⟨q, env, st, rs, re, p⟩ := w
  refine LE.chain rs re (R.post_bind.mp p) fun vd s1 q1 v H1 p e1 rs1 re1 rv => ?_
  refine LE.chain rs1 re1 ((R.post_bind.mp p).imp (fun _ _ h => h) fun _ _ h => h.ext e1) fun od s2 q2 ov H2 p e2 rs2 re2 ro => ?_
  refine LE.chain rs2 re2 ((R.post_bind.mp p).imp (fun _ _ h => h) fun _ _ h => h.ext (e1.trans e2)) fun kd s3 q3 kv H3 p e3 rs3 re3 rk => ?_
  cases od with
  | ref n =>
    simp only at p
    split at p
    · rename_i kvs hk
      split at p
      · rename_i hok
        rw [Bool.and_eq_true, Bool.and_eq_true] at hok
        obtain ⟨a', rfl, qa⟩ := (ro.ext e3).ref_inv
        obtain ⟨b, gs, qb, hb, hp⟩ := rs3.dicK hk hok.1.1
        rw [qa] at qb; cases qb
        obtain ⟨k, rfl, rfl⟩ := isKD_of rk hok.1.2
        have hl : gs.length < sizeLine := by rw [← hp.length]; exact of_decide_eq_true hok.2
        have mu : Mut (H3 a') := by rw [hb]; trivial
        obtain ⟨rs4, e4⟩ := rs3.put' (u := .dK (putK gs k v)) (o := .dic (dput kvs (dK k) vd)) qa (fun zs e => by rw [hk] at e; cases e) mu (fun φ e => by rw [hb] at e; cases e) (fun ps e => by cases e) fun ext =>
          .inl ⟨_, upd_same, Paired.mapP (dput_val (rv.ext (e2.trans e3)) hp) fun p x z => ⟨z.1, z.2.ext ext⟩⟩
        exact ⟨a', _, rfl, .inl ⟨gs, k, hb, rfl, hl, rfl⟩, p q3 _ (e1.trans (e2.trans (e3.trans e4))) rs4 sg (re3.ext e4)⟩
      · exact False.elim p
    · exact False.elim p
  | _ => exact False.elim p
/-- dict(d) -/
def dictD : List D → Sto → R D
  | [.ref n], st => match st[n]? with
    | some (.dic kvs) => if keysOk kvs = true then newO (.dic kvs) st else .bad
    | _ => .bad
  | _, _ => .bad
theorem call_dictDD : CallR X (.type "dict") (LC (gOf B X) E dictD) := call_dictD.imp fun vs H Q w => by
  obtain ⟨q, st, ds, rs, rd, p⟩ := w
  unfold dictD at p
  split at p
  · split at p
    · rename_i kvs hk
      split at p
      · rename_i hok
        obtain ⟨v, rfl, r⟩ := rd.one_inv
        obtain ⟨a', rfl, qa⟩ := r.ref_inv
        obtain ⟨b, gs, qb, hb, hp⟩ := rs.dicK hk hok
        rw [qa] at qb; cases qb
        refine ⟨a', gs, rfl, .inl hb, fun u hu => ?_⟩
        have s := same_upd (o := HO.dK gs) hu
        have ex : Ext q H (q ++ [u]) (upd H u (.dK gs)) := Same.ext s hu
        have rs2 := rs.new (o := .dic kvs) hu (.inl ⟨gs, upd_same, Paired.mapP hp fun p x z => ⟨z.1, z.2.ext ex⟩⟩)
        refine p _ _ _ ex rs2 (.ref ?_)
        rw [← rs.len]; simp
      · exact False.elim p
    · exact False.elim p
  · exact False.elim p
/-! ### a, b = x, y -/
def parS (i j : Nat) (fa : AF) : SF := fun env st => (fa env st).bind fun xs s => match xs with
  | [x, y] => .ok (.nx ((env.set i (some x)).set j (some y))) s
  | _ => .bad
theorem ls_par {i j : Nat} {x y : Str} {a b : Expr} {px py pt : Pos} {kt k2 pt2} {fp : AF} (hc : X.calm = true) (hN : X.N.Nodup) (ha : PA X [a, b] (LA (gOf B X) E fp)) (hi : X.N[i]? = some x := by rfl) (hj : X.N[j]? = some y := by rfl) (hij : i ≠ j := by decide)
    (hx : X.env.scope.names.lookup x = some .local := by rfl) (hy : X.env.scope.names.lookup y = some .local := by rfl)
    (hw : swappedStores [.Tuple [.Name x px, .Name y py] kt pt] (.Tuple [a, b] k2 pt2) X.env = pure (some [x, y]) := by rfl)
    (hs : swapsWithSole [.Tuple [.Name x px, .Name y py] kt pt] (.Tuple [a, b] k2 pt2) pos.line X.env = pure false := by rfl) :
    PS X (.Assign [.Tuple [.Name x px, .Name y py] kt pt] (.Tuple [a, b] k2 pt2) pos) (LS (gOf B X) E (parS i j fp)) := (ps_par hc hN hi hj hij hx hy ha hw hs).imp fun T sg H w => by
  obtain ⟨q, env, st, rs, re, p⟩ := w
  refine LA.chain rs re (R.post_bind.mp p) fun xs s1 q1 vs H1 p e1 rs1 re1 rx => ?_
  match xs, p, rx with
  | [d1, d2], p, rx =>
    obtain ⟨v, w, rfl, r1, r2⟩ := rx.two_inv
    exact ⟨v, w, rfl, p q1 H1 e1 rs1 _ ((re1.set r1).set r2)⟩
  | [], p, _ => exact False.elim p
  | [_], p, _ => exact False.elim p
  | _ :: _ :: _ :: _, p, _ => exact False.elim p
/-! ### {k: v} -/
def disp1F (fk fv : EF) : EF := fun env st => (fk env (st ++ [.dic []])).bind fun k s1 => (fv env s1).bind fun v s2 => match s2[st.length]? with
  | some (.dic []) => if isKD k = true then .ok (.ref st.length) (s2.set st.length (.dic [(k, v)])) else .bad
  | _ => .bad
end
end VL

/-! VLZ: list(zip(a, b)) of two lists. -/
namespace VL
open PySem PySem.Spec PySem.W PyProof.Rows L2 LamX NdefX
/-- a turn of the walk: the list at N + 5, its pairs behind it -/
structure Zs (h0 h : Heap) (N a b : Addr) (xs ys : Array Value) (i : Nat) (acc : Array Value) (c : Nat) : Prop where
  zip : (IsZip h (N + 4) (N + 2) (N + 3) .none ∧ ∃ u v, IsPair h (N + 3) u v) ∨ ∃ T f oT, IsZipHeld h (N + 4) (N + 2) (N + 3) T f ∧ h.get? T = some oT ∧ N + 6 ≤ T
  TI : IsPair h (N + 2) (.ref N) (.ref (N + 1))
  it1 : h.IsListIter N a i
  it2 : h.IsListIter (N + 1) b i
  l1 : h.IsList a xs
  l2 : h.IsList b ys
  S : h.get? (N + 5) = some { cls := .type "list", dict := none, data := .seq acc c, slots := #[] }
  sz : acc.size = i
  tups : ∀ j : Nat, j < i → ∃ T x y, acc[j]? = some (Value.ref T) ∧ xs[j]? = some x ∧ ys[j]? = some y ∧ IsPair h T x y ∧ N + 6 ≤ T
  dist : ∀ (j k : Nat) (T : Addr), acc[j]? = some (Value.ref T) → acc[k]? = some (Value.ref T) → j = k
  old : ∀ b o, h0.get? b = some o → h.get? b = some o
/-- the end -/
structure Ze (h0 h : Heap) (N : Addr) (xs ys : Array Value) (acc : Array Value) (c : Nat) : Prop where
  S : h.get? (N + 5) = some { cls := .type "list", dict := none, data := .seq acc c, slots := #[] }
  sz : acc.size = min xs.size ys.size
  tups : ∀ j : Nat, j < min xs.size ys.size → ∃ T x y, acc[j]? = some (Value.ref T) ∧ xs[j]? = some x ∧ ys[j]? = some y ∧ IsPair h T x y ∧ N + 6 ≤ T
  dist : ∀ (j k : Nat) (T : Addr), acc[j]? = some (Value.ref T) → acc[k]? = some (Value.ref T) → j = k
  old : ∀ b o, h0.get? b = some o → h.get? b = some o
section
variable {prog : Program} {w : World} {A : Around} {s : Shared} {h0 : Heap} {N a b : Addr} {xs ys : Array Value}
theorem nz {i j : Nat} (h : i ≠ j) : (N + i : Nat) ≠ N + j := fun e => h (Nat.add_left_cancel e)
theorem lt_ne {c : Addr} (h : c < N) (i : Nat) : c ≠ N + i := Nat.ne_of_lt (Nat.lt_of_lt_of_le h (Nat.le_add_right _ _))
theorem zs_step {E : Value → Shared → Prop} {Q : Option Value → Shared → Prop} {i : Nat} {acc : Array Value} {c : Nat} (h0N : h0.objs.size = N) (la : a < N) (lb : b < N) (z : Zs h0 s.heap N a b xs ys i acc c) (h1 : i < xs.size) (h2 : i < ys.size)
    (q : ∀ h' T, h'.get? (N + 5) = some { cls := .type "list", dict := none, data := .seq acc c, slots := #[] } → (∀ h'', (∀ d o, d ≠ N + 5 → h'.get? d = some o → h''.get? d = some o) → ∀ c', h''.get? (N + 5) = some { cls := .type "list", dict := none, data := .seq (acc.push (.ref T)) c', slots := #[] } → Zs h0 h'' N a b xs ys (i + 1) (acc.push (.ref T)) c') → Q (some (Value.ref T)) { s with heap := h' }) :
    wpAny (model prog w) A (pyNext (.ref (N + 4))) Q E s := by
  have D := PySem.W.ktu_apart N a b la lb
  have hx : xs[i]? = some xs[i] := by simp [h1]
  have hy : ys[i]? = some ys[i] := by simp [h2]
  have hS := Heap.lt_size z.S
  have fin : ∀ h', (∃ T f oT, IsZipHeld h' (N + 4) (N + 2) (N + 3) T f ∧ h'.get? T = some oT ∧ N + 6 ≤ T) → h'.IsListIter N a (i + 1) → h'.IsListIter (N + 1) b (i + 1) → IsPair h' s.heap.objs.size xs[i] ys[i] →
      (∀ d o, d ≠ N + 4 → d ≠ N + 3 → d ≠ N → d ≠ N + 1 → s.heap.get? d = some o → h'.get? d = some o) → Q (some (.ref s.heap.objs.size)) { s with heap := h' } := by
    intro h' hz i1 i2 hT hk
    have big : N + 6 ≤ s.heap.objs.size := hS
    refine q h' _ (hk _ _ (nz (by decide)) (nz (by decide)) (Ne.symm (show N ≠ N + 5 from Nat.ne_of_lt (Nat.lt_add_of_pos_right (by decide)))) (nz (by decide)) z.S) fun h'' hk2 c' hS2 => ?_
    have hT2 : IsPair h'' s.heap.objs.size xs[i] ys[i] := hk2 _ _ (Nat.ne_of_gt (Nat.lt_of_lt_of_le (Nat.lt_succ_self _) big)) hT
    have n5 : N ≠ N + 5 := Nat.ne_of_lt (Nat.lt_add_of_pos_right (by decide))
    refine ⟨.inr ?_, ?_, ?_, ?_, ?_, ?_, hS2, by rw [Array.size_push, z.sz], fun j hj => ?_, fun j k T e1 e2 => ?_, fun d o e => ?_⟩
    · obtain ⟨T, f, oT, g1, g2, g3⟩ := hz
      exact ⟨T, f, oT, hk2 _ _ (nz (by decide)) g1, hk2 _ _ (Nat.ne_of_gt (Nat.lt_of_lt_of_le (Nat.lt_succ_self _) g3)) g2, g3⟩
    · exact hk2 _ _ (nz (by decide)) (hk _ _ (nz (by decide)) (nz (by decide)) (Ne.symm (Nat.ne_of_lt (Nat.lt_add_of_pos_right (by decide)))) (nz (by decide)) z.TI)
    · exact i1.at fun o e => hk2 _ _ n5 e
    · exact i2.at fun o e => hk2 _ _ (nz (by decide)) e
    · exact z.l1.at fun o e => hk2 _ _ (lt_ne la 5) (hk _ _ (lt_ne la 4) (lt_ne la 3) (Nat.ne_of_lt la) (lt_ne la 1) e)
    · exact z.l2.at fun o e => hk2 _ _ (lt_ne lb 5) (hk _ _ (lt_ne lb 4) (lt_ne lb 3) (Nat.ne_of_lt lb) (lt_ne lb 1) e)
    · by_cases e : j < i
      · obtain ⟨T, x, y, e1, e2, e3, e4, e5⟩ := z.tups j e
        have nT : ∀ k : Nat, k ≤ 5 → T ≠ N + k := fun k hk => Nat.ne_of_gt (Nat.lt_of_le_of_lt (Nat.add_le_add_left hk N) (Nat.lt_of_lt_of_le (Nat.lt_succ_self _) e5))
        refine ⟨T, x, y, ?_, e2, e3, hk2 _ _ (nT 5 (by decide)) (hk _ _ (nT 4 (by decide)) (nT 3 (by decide)) (nT 0 (by decide)) (nT 1 (by decide)) e4), e5⟩
        rw [Array.getElem?_push_lt (by rw [z.sz]; exact e)]
        rw [← e1]; simp [z.sz, e]
      · obtain rfl : j = i := by omega
        refine ⟨s.heap.objs.size, xs[j], ys[j], ?_, hx, hy, hT2, big⟩
        have := Array.getElem?_push_size (xs := acc) (x := Value.ref s.heap.objs.size)
        rw [z.sz] at this
        exact this
    · have old : ∀ (j : Nat) (T : Addr), acc[j]? = some (Value.ref T) → T < s.heap.objs.size := fun j T e => by
        have hj : j < i := by rw [← z.sz]; exact (Array.getElem?_eq_some_iff.mp e).1
        obtain ⟨T', x, y, e1, _, _, e4, _⟩ := z.tups j hj
        rw [e] at e1; cases e1
        exact Heap.lt_size e4
      rw [Array.getElem?_push] at e1 e2
      split at e1
      · split at e2
        · omega
        · cases e1
          exact absurd (old _ _ e2) (Nat.lt_irrefl _)
      · split at e2
        · cases e2
          exact absurd (old _ _ e1) (Nat.lt_irrefl _)
        · exact z.dist _ _ _ e1 e2
    · have hd : d < N := by rw [← h0N]; exact Heap.lt_size e
      exact hk2 _ _ (lt_ne hd 5) (hk _ _ (lt_ne hd 4) (lt_ne hd 3) (Nat.ne_of_lt hd) (lt_ne hd 1) (z.old _ _ e))
  have bigN : N + 6 ≤ s.heap.objs.size := hS
  rcases z.zip with ⟨hz, u, v, hTO⟩ | ⟨T, f, oT, hz, hT, gT⟩
  · refine wpAny_pyNext_zip_item D hz z.TI hTO z.it1 z.it2 z.l1 z.l2 hx hy fun h' g1 g2 g3 g4 g5 g6 g7 => ?_
    exact fin h' ⟨_, false, _, g1, g5, bigN⟩ g3 g4 g5 fun d o n1 n2 n3 n4 e => g7 d o n1 n2 n3 n4 e
  · refine wpAny_pyNext_zip_item_held D hz hT z.TI z.it1 z.it2 z.l1 z.l2 hx hy fun h' g1 g3 g4 g5 g6 g7 => ?_
    have nT : ∀ k : Nat, k ≤ 5 → T ≠ N + k := fun k hk => Nat.ne_of_gt (Nat.lt_of_le_of_lt (Nat.add_le_add_left hk N) (Nat.lt_of_lt_of_le (Nat.lt_succ_self _) gT))
    exact fin h' ⟨T, true, oT, g1, g7 _ _ (nT 4 (by decide)) (nT 0 (by decide)) (nT 1 (by decide)) hT, gT⟩ g3 g4 g5 fun d o n1 _ n3 n4 e => g7 d o n1 n3 n4 e
theorem zs_done {E : Value → Shared → Prop} {Q : Option Value → Shared → Prop} {i : Nat} {acc : Array Value} {c : Nat} (hh : A.handled = none) (h0N : h0.objs.size = N) (la : a < N) (lb : b < N) (z : Zs h0 s.heap N a b xs ys i acc c) (h1 : i = min xs.size ys.size)
    (q : ∀ h', Ze h0 h' N xs ys acc c → Q none { s with heap := h' }) : wpAny (model prog w) A (pyNext (.ref (N + 4))) Q E s := by
  have D := PySem.W.ktu_apart N a b la lb
  have he : xs[i]? = none ∨ ys[i]? = none := by
    rcases Nat.le_total xs.size ys.size with h | h
    · exact .inl (by simp; omega)
    · exact .inr (by simp; omega)
  have n5 : N + 5 ≠ N := Ne.symm (Nat.ne_of_lt (Nat.lt_add_of_pos_right (by decide)))
  have fin : ∀ h', (∀ d o, d ≠ N + 4 → d ≠ N + 3 → d ≠ N → d ≠ N + 1 → s.heap.get? d = some o → h'.get? d = some o) → Q none { s with heap := h' } := fun h' hk => by
    refine q h' ⟨hk _ _ (nz (by decide)) (nz (by decide)) n5 (nz (by decide)) z.S, by rw [z.sz, h1], fun j hj => ?_, z.dist, fun d o e => ?_⟩
    · obtain ⟨T, x, y, e1, e2, e3, e4, e5⟩ := z.tups j (by rw [h1]; exact hj)
      have nT : ∀ k : Nat, k ≤ 5 → T ≠ N + k := fun k hk => Nat.ne_of_gt (Nat.lt_of_le_of_lt (Nat.add_le_add_left hk N) (Nat.lt_of_lt_of_le (Nat.lt_succ_self _) e5))
      exact ⟨T, x, y, e1, e2, e3, hk _ _ (nT 4 (by decide)) (nT 3 (by decide)) (nT 0 (by decide)) (nT 1 (by decide)) e4, e5⟩
    · have hd : d < N := by rw [← h0N]; exact Heap.lt_size e
      exact hk _ _ (lt_ne hd 4) (lt_ne hd 3) (Nat.ne_of_lt hd) (lt_ne hd 1) (z.old _ _ e)
  rcases z.zip with ⟨hz, u, v, hTO⟩ | ⟨T, f, oT, hz, hT, gT⟩
  · exact wpAny_pyNext_zip_end hh D hz z.TI hTO z.it1 z.it2 z.l1 z.l2 he fun h' k => fin h' fun d o n1 n2 n3 n4 e => k d o n1 n2 n3 n4 e
  · exact wpAny_pyNext_zip_end_held hh D hz hT z.TI z.it1 z.it2 z.l1 z.l2 he fun h' k => fin h' fun d o n1 _ n3 n4 e => k d o n1 n3 n4 e
theorem zs_loop {R : Result → Shared → Prop} {res : Value} (hh : A.in1.handled = none) (h0N : h0.objs.size = N) (la : a < N) (lb : b < N) (hz : min xs.size ys.size ≤ sizeLine) : ∀ (k i : Nat) (s : Shared) (acc : Array Value) (c : Nat), min xs.size ys.size - i = k → i ≤ min xs.size ys.size → Zs h0 s.heap N a b xs ys i acc c →
    (∀ h' acc' c', Ze h0 h' N xs ys acc' c' → R (.ok (.ret res)) { s with heap := h' }) → codeAny (model prog w) A (.builtin "list.extend.loop" ⟨[.ref (N + 5), .ref (N + 4), res], []⟩) R s
  | 0, i, s, acc, c, hk, hi, z, q => by
    refine codeAny_builtin F.entry_extend_loop ?_
    rw [Around.under_plainId F.plain_extend_loop _]
    show wpAny _ A.in1 (pyNext (.ref (N + 4)) >>= _) _ _ s
    refine wpAny_bind (zs_done hh h0N la lb z (by omega) fun h' ze => ?_)
    exact wpAny_pure (q h' acc c ze)
  | k + 1, i, s, acc, c, hk, hi, z, q => by
    refine codeAny_builtin F.entry_extend_loop ?_
    rw [Around.under_plainId F.plain_extend_loop _]
    show wpAny _ A.in1 (pyNext (.ref (N + 4)) >>= _) _ _ s
    refine wpAny_bind (zs_step h0N la lb z (by omega) (by omega) fun h' T hS nxt => ?_)
    show wpAny _ A.in1 (updateSeq (N + 5) (·.push (.ref T)) >>= _) _ _ _
    refine wpAny_bind ?_
    refine wpAny_updateSeq hS rfl (wpAny_pure ⟨plainId_quiet F.plain_extend_loop _, zs_loop hh h0N la lb hz k (i + 1) _ (acc.push (.ref T)) _ (by omega) (by omega) (nxt _ (fun d o hd e => (Heap.get?_update_other _ _ (Ne.symm hd)).trans e) _ (Heap.get?_update_self _ hS rfl)) fun h2 acc' c' ze => q h2 acc' c' ze⟩)
      (by rw [z.sz]; omega) (by show (acc.push (Value.ref T)).size ≤ sizeLine + 1; rw [Array.size_push, z.sz]; omega)
theorem zip_no_len : typeLookup (.type "zip") "__len__" = pure none := by rw [typeLookup_type, builtinLookup_eq_fast]; kernel_rfl
theorem zip_no_hint : typeLookup (.type "zip") "__length_hint__" = pure none := by rw [typeLookup_type, builtinLookup_eq_fast]; kernel_rfl
theorem extend_zip {R : Result → Shared → Prop} {res : Value} {c0 : Nat} (hh : A.in1.handled = none) (h0N : h0.objs.size = N) (la : a < N) (lb : b < N) (hz : min xs.size ys.size ≤ sizeLine) (z : Zs h0 s.heap N a b xs ys 0 #[] c0) (zz : IsZip s.heap (N + 4) (N + 2) (N + 3) .none)
    (q : ∀ h' acc' c', Ze h0 h' N xs ys acc' c' → R (.ok (.ret res)) { s with heap := h' }) :
    wpAny (model prog w) A.in1 (Builtin.List.listExtendWith (.ref (N + 5)) (.ref (N + 4)) res)
      (fun fin s' => match fin with | .done f => R (.ok f) s' | .again c' => c'.quiet = true ∧ codeAny (model prog w) A c' R s') (fun e s' => R (.error e) s') s := by
  have hT : s.TypeIs (.ref (N + 4)) "zip" := ⟨_, zz, rfl⟩
  unfold Builtin.List.listExtendWith
  refine wpAny_bind (wpAny_typeOf hT ?_)
  have h1 : Builtin.List.listSameRef (.ref (N + 5)) (.ref (N + 4)) = false := by
    show ((N + 5 : Nat) == N + 4) = false
    exact beq_eq_false_iff_ne.mpr (nz (by decide))
  have h2 : (Value.type "zip" == Value.type "list") = false := by decide
  have h3 : (Value.type "zip" == Value.type "tuple") = false := by decide
  simp only [h1, h2, h3, Bool.or_false, Bool.false_eq_true, if_false]
  refine wpAny_bind (wpAny_pyIter_zip zz ?_)
  refine wpAny_bind (wpAny_holding ?_)
  unfold Builtin.List.listLengthHint
  refine wpAny_bind (wpAny_specialOf hT zip_no_len ?_)
  show wpAny _ A.in1 (specialOf (Value.ref (N + 4)) (Str.ofString "__length_hint__") >>= _) _ _ _
  refine wpAny_bind (wpAny_specialOf hT zip_no_hint ?_)
  refine wpAny_pure ?_
  show wpAny _ A.in1 (rule "list.extend.makes-room" >>= fun _ => Builtin.List.listTouch (.ref (N + 5)) >>= fun _ =>
    again (.builtin "list.extend.loop" ⟨[.ref (N + 5), .ref (N + 4), res], []⟩)) _ _ _
  refine wpAny_bind (wpAny_rule ?_)
  refine wpAny_bind ?_
  show wpAny _ A.in1 (updateSeq (N + 5) (·.push .none) >>= fun _ => updateSeq (N + 5) (·.pop)) _ _ _
  refine wpAny_bind (wpAny_updateSeq z.S rfl ?_)
  have hS₂ := Heap.get?_update_self (Obj.mapSeq (·.push Value.none)) z.S rfl
  refine wpAny_updateSeq (hz := by seq_fits) hS₂ rfl ?_
  have hS₃ := Heap.get?_update_self (Obj.mapSeq (·.pop)) hS₂ rfl
  have oth : ∀ d o, d ≠ N + 5 → s.heap.get? d = some o → ((s.heap.update (N + 5) (Obj.mapSeq (·.push Value.none))).update (N + 5) (Obj.mapSeq (·.pop))).get? d = some o :=
    fun d o hd e => (Heap.get?_update_other _ _ (Ne.symm hd)).trans ((Heap.get?_update_other _ _ (Ne.symm hd)).trans e)
  have n5 : N ≠ N + 5 := Nat.ne_of_lt (Nat.lt_add_of_pos_right (by decide))
  obtain ⟨c2, hS4⟩ : ∃ c2, ((s.heap.update (N + 5) (Obj.mapSeq (·.push Value.none))).update (N + 5) (Obj.mapSeq (·.pop))).get? (N + 5) = some { cls := .type "list", dict := none, data := .seq #[] c2, slots := #[] } := ⟨_, hS₃⟩
  have z2 : Zs h0 ((s.heap.update (N + 5) (Obj.mapSeq (·.push Value.none))).update (N + 5) (Obj.mapSeq (·.pop))) N a b xs ys 0 #[] c2 := by
    refine ⟨?_, oth _ _ (nz (by decide)) z.TI, z.it1.at fun o e => oth _ _ n5 e, z.it2.at fun o e => oth _ _ (nz (by decide)) e, z.l1.at fun o e => oth _ _ (lt_ne la 5) e, z.l2.at fun o e => oth _ _ (lt_ne lb 5) e, hS4, rfl, fun j hj => absurd hj (Nat.not_lt_zero j), fun j k T e => by simp at e, fun d o e => ?_⟩
    · rcases z.zip with ⟨g1, u, v, g2⟩ | ⟨T, f, oT, g1, _⟩
      · exact .inl ⟨oth _ _ (nz (by decide)) g1, u, v, oth _ _ (nz (by decide)) g2⟩
      · have e := zz.symm.trans g1
        cases e
    · exact oth _ _ (lt_ne (by rw [← h0N]; exact Heap.lt_size e) 5) (z.old _ _ e)
  exact wpAny_pure ⟨plainId_quiet F.plain_extend_loop _, zs_loop hh h0N la lb hz _ 0 _ #[] _ rfl (Nat.zero_le _) z2 fun h' acc' c' ze => q h' acc' c' ze⟩
theorem call_list_zip {E : Value → Shared → Prop} {Q : Value → Shared → Prop} (hh : A.handled = none) (h0N : h0.objs.size = N) (la : a < N) (lb : b < N) (hz : min xs.size ys.size ≤ sizeLine) (hsz : s.heap.objs.size = N + 5)
    (zz : IsZip s.heap (N + 4) (N + 2) (N + 3) .none) (TI : IsPair s.heap (N + 2) (.ref N) (.ref (N + 1))) (TO : IsPair s.heap (N + 3) .none .none) (it1 : s.heap.IsListIter N a 0) (it2 : s.heap.IsListIter (N + 1) b 0) (l1 : s.heap.IsList a xs) (l2 : s.heap.IsList b ys) (old : ∀ d o, h0.get? d = some o → s.heap.get? d = some o)
    (q : ∀ h' acc' c', Ze h0 h' N xs ys acc' c' → Q (.ref (N + 5)) { s with heap := h' }) : wpAny (model prog w) A (call (.type "list") [.ref (N + 4)]) Q E s := by
  refine callType_codes (Q₁ := fun obj s₁ => obj = .ref s.heap.objs.size ∧ s₁ = { s with heap := s.heap.push { cls := .type "list", data := .seq #[] } }) F.called_list (F.typeCall_list_1 _) F.entry_list_init
    (code_list_new _ ⟨rfl, rfl⟩) fun obj s₁ h₁ => ?_
  obtain ⟨rfl, rfl⟩ := h₁
  have hS : (s.heap.push { cls := .type "list", data := .seq #[] }).get? s.heap.objs.size = some { cls := .type "list", data := .seq #[] } := Heap.get?_push_size _ rfl
  have p : ∀ d o, s.heap.get? d = some o → (s.heap.push { cls := .type "list", data := .seq #[] }).get? d = some o := fun d o e => Heap.get?_push_of_some _ e
  refine ⟨⟨_, hS, rfl⟩, F.args_list_init_2 _ _, ?_⟩
  rw [hsz] at hS ⊢
  show wpAny _ A.in1.in1 (do let old ← Builtin.List.listItems (.ref (N + 5)); Builtin.List.listUpdate (.ref (N + 5)) (fun _ => #[]); letGo old.toList.reverse; Builtin.List.listExtendWith (.ref (N + 5)) (.ref (N + 4)) .none) _ _ _
  refine wpAny_bind ?_
  unfold Builtin.List.listItems
  refine wpAny_bind (wpAny_seqItems hS rfl (wpAny_pure ?_))
  show wpAny _ A.in1.in1 (updateSeq (N + 5) (fun _ => #[]) >>= fun _ => letGo (#[] : Array Value).toList.reverse >>= fun _ => Builtin.List.listExtendWith (.ref (N + 5)) (.ref (N + 4)) .none) _ _ _
  refine wpAny_bind (wpAny_updateSeq hS rfl ?_)
  have hS₂ := Heap.get?_update_self (Obj.mapSeq (fun _ => (#[] : Array Value))) hS rfl
  refine wpAny_bind (wpAny_letGo ?_)
  have oth : ∀ d o, d ≠ N + 5 → s.heap.get? d = some o → ((s.heap.push { cls := .type "list", data := .seq #[] }).update (N + 5) (Obj.mapSeq (fun _ => (#[] : Array Value)))).get? d = some o :=
    fun d o hd e => (Heap.get?_update_other _ _ (Ne.symm hd)).trans (p _ _ e)
  have n5 : N ≠ N + 5 := Nat.ne_of_lt (Nat.lt_add_of_pos_right (by decide))
  have zz2 := oth _ _ (nz (by decide)) zz
  refine extend_zip (A := A.in1) (a := a) (b := b) hh h0N la lb hz ⟨.inl ⟨zz2, _, _, oth _ _ (nz (by decide)) TO⟩, oth _ _ (nz (by decide)) TI, it1.at fun o e => oth _ _ n5 e, it2.at fun o e => oth _ _ (nz (by decide)) e, l1.at fun o e => oth _ _ (lt_ne la 5) e, l2.at fun o e => oth _ _ (lt_ne lb 5) e, hS₂, rfl, fun j hj => absurd hj (Nat.not_lt_zero j), fun j k T e => by simp at e, fun d o e => oth _ _ (lt_ne (by rw [← h0N]; exact Heap.lt_size e) 5) (old _ _ e)⟩ zz2 fun h' acc' c' ze => ?_
  exact ⟨rfl, q h' acc' c' ze⟩
end

/-! ### as known tuples -/
def addT (H : Hp) (L : List (Addr × List V)) : Hp := fun b => match L.find? (fun p => decide (p.1 = b)) with
  | some p => some (.tup p.2)
  | none => H b
theorem addT_in {H : Hp} {L : List (Addr × List V)} {b : Addr} {p : Addr × List V} (h : L.find? (fun p => decide (p.1 = b)) = some p) : addT H L b = some (.tup p.2) := by unfold addT; rw [h]
theorem addT_out {H : Hp} {L : List (Addr × List V)} {b : Addr} (h : ∀ p ∈ L, p.1 ≠ b) : addT H L b = H b := by
  unfold addT
  rw [List.find?_eq_none.mpr fun p hp => by simpa using h p hp]
theorem addT_cases (H : Hp) (L : List (Addr × List V)) (b : Addr) : (∃ p ∈ L, p.1 = b ∧ addT H L b = some (.tup p.2)) ∨ ((∀ p ∈ L, p.1 ≠ b) ∧ addT H L b = H b) := by
  cases h : L.find? (fun p => decide (p.1 = b)) with
  | some p => exact .inl ⟨p, List.mem_of_find?_eq_some h, by simpa using List.find?_some h, addT_in h⟩
  | none =>
    have n : ∀ p ∈ L, p.1 ≠ b := fun p hp => by simpa using List.find?_eq_none.mp h p hp
    exact .inr ⟨n, addT_out n⟩
theorem addT_same {H : Hp} {L : List (Addr × List V)} (hn : ∀ p ∈ L, H p.1 = none) : Same H (addT H L) := fun b o e => by
  rcases addT_cases H L b with ⟨p, hp, rfl, _⟩ | ⟨_, h⟩
  · rw [hn p hp] at e; cases e
  · rw [h]; exact e
section
variable {X : Cx} {pins : List (Addr × Obj)} {σ : L2.St} {H : Hp} {s : Shared}
theorem inv_news {h' : Heap} {t' : Nat} {H' : Hp} (I : Inv X pins σ H s) (k : ∀ b u, s.heap.get? b = some u → h'.get? b = some u) (sm : Same H H') (nw : ∀ b o, H' b = some o → H b = some o ∨ (s.heap.objs.size ≤ b ∧ ObjOk X.prog X.w H' h' b o)) : Inv X pins σ H' { s with heap := h', toks := t' } := by
  refine I.un ⟨fun b o e _ _ _ => k b o e, fun b o e _ _ _ => ⟨o.slots, k b o e⟩, fun b o e n _ => ?_, fun b o e _ => ⟨o, k b o e⟩, fun b xs e => sm _ _ e, fun b o u e => sm _ _ e, fun b ps e => ⟨#[], by rw [sm _ _ e]; simp⟩⟩ fun b o e => ?_
  · cases e2 : H' b with
    | none => rfl
    | some u =>
      rcases nw b u e2 with h | ⟨h, _⟩
      · rw [n] at h; cases h
      · exact absurd (Nat.lt_of_lt_of_le (Heap.lt_size e) h) (Nat.lt_irrefl _)
  · rcases nw b o e with h | ⟨_, h⟩
    · exact ((I.hok.kept k) b o h).stay (fun _ _ _ q => q) (fun c q => sm _ _ q) fun c xs q => sm _ _ q
    · exact h
end

variable {B : Tb}
section
variable {X : Cx} {E : XK}
def lzF (fa : AF) : EF := fun env st => (fa env st).bind fun ds s => match ds with
  | [.ref m, .ref n] => (match listAt s m, listAt s n with
    | some xs, some ys => if min xs.length ys.length ≤ sizeLine then newO (.lst ((xs.zip ys).map pairD)) s else .bad
    | _, _ => .bad)
  | _ => .bad
theorem rds_pairs {g : G} {q : List Addr} {H : Hp} : ∀ {Ts : List Addr} {xs ys : List V} {ds es : List D}, RDs g q H xs ds → RDs g q H ys es → Ts.length = min xs.length ys.length → (∀ (j : Nat) T x y, Ts[j]? = some T → xs[j]? = some x → ys[j]? = some y → H T = some (.tup [x, y])) → RDs g q H (Ts.map V.ref) ((ds.zip es).map pairD)
  | [], _, _, _, _, .nil, _, _, _ => .nil
  | [], _, _, _, _, .cons _ _, .nil, _, _ => .nil
  | [], _, _, _, _, .cons _ _, .cons _ _, h, _ => by simp at h
  | T :: Ts, _, _, _, _, .nil, _, h, _ => by simp at h
  | T :: Ts, _, _, _, _, .cons _ _, .nil, h, _ => by simp at h
  | T :: Ts, _, _, _, _, .cons r1 t1, .cons r2 t2, h, k => by
    rw [List.zip_cons_cons, List.map_cons, List.map_cons]
    refine .cons (.tup (.inl (.inl (k 0 T _ _ rfl rfl rfl))) (.cons r1 (.cons r2 .nil))) (rds_pairs t1 t2 (by simp at h; omega) fun j T x y e1 e2 e3 => k (j + 1) T x y (by simpa using e1) (by simpa using e2) (by simpa using e3))
theorem vals_refs : ∀ Ts : List Addr, Vals (Ts.map V.ref) (Ts.map Value.ref)
  | [] => .nil
  | _ :: Ts => .cons rfl (vals_refs Ts)
theorem le_listZip {e1 e2 : Expr} {p p2 pos pos2 : Pos} {fa : AF} (hc : X.calm = true) (hg : Gl X "list") (hm : X.mg "list" = none) (hg2 : Gl X "zip") (hm2 : X.mg "zip" = none) (ha : PA X [e1, e2] (LA (gOf B X) E fa))
    (na : starEach [.Call (.Name "zip" p2) [e1, e2] [] pos2] X.env = (false, eval (.Call (.Name "zip" p2) [e1, e2] [] pos2) X.env) :: starEach [] X.env := by rfl)
    (hs : starEach [e1, e2] X.env = (false, eval e1 X.env) :: starEach [e2] X.env := by rfl) (hpl : (backTo pos2 (starEach [e2] X.env)).any (·.1) = false := by rfl) :
    PE X (.Call (.Name "list" p) [.Call (.Name "zip" p2) [e1, e2] [] pos2] [] pos) (LE (gOf B X) E (lzF fa)) := by
  refine ⟨fun pins s σ H Q I w => ?_⟩
  obtain ⟨q, env, st, rs, re, pp⟩ := w
  have w2 : LA (gOf B X) E fa σ H fun vs H1 => ∃ q1 s1 m n xs ys, Ext q H q1 H1 ∧ RS (gOf B X) q1 H1 s1 ∧ RDs (gOf B X) q1 H1 vs [.ref m, .ref n] ∧ listAt s1 m = some xs ∧ listAt s1 n = some ys ∧ min xs.length ys.length ≤ sizeLine ∧ KV (gOf B X) q H Q (.ref s1.length) (s1 ++ [.lst ((xs.zip ys).map pairD)]) := by
    refine LA.chain rs re (R.post_bind.mp pp) fun ds s1 q1 vs H1 p1 x1 rs1 re1 rd => ?_
    match ds, p1, rd with
    | [.ref m, .ref n], p1, rd =>
      simp only at p1
      split at p1
      · rename_i xs ys h1 h2
        split at p1
        · rename_i hz
          exact ⟨q1, s1, m, n, xs, ys, x1, rs1, rd, h1, h2, hz, p1⟩
        · exact False.elim p1
      · exact False.elim p1
  refine Call_ (ld_blt I hg hm boot_list (PyProof.Rows.callWith_type1 (args_cons (Call_ (ld_blt I hg2 hm2 PyProof.Rows.boot_zip (PyProof.Rows.callWith_type1 (thn (ha.run _ pins s σ H _ I w2) fun us s1 ⟨vs, H1, I1, r1, q1, st1, m, n, xs, ys, x1, rs1, rd, h1, h2, hz, kv⟩ => ?_) hs hpl))) na) na))
  obtain ⟨v1, v2, rfl, rv1, rv2⟩ := rd.two_inv
  obtain ⟨a, rfl, qa⟩ := rv1.ref_inv
  obtain ⟨b, rfl, qb⟩ := rv2.ref_inv
  obtain ⟨a', us, qa', ha', ru⟩ := rs1.listAt h1
  rw [qa] at qa'; cases qa'
  obtain ⟨b', ws, qb', hb', rw'⟩ := rs1.listAt h2
  rw [qb] at qb'; cases qb'
  cases r1 with
  | cons ra rr =>
    cases rr with
    | cons rb rr =>
      cases rr
      cases ra
      cases rb
      obtain ⟨its, rva, p1, _⟩ := I1.list ha'
      obtain ⟨its2, rvb, p2, _⟩ := I1.list hb'
      have la : a < s1.heap.objs.size := p1.lt
      have lb : b < s1.heap.objs.size := p2.lt
      have lx : its.length = xs.length := by rw [← rva.length, ru.length]
      have ly : its2.length = ys.length := by rw [← rvb.length, rw'.length]
      refine call_zip_2 p1.isList p2.isList fun h' hz' hTI hTO i1 i2 hsz hk => args_nil ?_
      have n5 : s1.heap.objs.size ≤ s1.heap.objs.size + 5 := Nat.le_add_right _ _
      refine call_list_zip (A := X.A) (h0 := s1.heap) (N := s1.heap.objs.size) (a := a) (b := b) (xs := its.toArray) (ys := its2.toArray) (I1.ok.hd hc) rfl la lb (by simp only [List.size_toArray]; rw [lx, ly]; exact hz) hsz hz' hTI hTO i1 i2 (p1.isList.at fun o e => hk _ _ e) (p2.isList.at fun o e => hk _ _ e) hk fun h2 acc c ze => ?_
      let Ts : List Addr := acc.toList.map fun v => match v with | .ref T => T | _ => 0
      have nn : ∀ j, j < min its.toArray.size its2.toArray.size ↔ j < min its.length its2.length := fun j => by simp
      have hTs : ∀ (j : Nat) (T : Addr), Ts[j]? = some T → ∃ x y x' y', acc[j]? = some (Value.ref T) ∧ us[j]? = some x ∧ ws[j]? = some y ∧ RelV x x' ∧ RelV y y' ∧ IsPair h2 T x' y' ∧ s1.heap.objs.size + 6 ≤ T := fun j T hj => by
        rw [List.getElem?_map] at hj
        obtain ⟨v, hv, e⟩ := Option.map_eq_some_iff.mp hj
        have hl : j < acc.size := by
          have := (List.getElem?_eq_some_iff.mp hv).1
          simpa using this
        obtain ⟨T', x', y', e1, e2, e3, e4, e5⟩ := ze.tups j (by rw [← ze.sz]; exact hl)
        have e6 : acc[j]? = some v := by rw [← Array.getElem?_toList]; exact hv
        rw [e1] at e6
        cases e6
        have e : T' = T := e
        subst e
        obtain ⟨x, hx, rx⟩ := Paired.at? rva (show its[j]? = some x' by simpa using e2)
        obtain ⟨y, hy, ry⟩ := Paired.at? rvb (show its2[j]? = some y' by simpa using e3)
        exact ⟨x, y, x', y', e1, hx, hy, rx, ry, e4, e5⟩
      have hlen : Ts.length = min us.length ws.length := by
        show (acc.toList.map _).length = _
        rw [List.length_map, Array.length_toList, ze.sz]
        simp [rva.length, rvb.length]
      have hacc : acc.toList = Ts.map Value.ref := by
        show acc.toList = (acc.toList.map _).map Value.ref
        rw [List.map_map]
        refine (List.map_id _).symm.trans (List.map_congr_left fun v hv => ?_)
        obtain ⟨j, hj⟩ := List.getElem?_of_mem hv
        have hl : j < acc.size := by simpa using (List.getElem?_eq_some_iff.mp hj).1
        obtain ⟨T', x', y', e1, _⟩ := ze.tups j (by rw [← ze.sz]; exact hl)
        have e6 : acc[j]? = some v := by rw [← Array.getElem?_toList]; exact hj
        rw [e1] at e6
        cases e6
        rfl
      let L : List (Addr × List V) := (Ts.zip (us.zip ws)).map fun p => (p.1, [p.2.1, p.2.2])
      have hL : ∀ p ∈ L, ∃ (j : Nat) (x y : V), Ts[j]? = some p.1 ∧ us[j]? = some x ∧ ws[j]? = some y ∧ p.2 = [x, y] := fun p hp => by
        obtain ⟨⟨T, x, y⟩, hm, rfl⟩ := List.mem_map.mp hp
        obtain ⟨j, hj⟩ := List.getElem?_of_mem hm
        obtain ⟨e1, e2⟩ := List.getElem?_zip_eq_some.mp hj
        obtain ⟨e2, e3⟩ := List.getElem?_zip_eq_some.mp e2
        exact ⟨j, x, y, e1, e2, e3, rfl⟩
      have big : ∀ p ∈ L, s1.heap.objs.size + 6 ≤ p.1 := fun p hp => by
        obtain ⟨j, x, y, e1, _⟩ := hL p hp
        obtain ⟨_, _, _, _, _, _, _, _, _, _, e⟩ := hTs j p.1 e1
        exact e
      have hLT : ∀ (j : Nat) (T : Addr) (x y : V), Ts[j]? = some T → us[j]? = some x → ws[j]? = some y → ∀ H : Hp, addT H L T = some (.tup [x, y]) := fun j T x y e1 e2 e3 H => by
        have mem : (T, [x, y]) ∈ L := List.mem_map.mpr ⟨(T, x, y), List.mem_of_getElem? (i := j) (List.getElem?_zip_eq_some.mpr ⟨e1, List.getElem?_zip_eq_some.mpr ⟨e2, e3⟩⟩), rfl⟩
        rcases addT_cases H L T with ⟨p, hp, e, h⟩ | ⟨h, _⟩
        · obtain ⟨j', x', y', f1, f2, f3, f4⟩ := hL p hp
          obtain ⟨_, _, _, _, g1, _⟩ := hTs j T e1
          obtain ⟨_, _, _, _, g2, _⟩ := hTs j' p.1 f1
          rw [e] at g2
          have := ze.dist _ _ _ g1 g2
          subst this
          rw [e2] at f2; cases f2
          rw [e3] at f3; cases f3
          rw [h, f4]
        · exact absurd rfl (h _ mem)
      have nS : ∀ p ∈ L, p.1 ≠ s1.heap.objs.size + 5 := fun p hp => Nat.ne_of_gt (Nat.lt_of_lt_of_le (Nat.lt_succ_self _) (big p hp))
      have hS0 : H1 (s1.heap.objs.size + 5) = none := I1.hok.fresh n5
      let H2 : Hp := addT (upd H1 (s1.heap.objs.size + 5) (.lst (Ts.map V.ref))) L
      have hS2 : H2 (s1.heap.objs.size + 5) = some (.lst (Ts.map V.ref)) := by
        show addT _ L _ = _
        rw [addT_out nS, upd_same]
      have hnL : ∀ p ∈ L, H1 p.1 = none := fun p hp => I1.hok.fresh (Nat.le_trans (Nat.le_add_right _ 6) (big p hp))
      have sm1 : Same H1 (upd H1 (s1.heap.objs.size + 5) (.lst (Ts.map V.ref))) := same_upd hS0
      have sm2 : Same (upd H1 (s1.heap.objs.size + 5) (.lst (Ts.map V.ref))) H2 := addT_same fun p hp => by rw [upd_ne (nS p hp)]; exact hnL p hp
      have sm : Same H1 H2 := fun b o e => sm2 b o (sm1 b o e)
      have I2 : Inv X pins σ H2 { s1 with heap := h2 } := inv_news (t' := s1.toks) I1 ze.old sm fun b o e => by
        rcases addT_cases (upd H1 (s1.heap.objs.size + 5) (.lst (Ts.map V.ref))) L b with ⟨p, hp, rfl, h⟩ | ⟨hb, h⟩
        · have e : addT _ L p.1 = some o := e
          rw [h] at e
          cases e
          obtain ⟨j, x, y, e1, e2, e3, e4⟩ := hL p hp
          obtain ⟨x0, y0, x', y', _, g2, g3, g4, g5, g6, _⟩ := hTs j p.1 e1
          rw [e2] at g2; cases g2
          rw [e3] at g3; cases g3
          rw [e4]
          exact .inr ⟨Nat.le_trans (Nat.le_add_right _ 6) (big p hp), by show 2 ≤ sizeLine; decide, [x', y'], .cons g4 (.cons g5 .nil), ⟨_, g6, rfl, _, rfl⟩⟩
        · have e : addT _ L b = some o := e
          rw [h] at e
          by_cases hbS : b = s1.heap.objs.size + 5
          · subst hbS
            rw [upd_same] at e
            cases e
            refine .inr ⟨n5, ?_⟩
            refine ⟨by rw [List.length_map, hlen, ru.length, rw'.length]; exact hz, acc.toList, c, ?_, ?_⟩
            · rw [hacc]
              exact vals_refs Ts
            · rw [Array.toArray_toList]; exact ze.S
          · rw [upd_ne hbS] at e
            exact .inl e
      refine ⟨.ref (s1.heap.objs.size + 5), H2, I2, rfl, ?_⟩
      have ex : Ext q1 H1 (q1 ++ [s1.heap.objs.size + 5]) H2 := Same.ext sm hS0
      have rs2 : RS (gOf B X) (q1 ++ [s1.heap.objs.size + 5]) H2 (st1 ++ [.lst ((xs.zip ys).map pairD)]) := by
        have rsT : RS (gOf B X) q1 (addT H1 L) st1 := rs1.same (addT_same hnL)
        have e : H2 = upd (addT H1 L) (s1.heap.objs.size + 5) (.lst (Ts.map V.ref)) := by
          funext b
          show addT _ L b = _
          by_cases hbS : b = s1.heap.objs.size + 5
          · subst hbS
            rw [addT_out nS, upd_same, upd_same]
          · rw [upd_ne hbS]
            rcases addT_cases H1 L b with ⟨p, hp, rfl, h⟩ | ⟨hb, h⟩
            · obtain ⟨j, x, y, e1, e2, e3, e4⟩ := hL p hp
              rw [h, e4]
              exact hLT j p.1 x y e1 e2 e3 _
            · rw [h, addT_out hb, upd_ne hbS]
        rw [e]
        refine rsT.new (by rw [addT_out nS]; exact hS0) ?_
        rw [← e]
        exact ⟨Ts.map V.ref, hS2, rds_pairs (ru.ext ex) (rw'.ext ex) hlen fun j T x y e1 e2 e3 => hLT j T x y e1 e2 e3 _⟩
      refine kv _ _ H2 (x1.trans ex) rs2 (.ref ?_)
      rw [← rs1.len]; simp
end
end VL

/-! VLE: != of two lists whose items are equal dicts. -/
namespace PySem.SeqAt
open PySem.Spec
open AutoSeq1 (wpAny_loadPart')
open MeetsSeq MeetsSeq2 MeetsSeq3
section
variable {prog : Program} {w : World}
theorem vl_ne_loop (l b : Addr) (items items2 : Array Value) (n n2 : Nat) (dd dd2 : Option Addr) (sl sl2 : Array (Option Value)) (hsz : items.size = items2.size) (k : Nat) :
    ∀ i : Nat, items.size - i = k → MeetsIn prog w (Builtin.«list.__eq__.loop» ⟨[.ref l, .ref b, rawInt i, rawInt 3], []⟩)
      (fun A R s => s.heap.get? l = some { cls := .type "list", dict := dd, data := .seq items n, slots := sl } ∧ s.heap.get? b = some { cls := .type "list", dict := dd2, data := .seq items2 n2, slots := sl2 } ∧
        (∀ j (h1 : j < items.size) (h2 : j < items2.size), EqP prog w A.in1 s items[j] items2[j] true) ∧
        R (.ok (.ret (.bool false))) s) := by
  induction k with
  | zero =>
    intro i hk A R s h
    obtain ⟨hp, g, d, tk, os⟩ := s
    obtain ⟨hl, hb, he, h⟩ := h
    wp_walk using wpAny_loadPart' hl, wpAny_loadPart' hb
    have q1 : items[((i : Nat) : Int).toNat]? = none := by simp; omega
    have q2 : items2[((i : Nat) : Int).toNat]? = none := by simp; omega
    rw [q1, q2]
    wp_walk using wpAny_loadPart' hl, wpAny_loadPart' hb
    show R (.ok (.ret (.bool (items.size != items2.size)))) _
    rw [hsz]
    simpa using h
  | succ k ih =>
    intro i hk A R s h
    obtain ⟨hp, g, d, tk, os⟩ := s
    obtain ⟨hl, hb, he, h⟩ := h
    wp_walk using wpAny_loadPart' hl, wpAny_loadPart' hb
    have m1 : i < items.size := by omega
    have m2 : i < items2.size := by omega
    have q1 : items[((i : Nat) : Int).toNat]? = some items[i] := by simp [m1]
    have q2 : items2[((i : Nat) : Int).toNat]? = some items2[i] := by simp [m2]
    have hc : ((i : Int) + 1) = ((i + 1 : Nat) : Int) := by push_cast; rfl
    rw [q1, q2]
    refine wpAny_bind (he i m1 m2 _ _ ?_)
    wp_walk
    rw [hc]
    exact ⟨plainId_quiet plain_eq_loop _, codeAny_builtin entry_eq_loop (by
      rw [Around.under_plainId plain_eq_loop _]
      exact ih (i + 1) (by omega) A R _ ⟨hl, hb, he, h⟩)⟩
theorem vl_list_ne (l b : Addr) (items items2 : Array Value) (n n2 : Nat) (dd dd2 : Option Addr) (sl sl2 : Array (Option Value)) (hsz : items.size = items2.size) :
    MeetsIn prog w (Builtin.«list.__ne__» ⟨[.ref l, .ref b], []⟩)
      (fun A R s => s.heap.get? l = some { cls := .type "list", dict := dd, data := .seq items n, slots := sl } ∧ s.heap.get? b = some { cls := .type "list", dict := dd2, data := .seq items2 n2, slots := sl2 } ∧
        (∀ j (h1 : j < items.size) (h2 : j < items2.size), EqP prog w A.in1 s items[j] items2[j] true) ∧
        R (.ok (.ret (.bool false))) s) := by
  intro A R s h
  obtain ⟨hp, g, d, tk, os⟩ := s
  obtain ⟨hl, hb, he, h⟩ := h
  have f3 := AutoSeq1.sub_list_list
  have hne : ¬ (items.size != items2.size) = true := by simp [hsz]
  wp_walk using wpAny_loadPart' hl, wpAny_loadPart' hb
  exact ⟨plainId_quiet plain_eq_loop _, codeAny_builtin entry_eq_loop (by
    rw [Around.under_plainId plain_eq_loop _]
    exact vl_ne_loop l b items items2 n n2 dd dd2 sl sl2 hsz _ 0 rfl A R _ ⟨hl, hb, he, h⟩)⟩
theorem vl_ne_lists {A : Around} {s : Shared} {l b : Addr} {items items2 : Array Value} (hl : s.heap.IsList l items) (hb : s.heap.IsList b items2) (hsz : items.size = items2.size) (hu : A.units < cLine)
    (he : ∀ j (h1 : j < items.size) (h2 : j < items2.size), EqP prog w A.in1 s items[j] items2[j] true) (E Q : Value → Shared → Prop) (h : Q (.bool false) s) : wpAny (model prog w) A (richCompare .NotEq (.ref l) (.ref b)) Q E s := by
  obtain ⟨⟨cls, dd, data, sl⟩, ho, hc, n, hd⟩ := id hl
  obtain ⟨⟨cls2, dd2, data2, sl2⟩, ho2, hc2, n2, hd2⟩ := id hb
  simp only at hc hd hc2 hd2
  subst hc hd hc2 hd2
  have ta : s.TypeIs (.ref l) "list" := ⟨_, ho, rfl⟩
  have tb : s.TypeIs (.ref b) "list" := ⟨_, ho2, rfl⟩
  exact wpAny_richCompare_same_room (op := .NotEq) ta tb F.slot_list_ne (call_meetsIn F.slot_list_ne ta F.entry_list_ne (F.args_list_ne_2 _ _) (vl_list_ne l b items items2 n n2 dd dd2 sl sl2 hsz)
    ⟨ho, ho2, he, show Value.bool false ≠ Value.notImplemented ∧ Q (.bool false) s from ⟨(fun x => nomatch x), h⟩⟩) hu
end
end PySem.SeqAt
namespace VL
open PySem PySem.Spec PyProof.Rows L2 LamX NdefX
variable {B : Tb}
section
variable {X : Cx} {E : XK}
def flD : D → Bool
  | .non => true
  | .bl _ => true
  | .int _ => true
  | .str _ => true
  | _ => false
theorem flD_of {g : G} {q : List Addr} {H : Hp} {v w : V} {d : D} (r : RD g q H v d) (r' : RD g q H w d) (h : flD d = true) : v = w ∧ flatB v = true := by
  cases d with
  | non => rw [r.non_inv, r'.non_inv]; exact ⟨rfl, rfl⟩
  | bl b => rw [r.bl_inv, r'.bl_inv]; exact ⟨rfl, rfl⟩
  | int i => rw [r.int_inv, r'.int_inv]; exact ⟨rfl, rfl⟩
  | str x => rw [r.str_inv, r'.str_inv]; exact ⟨rfl, rfl⟩
  | _ => cases h
theorem dK_inj {a b : Key} (h : dK a = dK b) : a = b := by cases a <;> cases b <;> cases h <;> rfl
theorem same_vals {g : G} {q : List Addr} {H : Hp} : ∀ {kvs : List (D × D)} {ks ls : List (Key × V)}, Paired (PK g q H) kvs ks → Paired (PK g q H) kvs ls → (kvs.map (·.1)).Nodup → (∀ p ∈ kvs, flD p.2 = true) → ∀ p ∈ ks, ∃ u, valV ls p.1 = some u ∧ p.2 = u ∧ flatB p.2 = true
  | _, _, _, .nil, .nil, _, _, p, hp => nomatch hp
  | _, _, _, .cons (a := a) (b := b) h t, .cons (b := c) h' t', nd, fl, p, hp => by
    rw [List.map_cons, List.nodup_cons] at nd
    have ec : c.1 = b.1 := dK_inj (h'.1.symm.trans h.1)
    rcases List.mem_cons.mp hp with rfl | hp
    · obtain ⟨e1, e2⟩ := flD_of h.2 h'.2 (fl _ List.mem_cons_self)
      exact ⟨c.2, valV_pos ec, e1, e2⟩
    · obtain ⟨u, e1, e2⟩ := same_vals t t' nd.2 (fun p hp => fl p (List.mem_cons_of_mem _ hp)) p hp
      refine ⟨u, ?_, e2⟩
      rw [valV_neg]
      · exact e1
      · intro e
        obtain ⟨i, hi⟩ := List.getElem?_of_mem hp
        obtain ⟨x, hx, hx2⟩ := Paired.at? t hi
        exact nd.1 (List.mem_map.mpr ⟨x, List.mem_of_getElem? hx, by rw [hx2.1, h.1, ← ec, e]⟩)
def SameDic (st : Sto) (x y : D) : Prop := ∃ i j kvs, x = .ref i ∧ y = .ref j ∧ st[i]? = some (.dic kvs) ∧ st[j]? = some (.dic kvs) ∧ keysOk kvs = true ∧ (kvs.map (·.1)).Nodup ∧ ∀ p ∈ kvs, flD p.2 = true
open Classical in
/-- two lists of dicts that are equal: not unlike -/
noncomputable def neLD : D → D → Sto → R D := fun x y st => if ∃ m n xs ys, x = .ref m ∧ y = .ref n ∧ listAt st m = some xs ∧ listAt st n = some ys ∧ Paired (SameDic st) xs ys then .ok (.bl false) st else .bad
theorem neLD_ok {st : Sto} {m n : Nat} {xs ys : List D} (h1 : listAt st m = some xs) (h2 : listAt st n = some ys) (h : Paired (SameDic st) xs ys) : neLD (.ref m) (.ref n) st = .ok (.bl false) st := if_pos ⟨m, n, xs, ys, rfl, rfl, h1, h2, h⟩
theorem items_eqV {q : List Addr} {H : Hp} {st : Sto} {g : G} (rs : RS g q H st) : ∀ {xs ys : List D} {us ws : List V}, Paired (SameDic st) xs ys → RDs g q H us xs → RDs g q H ws ys → Paired (EqV g.K H 2) us ws
  | _, _, _, _, .nil, .nil, .nil => .nil
  | _, _, _, _, .cons h t, .cons r1 t1, .cons r2 t2 => by
    refine .cons ?_ (items_eqV rs t t1 t2)
    obtain ⟨i, j, kvs, rfl, rfl, h1, h2, hk, nd, fl⟩ := h
    obtain ⟨a, rfl, qa⟩ := r1.ref_inv
    obtain ⟨b, rfl, qb⟩ := r2.ref_inv
    obtain ⟨a', ks, qa', ha, pa⟩ := rs.dicK h1 hk
    rw [qa] at qa'; cases qa'
    obtain ⟨b', ls, qb', hb, pb⟩ := rs.dicK h2 hk
    rw [qb] at qb'; cases qb'
    refine .inr (.inr (.inr ⟨a, b, ks, ls, rfl, rfl, ha, hb, by rw [← pa.length, ← pb.length], fun p hp => ?_⟩))
    obtain ⟨u, e1, e2, e3⟩ := same_vals pa pb nd fl p hp
    exact ⟨u, e1, .inl ⟨e2, e3⟩⟩
theorem op_neLD (hu : X.A.units + 64 < cLine) : OpR X (compareOp .NotEq) (LR (gOf B X) E neLD) := fun pins s σ H x y v u Q I rx ry w => by
  obtain ⟨q, st, a, b, rs, ra, rb, p⟩ := w
  unfold neLD at p
  split at p
  · rename_i h
    obtain ⟨m, n, xs, ys, rfl, rfl, h1, h2, hp⟩ := h
    obtain ⟨a, rfl, qa⟩ := ra.ref_inv
    obtain ⟨b, rfl, qb⟩ := rb.ref_inv
    obtain ⟨a', us, qa', ha, ru⟩ := rs.listAt h1
    rw [qa] at qa'; cases qa'
    obtain ⟨b', ws, qb', hb, rw'⟩ := rs.listAt h2
    rw [qb] at qb'; cases qb'
    cases (show v = Value.ref a from rx)
    cases (show u = Value.ref b from ry)
    obtain ⟨its, r1, p1, _⟩ := I.list ha
    obtain ⟨its2, r2, p2, _⟩ := I.list hb
    have pv := items_eqV rs hp ru rw'
    refine PySem.SeqAt.vl_ne_lists p1.isList p2.isList ?_ (by omega) (fun j h1 h2 => ?_) _ _ ⟨.bl false, H, I, rfl, p q _ H Ext.refl rs (.bl _)⟩
    · rw [List.size_toArray, List.size_toArray, ← r1.length, ← r2.length]
      exact pv.length
    · have k := items_run (fun x y v u h r1 r2 => eqV_run I 2 X.A.in1 (by show X.A.units + 1 + 2 < cLine; omega) x y v u h r1 r2) pv r1 r2 j (by simpa using h1) (by simpa using h2)
      simpa using k
  · exact False.elim p
theorem le_disp1 {k v : Expr} {fk fv : EF} {pos : Pos} (hk : PE X k (LE (gOf B X) E fk)) (hv : PE X v (LE (gOf B X) E fv)) : PE X (.Dict [some k] [v] pos) (LE (gOf B X) E (disp1F fk fv)) := (pe_disp (pps_cons hk hv pps_nil) rfl rfl (by simp) (by simp)).imp fun sg H Q w p hp => by
  obtain ⟨q, env, st, rs, re, k⟩ := w
  obtain ⟨e0, rs0, r0⟩ := dic_new rs hp
  refine LE.chain rs0 (re.ext e0) ((R.post_bind.mp k).imp (fun _ _ h => h) fun _ _ h => h.ext e0) fun x s1 q1 u H1 k e1 rs1 re1 rx => ?_
  refine LE.chain rs1 re1 ((R.post_bind.mp k).imp (fun _ _ h => h) fun _ _ h => h.ext (e0.trans e1)) fun y s2 q2 t H2 k e2 rs2 re2 ry => ?_
  split at k
  · rename_i hs
    split at k
    · rename_i hok
      have qp : q2[st.length]? = some p := by
        refine e2.at (e1.at ?_)
        rw [← rs.len]; simp
      obtain ⟨a, gs, qa, ha, hp2⟩ := rs2.dicK hs rfl
      rw [qp] at qa; cases qa
      cases hp2
      obtain ⟨kk, rfl, rfl⟩ := isKD_of (rx.ext e2) hok
      have mu : Mut (H2 p) := by rw [ha]; trivial
      obtain ⟨rs4, e4⟩ := rs2.put' (u := .dK (mergeK [] [(kk, t)])) (o := .dic [(dK kk, y)]) qp (fun zs e => by rw [hs] at e; cases e) mu (fun φ e => by rw [ha] at e; cases e) (fun ps e => by cases e) fun ext =>
        .inl ⟨[(kk, t)], upd_same, .cons ⟨rfl, ry.ext ext⟩ .nil⟩
      exact ⟨ha, [(kk, t)], rfl, by simp, k q2 _ _ (e0.trans (e1.trans (e2.trans e4))) rs4 (.ref qp)⟩
    · exact False.elim k
  · exact False.elim k
theorem uu {n c : Nat} (h : n + 64 < c) : n + 1 < c := by omega
end
end VL

/-! VLQ: defs that raise, calls of them, raise, try: one call, except as with isinstance asked; max of a list; != of dicts; == of lists; chains. -/
namespace VL
open PySem PySem.Spec PyProof.Rows L2
variable {B : Tb}
section
variable {P : Program} {w : World} {K : PySem.W.Frag} {mg : Str → Option Value} {base : Heap}
/-- a def that may raise -/
theorem fn1 {x qual : Str} {st : Stmt} {f : Addr} {fd : FuncData} {N ps : List Str} {k n m : Nat} {fb : SF} (F : Fun K x qual st f fd) (S : FnScope N ps (defScope st)) (hn : N.length = n) (hm : ps.length = m)
    (body : ∀ (cdv : Value) (A : Around) (outer : List Env) (s : Shared) (H : Hp) (E : XK), Room k (A.deeper (envOfC qual (defScope st) s.heap.objs.size f cdv)) →
      PSs (cxOf (L2.CX P w) P w K mg base N qual (defScope st) f cdv A outer s H E) (defBody st) (LS ⟨P, w, K, mg, B⟩ E fb)) : FnOk P w K mg base (L2.CX P w) (k + 1) f fd ps (SpD ⟨P, w, K, mg, B⟩ m (fnF n fb)) :=
  F.okX S (fun vs H Q E h => h.1.trans hm.symm) fun cdv A outer s H vs Q E hr h => ⟨_, body cdv A outer s H E hr, fn_le hn h.2⟩
theorem fn_badX {k m : Nat} {f : Addr} {fd : FuncData} {ps : List Str} {CX : CXT} (hm : ps.length = m) : FnOk P w K mg base CX k f fd ps (SpD ⟨P, w, K, mg, B⟩ m fun _ _ => .bad) :=
  ⟨fun vs H Q E h => h.1.trans hm.symm, fun A outer s H args us vs Q E hr he hb hv h => by
    obtain ⟨_, q, st, ds, _, _, p⟩ := h
    exact False.elim p⟩
end
section
variable {X : Cx} {E : XK}
/-- a call of a def that raises nothing, where others may -/
def callN (f : Fn) (fa : AF) : EF := fun env st => (fa env st).bind fun ds s => (f ds s).noex
theorem le_callN {k n : Nat} {f : Addr} {fd : FuncData} {ps : List Str} {fn : Fn} {x : Str} {p pos : Pos} {e : Expr} {es : List Expr} {fa : AF} (F : FnOk X.prog X.w X.K X.mg X.base CX0 k f fd ps (Sp0 (gOf B X) n fn)) (hr : Room k X.A) (hm : X.mg x = some (.ref f)) (hk : PySem.W.keepIn X.K (.ref f) = true) (hb : Binds X.K fd ps [])
    (ha : PA X (e :: es) (LA (gOf B X) E fa)) (hla : ∀ env st ds s, fa env st = .ok ds s → ds.length = n) (hg : Gl X x := by rfl) (hdb : (x == ("__debug__" : Str)) = false := by decide) (he : starEach (e :: es) X.env = (false, eval e X.env) :: starEach es X.env := by rfl) (hpl : (backTo pos (starEach es X.env)).any (·.1) = false := by rfl) :
    PE X (.Call (.Name x p) (e :: es) [] pos) (LE (gOf B X) E (callN fn fa)) :=
  (pe_call F hr hg hm hk hb .nil pass0 ha hdb he hpl).imp fun sg H Q w => by
    obtain ⟨q, env, st, rs, re, p⟩ := w
    have p := R.post_bind.mp p
    have p' : (fa env st).post (fun ds s => ds.length = n ∧ (fn ds s).post (KV (gOf B X) q H Q) (KX (gOf B X) q H E0)) (KX (gOf B X) q H E) := by
      cases hfa : fa env st with
      | ok ds s => rw [hfa] at p; exact ⟨hla _ _ _ _ hfa, R.post_noex p⟩
      | ex c s => rw [hfa] at p; exact p
      | bad => rw [hfa] at p; exact p
    refine LA.chain rs re p' fun xs s1 q1 vs H1 p e1 rs1 re1 rx => ?_
    rw [List.append_nil]
    exact ⟨by rw [rx.length]; exact p.1, q1, s1, xs, rs1, rx, p.2.imp (fun _ _ h => h.ext e1) fun _ _ h => h.ext e1⟩
/-- a call of a def that may raise -/
theorem le_callQ {k n : Nat} {f : Addr} {fd : FuncData} {ps : List Str} {fn : Fn} {x : Str} {p pos : Pos} {e : Expr} {es : List Expr} {fa : AF} (F : FnOk X.prog X.w X.K X.mg X.base (L2.CX X.prog X.w) k f fd ps (SpD (gOf B X) n fn)) (hr : Room k X.A) (hm : X.mg x = some (.ref f)) (hk : PySem.W.keepIn X.K (.ref f) = true) (hb : Binds X.K fd ps []) (tk : Takes X (fun cls d _ H => E cls d H))
    (ha : PA X (e :: es) (LA (gOf B X) E fa)) (hla : ∀ env st ds s, fa env st = .ok ds s → ds.length = n) (hg : Gl X x := by rfl) (hdb : (x == ("__debug__" : Str)) = false := by decide) (he : starEach (e :: es) X.env = (false, eval e X.env) :: starEach es X.env := by rfl) (hpl : (backTo pos (starEach es X.env)).any (·.1) = false := by rfl) :
    PE X (.Call (.Name x p) (e :: es) [] pos) (LE (gOf B X) E (callF fn fa)) :=
  (pe_callS (E := fun _ => E) F hr hg hm hk hb (fun σ => passAt tk σ) ha hdb he hpl).imp fun sg H Q w => by
    obtain ⟨q, env, st, rs, re, p⟩ := w
    have p := R.post_bind.mp p
    have p' : (fa env st).post (fun ds s => ds.length = n ∧ (fn ds s).post (KV (gOf B X) q H Q) (KX (gOf B X) q H E)) (KX (gOf B X) q H E) := by
      cases hfa : fa env st with
      | ok ds s => rw [hfa] at p; exact ⟨hla _ _ _ _ hfa, p⟩
      | ex c s => rw [hfa] at p; exact p
      | bad => rw [hfa] at p; exact p
    refine LA.chain rs re p' fun xs s1 q1 vs H1 p e1 rs1 re1 rx => ?_
    exact ⟨by rw [rx.length]; exact p.1, q1, s1, xs, rs1, rx, p.2.imp (fun _ _ h => h.ext e1) fun _ _ h => h.ext e1⟩
/-! ### raise -/
def exS (c : Str) : SF := fun _ st => .ex c st
/-- what K says of a class of exceptions of the program -/
structure ExcR (K : PySem.W.Frag) (C : Addr) (bmB : List Value) (newId : String) : Prop where
  q : PySem.W.excIn K C bmB newId = true
  kp : PySem.W.keepIn K (.ref C) = true
  sb : PySem.W.subIn K (.ref C) (.type "BaseException") = some true
  ty : PySem.W.typeIn K (.ref C) = some (.type "type")
theorem ls_raise {x m : Str} {C : Addr} {bmB : List Value} {Bh : _} {newId initId : String} {j : Nat} {p p2 pos pos' : Pos} (hc : X.calm = true) (tk : Takes X (fun cls d _ H => E cls d H)) (F : ExcBaseFacts Bh newId initId bmB) (gC : X.mg x = some (.ref C)) (r : ExcR X.K C bmB newId) (hg : Gl X x := by rfl) (hdb : (x == ("__debug__" : Str)) = false := by decide) :
    PS X (.Raise (some (.Call (.Name x p) [.Constant (.str m) j p2] [] pos)) none pos') (LS (gOf B X) E (exS x)) :=
  (ps_raise hc tk (pmk_own F r.q gC r.kp (raises_own r.sb r.ty) hg hdb)).imp fun T sg H w => by
    obtain ⟨q, env, st, rs, re, p⟩ := w
    exact p q H C Ext.refl rs gC
/-! ### try: y = f(..), except X as e: z = [isinstance(e, ..), ..] -/
def tIs (K : PySem.W.Frag) (D a : Addr) (i : Nat) (c : V) : TE := tCB (rIsE K D a) (tCons (tVar i) (tCons (tC c) tNil))
def tIsA (K : PySem.W.Frag) (D a : Addr) (i : Nat) : List V → TA
  | [] => tNil
  | c :: r => tCons (tIs K D a i c) (tIsA K D a i r)
/-- of an exception of the class D, the asked classes are told bs -/
def KitAll (K : PySem.W.Frag) (D : Addr) (cs : List V) (bs : List Bool) : Prop := Paired (fun c b => ∃ cv, (∀ u, RelV c u → u = cv) ∧ PySem.W.kitOne K (.ref D) cv = some b) cs bs
theorem tIsA_all {K : PySem.W.Frag} {D a : Addr} {i : Nat} {sg : L2.St} {H : Hp} (hs : sg[i]? = some (some (.ref a))) : ∀ {cs : List V} {bs : List Bool} {Q : List V → Hp → Prop}, KitAll K D cs bs → Q (bs.map V.bl) H → tIsA K D a i cs sg H Q
  | _, _, Q, .nil, h => h
  | _, _, Q, .cons (a := c) (b := b) hc t, h => by
    obtain ⟨cv, h1, h2⟩ := hc
    refine ⟨_, hs, c, cv, b, rfl, h1, h2, ?_⟩
    exact tIsA_all hs t (Q := fun xs H' => Q (V.bl b :: xs) H') h
theorem ps_when {s : Stmt} {α : Type} {p : α → Prop} {t : α → TS} (h : ∀ a, p a → PS X s (t a)) : PS X s (fun T sg H => ∃ a, p a ∧ t a T sg H) := ⟨fun pins s σ H D I ⟨a, k, w⟩ => (h a k).run pins s σ H D I w⟩
theorem pss_when {s : List Stmt} {α : Type} {p : α → Prop} {t : α → TS} (h : ∀ a, p a → PSs X s (t a)) : PSs X s (fun T sg H => ∃ a, p a ∧ t a T sg H) := ⟨fun pins s σ H D I ⟨a, k, w⟩ => (h a k).run pins s σ H D I w⟩
theorem kit_ref {K : PySem.W.Frag} {C D : Addr} {b : Bool} (hd : PySem.W.hasDictIn K C = true) (ht : PySem.W.typeIn K (.ref C) = some (.type "type")) (hs : PySem.W.subIn K (.ref C) (.ref C) = some true) (h : PySem.W.subIn K (.ref D) (.ref C) = some b) : PySem.W.kitOne K (.ref D) (.ref C) = some b := by
  unfold PySem.W.kitOne
  split
  · rename_i e
    have e2 : D = C := by
      have := beq_iff_eq.mp e
      injection this
    subst e2
    rw [hs] at h
    exact h
  · obtain ⟨cd, hc, _⟩ := PySem.W.any_some hd
    have e2 : ((PySem.W.clsIn K C).isSome && PySem.W.typeIn K (.ref C) == some (.type "type")) = true := by rw [hc, ht] <;> rfl
    show (if ((PySem.W.clsIn K C).isSome && PySem.W.typeIn K (.ref C) == some (.type "type")) = true then PySem.W.subIn K (.ref D) (.ref C) else none) = some b
    rw [if_pos e2]
    exact h
theorem kit_VE {K : PySem.W.Frag} {D : Addr} {b : Bool} (h : PySem.W.subIn K (.ref D) (.type "ValueError") = some b) : PySem.W.kitOne K (.ref D) (.type "ValueError") = some b := by
  unfold PySem.W.kitOne
  split
  · rename_i e
    have := beq_iff_eq.mp e
    cases this
  · show (if PySem.W.kitMeta "ValueError" = true then PySem.W.subIn K (.ref D) (.type "ValueError") else none) = some b
    rw [if_pos (by decide)]
    exact h
/-- behind the call -/
def tryKK (i ie j : Nat) (kinds : Str → Option (List Bool)) (env : EnvD) (r : R D) : R Fl := match r with
  | .ok d s' => .ok (.nx (env.set i (some d))) s'
  | .ex c s' => (match kinds c with
    | some bs => if ie < env.length then .ok (.nx ((env.set j (some (.ref s'.length))).set ie none)) (s' ++ [.lst (bs.map D.bl)]) else .bad
    | none => .bad)
  | .bad => .bad
def tryKS (i ie j : Nat) (fn : Fn) (fa : AF) (kinds : Str → Option (List Bool)) : SF := fun env st => (fa env st).noex.bind fun ds s => tryKK i ie j kinds env (fn ds s)
theorem bls {g : G} {q : List Addr} {H : Hp} : ∀ bs : List Bool, RDs g q H (bs.map V.bl) (bs.map D.bl)
  | [] => .nil
  | b :: bs => .cons (.bl b) (bls bs)
theorem RE.unset {g : G} {q : List Addr} {H : Hp} {sg : L2.St} {env : EnvD} (r : RE g q H sg env) (i : Nat) : RE g q H (sg.set i none) (env.set i none) := Paired.set_ (fun x e => nomatch e) i r
theorem RE.over {g : G} {q : List Addr} {H : Hp} {sg : L2.St} {env : EnvD} (r : RE g q H sg env) (i : Nat) (v : Option V) : RE g q H (sg.set i v) (env.set i none) := Paired.set_ (fun x e => nomatch e) i r
/-- what the text needs of the classes -/
structure KindsOk (X : Cx) (cV : Value) (cs : List V) (kinds : Str → Option (List Bool)) : Prop where
  at_ : ∀ c bs, kinds c = some bs → ∃ D, X.mg c = some (.ref D) ∧ PySem.W.exmOne X.K (.ref D) cV = some true ∧ ExcC X.K D ∧ KitAll X.K D cs bs ∧ bs.length ≤ sizeLine
theorem ls_tryK {i ie j k n : Nat} {y z en xV : Str} {py pz p pos pos' np spos bpos tpos : Pos} {f : Addr} {fd : FuncData} {ps : List Str} {fn : Fn} {x : Str} {e : Expr} {es ts : List Expr} {fa : AF} {kinds : Str → Option (List Bool)} {cV : Value} {cs : List V} {lpos : Pos}
    (hs : X.stack = X.env :: X.outer) (hf : X.env.frame = some X.env.locals) (hN : X.N.Nodup) (hie : X.N[ie]? = some en) (hln : X.env.kindOf en = some .local) (hc : Names X xV cV) (tk : Takes X (fun _ _ _ _ => False))
    (F : FnOk X.prog X.w X.K X.mg X.base (L2.CX X.prog X.w) k f fd ps (SpD (gOf B X) n fn)) (hr : Room k X.A) (hm : X.mg x = some (.ref f)) (hk : PySem.W.keepIn X.K (.ref f) = true) (hb : Binds X.K fd ps [])
    (ha : ∀ (pn : List (Addr × Obj)) (xe : Value → Shared → Prop), PA (X.tr pn xe) (e :: es) (LA (gOf B X) E0 fa)) (hla : ∀ env st ds s, fa env st = .ok ds s → ds.length = n)
    (ho : KindsOk X cV cs kinds)
    (ht : ∀ (D a : Addr) (oe : Obj) (pn : List (Addr × Obj)), ExcC X.K D → Zc (.ref D) none oe → (∃ vs, oe.data = .fields vs) → PA (X.suite a ((a, oe) :: pn)) ts (tIsA X.K D a ie cs))
    (hi : X.N[i]? = some y) (hx : Loc X.env.scope y) (hj : X.N[j]? = some z) (hxz : Loc X.env.scope z) (hij : ie ≠ j)
    (hfy : X.fn y = true ∨ X.env.scope.names.lookup y = some .local := by first | exact .inl rfl | exact .inr rfl) (hfz : X.fn z = true ∨ X.env.scope.names.lookup z = some .local := by first | exact .inl rfl | exact .inr rfl)
    (hg : Gl X x := by rfl) (hdb : (x == ("__debug__" : Str)) = false := by decide) (he : starEach (e :: es) X.env = (false, eval e X.env) :: starEach es X.env := by rfl) (hpl : (backTo pos (starEach es X.env)).any (·.1) = false := by rfl)
    (hsw : swapsWith (.Call (.Name x p) (e :: es) [] pos) (some (.Name y py)) spos.line X.env = pure false := by rfl) (hsw2 : swapsWith (.List ts lpos) (some (.Name z pz)) bpos.line X.env = pure false := by rfl) :
    PS X (.Try [.Assign [.Name y py] (.Call (.Name x p) (e :: es) [] pos) spos] [.ExceptHandler (some (.Name xV np)) (some en) [.Assign [.Name z pz] (.List ts lpos) bpos] pos'] [] [] tpos) (LS (gOf B X) E0 (tryKS i ie j fn fa kinds)) := by
  refine (ps_try_as (i := ie) (tb := fun W => tAsg (tCallS (SpD (gOf B X) n fn) (WE W) (LA (gOf B X) E0 fa)) (gName i)) (ts := fun a cls d => fun T sg H => ∃ D : Addr, (cls = .ref D ∧ d = none ∧ ExcC X.K D) ∧ tAsg (tLst (tIsA X.K D a ie cs)) (gName j) T sg H) (Wout := fun _ _ _ _ => False) hs hf hN hie hln hc tk
    (fun W pn xe tk _ => pss_one (ps_set (i := i) hN hi hx (pe_callS (X := X.tr pn xe) (E := WE W) F hr hg hm hk hb (fun σ => passAt tk σ) (ha pn xe) hdb he hpl) hsw hfy))
    (fun a oe cls d pn hz hfl => pss_when fun D h => by
      obtain ⟨rfl, rfl, hC⟩ := h
      exact pss_one (ps_set (X := X.suite a ((a, oe) :: pn)) (i := j) hN hj hxz (pe_lst (ht D a oe pn hC hz hfl)) hsw2 hfz))).imp fun T sg H w => ?_
  obtain ⟨q, env, st, rs, re, p⟩ := w
  have p2 : (fa env st).post (fun ds s => ds.length = n ∧ (tryKK i ie j kinds env (fn ds s)).post (KS (gOf B X) q H T) (KX (gOf B X) q H E0)) (KX (gOf B X) q H E0) := by
    unfold tryKS at p
    cases hfa : fa env st with
    | ok ds s => rw [hfa] at p; exact ⟨hla _ _ _ _ hfa, p⟩
    | ex c s => rw [hfa] at p; exact False.elim p
    | bad => rw [hfa] at p; exact False.elim p
  refine LA.chain rs re p2 fun ds s1 q1 vs H1 p e1 rs1 re1 rx => ?_
  obtain ⟨hl, p⟩ := p
  refine ⟨by rw [rx.length]; exact hl, q1, s1, ds, rs1, rx, ?_⟩
  cases hfn : fn ds s1 with
  | bad => rw [hfn] at p; exact False.elim p
  | ok d s' =>
    rw [hfn] at p
    intro q2 v H2 e2 rs2 rd
    exact p q2 H2 (e1.trans e2) rs2 _ ((re1.ext e2).set rd)
  | ex c s' =>
    rw [hfn] at p
    intro q2 H2 C e2 rs2 hmc
    cases hk : kinds c with
    | none => simp only [tryKK, hk] at p; exact False.elim p
    | some bs =>
      simp only [tryKK, hk] at p
      split at p
      case isFalse => exact False.elim p
      rename_i lie
      obtain ⟨D, hmD, hx1, hC, hkit, hsz⟩ := ho.at_ c bs hk
      have hDC : D = C := by
        have : X.mg c = some (.ref C) := hmc
        rw [hmD] at this; injection this with this; injection this
      subst hDC
      refine ⟨true, hx1, fun _ a _ => ⟨D, ⟨rfl, rfl, hC⟩, ?_⟩, fun z => nomatch z⟩
      have re2 := re1.ext e2
      have lie : ie < sg.length := by rw [Paired.length re]; exact lie
      refine tIsA_all (bs := bs) (by rw [List.getElem?_set_self lie]) hkit ⟨by rw [List.length_map]; exact hsz, fun p' hp' => ?_⟩
      obtain ⟨e3, rs3, r3⟩ := lst_new rs2 hp' (bls bs)
      refine p _ _ (e1.trans (e2.trans e3)) rs3 _ ?_
      have re3 := ((RE.over (re2.ext e3) ie (some (V.ref a))).set (i := j) r3).unset ie
      have ee : ((env.set ie none).set j (some (VL.D.ref s'.length))).set ie none = (env.set j (some (VL.D.ref s'.length))).set ie none := by
        rw [List.set_comm _ _ hij, List.set_set]
      rw [ee] at re3
      exact re3
/-! ### max of a list of ints -/
def maxLD : List D → Sto → R D
  | [.ref n], st => match (listAt st n).bind intsO with
    | some (i :: is) => .ok (.int (is.foldl max i)) st
    | _ => .bad
  | _, _ => .bad
theorem foldl_max_ge : ∀ (is : List Int) (i : Int), i ≤ is.foldl max i ∧ ∀ y ∈ is, y ≤ is.foldl max i
  | [], i => ⟨Int.le_refl _, fun y h => by cases h⟩
  | x :: is, i => by
    obtain ⟨h1, h2⟩ := foldl_max_ge is (max i x)
    refine ⟨Int.le_trans (Int.le_max_left i x) h1, fun y hy => ?_⟩
    rcases List.mem_cons.mp hy with rfl | hy
    · exact Int.le_trans (Int.le_max_right i y) h1
    · exact h2 y hy
theorem foldl_max_mem : ∀ (is : List Int) (i : Int), is.foldl max i = i ∨ is.foldl max i ∈ is
  | [], i => .inl rfl
  | x :: is, i => by
    rcases foldl_max_mem is (max i x) with h | h
    · show is.foldl max (max i x) = i ∨ is.foldl max (max i x) ∈ x :: is
      rw [h]
      by_cases hx : x ≤ i
      · left; exact Int.max_eq_left hx
      · right; rw [Int.max_eq_right (by omega)]; exact List.mem_cons_self
    · exact .inr (List.mem_cons_of_mem _ h)
theorem call_maxLD (hc : X.calm = true) : CallR X (.builtin "max") (LC (gOf B X) E maxLD) := (cr_max hc).imp fun vs H Q w => by
  obtain ⟨q, st, ds, rs, rd, p⟩ := w
  unfold maxLD at p
  split at p
  · split at p
    · rename_i i is h
      obtain ⟨xs, h1, h2⟩ := Option.bind_eq_some_iff.mp h
      obtain ⟨v, rfl, r⟩ := rd.one_inv
      obtain ⟨a, rfl, qa⟩ := r.ref_inv
      obtain ⟨b, us, qb, hs, ru⟩ := rs.listAt h1
      rw [qa] at qb; cases qb
      refine ⟨a, i :: is, rfl, ?_, by simp, fun m hm hy => ?_⟩
      · rw [← ru.ints_ h2]; exact hs
      · have e : m = is.foldl max i := by
          obtain ⟨g1, g2⟩ := foldl_max_ge is i
          have l1 : m ≤ is.foldl max i := by
            rcases List.mem_cons.mp hm with rfl | hm
            · exact g1
            · exact g2 m hm
          have l2 : is.foldl max i ≤ m := by
            rcases foldl_max_mem is i with h | h
            · rw [h]; exact hy _ List.mem_cons_self
            · exact hy _ (List.mem_cons_of_mem _ h)
          omega
        rw [e]
        exact p q _ H Ext.refl rs (.int _)
    · exact False.elim p
  · exact False.elim p
/-! ### two equal dicts: not unlike -/
theorem uv {n c : Nat} (h : n + 64 < c) : n < c := by omega
open Classical in
noncomputable def neDC : D → D → Sto → R D := fun x y st => if SameDic st x y then .ok (.bl false) st else .bad
theorem op_neDC (hu : X.A.units < cLine) : OpR X (compareOp .NotEq) (LR (gOf B X) E neDC) := (op_ne_dictA hu).imp fun x y H Q w => by
  obtain ⟨q, st, a, b, rs, ra, rb, p⟩ := w
  unfold neDC at p
  split at p
  · rename_i h
    obtain ⟨i, j, kvs, rfl, rfl, h1, h2, hk, nd, fl⟩ := h
    obtain ⟨a, rfl, qa⟩ := ra.ref_inv
    obtain ⟨b, rfl, qb⟩ := rb.ref_inv
    obtain ⟨a', ks, qa', ha, pa⟩ := rs.dicK h1 hk
    rw [qa] at qa'; cases qa'
    obtain ⟨b', ls, qb', hb, pb⟩ := rs.dicK h2 hk
    rw [qb] at qb'; cases qb'
    refine ⟨a, b, ks, ls, rfl, rfl, ha, hb, by rw [← pa.length, ← pb.length], fun p hp => ?_, p q _ H Ext.refl rs (.bl _)⟩
    obtain ⟨u, e1, e2, e3⟩ := same_vals pa pb nd fl p hp
    exact ⟨by rw [e1, e2], e3⟩
  · exact False.elim p
/-! ### lists of truths are equal -/
def truO : List D → Option (List Bool)
  | [] => some []
  | .bl b :: r => (truO r).map fun bs => b :: bs
  | _ => none
theorem truO_map : ∀ bs : List Bool, truO (bs.map D.bl) = some bs
  | [] => rfl
  | b :: bs => by rw [List.map_cons, truO, truO_map bs]; rfl
theorem RDs.truO_ {g : G} {q : List Addr} {H : Hp} : ∀ {vs : List V} {ds : List D} {bs : List Bool}, RDs g q H vs ds → truO ds = some bs → vs = bs.map V.bl
  | _, _, _, .nil, h => by cases h; rfl
  | v :: vs, d :: ds, bs, .cons r t, h => by
    cases d with
    | bl b =>
      obtain ⟨js, h1, rfl⟩ := Option.map_eq_some_iff.mp (show (truO ds).map (fun bs => b :: bs) = some bs from h)
      rw [r.bl_inv, RDs.truO_ t h1]
      rfl
    | _ => cases h
def eqBL : D → D → Sto → R D
  | .ref m, .ref n, st => match (listAt st m).bind truO, (listAt st n).bind truO with
    | some bs, some cs => if bs = cs then .ok (.bl true) st else .bad
    | _, _ => .bad
  | _, _, _ => .bad
theorem eqv_bls {K : PySem.W.Frag} {H : Hp} : ∀ bs : List Bool, Paired (EqV K H 1) (bs.map V.bl) (bs.map V.bl)
  | [] => .nil
  | b :: bs => .cons (.inl ⟨rfl, rfl⟩) (eqv_bls bs)
theorem op_eqBL (hu : X.A.units + 64 < cLine) : OpR X (compareOp .Eq) (LR (gOf B X) E eqBL) := (op_eqV hu).imp fun x y H Q w => by
  obtain ⟨q, st, a, b, rs, ra, rb, p⟩ := w
  unfold eqBL at p
  split at p
  · split at p
    · rename_i bs cs h1 h2
      split at p
      · rename_i he
        subst he
        obtain ⟨xs, h1, k1⟩ := Option.bind_eq_some_iff.mp h1
        obtain ⟨ys, h2, k2⟩ := Option.bind_eq_some_iff.mp h2
        obtain ⟨a, rfl, qa⟩ := ra.ref_inv
        obtain ⟨b, rfl, qb⟩ := rb.ref_inv
        obtain ⟨a', us, qa', ha, ru⟩ := rs.listAt h1
        rw [qa] at qa'; cases qa'
        obtain ⟨b', ws, qb', hb, rw'⟩ := rs.listAt h2
        rw [qb] at qb'; cases qb'
        have e1 := ru.truO_ k1
        have e2 := rw'.truO_ k2
        subst e1 e2
        refine ⟨1, by decide, .inl ⟨a, b, _, _, rfl, rfl, ha, hb, ?_⟩, p q _ H Ext.refl rs (.bl _)⟩
        exact eqv_bls bs
      · exact False.elim p
    · exact False.elim p
  · exact False.elim p
/-! ### a op b op' c -/
def chainK (f' : D → D → Sto → R D) (fc : EF) (env : EnvD) (y z : D) (s2 : Sto) : R D := match z with
  | .bl b => if b = true then (fc env s2).bind fun w s3 => f' y w s3 else .ok (.bl false) s2
  | _ => .bad
def chainF (f f' : D → D → Sto → R D) (fa fb fc : EF) : EF := fun env st => (fa env st).bind fun x s => (fb env s).bind fun y s1 => (f x y s1).bind fun z s2 => chainK f' fc env y z s2
theorem chain_le {f f' : D → D → Sto → R D} {fa fb fc : EF} {sg : L2.St} {H : Hp} {Q : VK} (w : LE (gOf B X) E (chainF f f' fa fb fc) sg H Q) : tChain (LR (gOf B X) E f) (LR (gOf B X) E f') (LE (gOf B X) E fa) (LE (gOf B X) E fb) (LE (gOf B X) E fc) sg H Q := by
  obtain ⟨q, env, st, rs, re, p⟩ := w
  refine LE.chain rs re (R.post_bind.mp p) fun x s1 q1 v H1 p e1 rs1 re1 rx => ?_
  refine LE.chain rs1 re1 ((R.post_bind.mp p).imp (fun _ _ h => h) fun _ _ h => h.ext e1) fun y s2 q2 u H2 p e2 rs2 re2 ry => ?_
  refine ⟨q2, s2, x, y, rs2, rx.ext e2, ry, (R.post_bind.mp p).imp (fun z s3 p q3 t H3 e3 rs3 rz => ?_) fun _ _ h => h.ext (e1.trans e2)⟩
  unfold chainK at p
  split at p
  · rename_i b
    refine ⟨b, rz.bl_inv, ?_⟩
    cases b with
    | false =>
      rw [if_neg Bool.false_ne_true] at p ⊢
      exact p q3 _ H3 (e1.trans (e2.trans e3)) rs3 (.bl _)
    | true =>
      rw [if_pos rfl] at p ⊢
      refine LE.chain rs3 (re2.ext e3) ((R.post_bind.mp p).imp (fun _ _ h => h) fun _ _ h => h.ext (e1.trans (e2.trans e3))) fun w s4 q4 r H4 p e4 rs4 re4 rw => ?_
      exact ⟨q4, s4, y, w, rs4, ry.ext (e3.trans e4), rw, p.imp (fun _ _ h => h.ext (e1.trans (e2.trans (e3.trans e4)))) fun _ _ h => h.ext (e1.trans (e2.trans (e3.trans e4)))⟩
  · exact False.elim p
theorem lt_chain {a b c : Expr} {pos : Pos} {op op' : CmpOp} {f f' : D → D → Sto → R D} {fa fb fc : EF} (ho : OpR X (compareOp op) (LR (gOf B X) E f)) (ho' : OpR X (compareOp op') (LR (gOf B X) E f')) (ha : PE X a (LE (gOf B X) E fa)) (hb : PE X b (LE (gOf B X) E fb)) (hc : PE X c (LE (gOf B X) E fc)) (hm : lastMarks [op, op'] [b, c] = false := by with_unfolding_all rfl) :
    PT X (.Compare a [op, op'] [b, c] pos) (LT (gOf B X) E (bF (chainF f f' fa fb fc))) := (pt_chain ho ho' ha hb hc hm).imp fun _ _ _ w => chain_le (bool_le w)
theorem le_chain {a b c : Expr} {pos : Pos} {op op' : CmpOp} {f f' : D → D → Sto → R D} {fa fb fc : EF} (ho : OpR X (compareOp op) (LR (gOf B X) E f)) (ho' : OpR X (compareOp op') (LR (gOf B X) E f')) (ha : PE X a (LE (gOf B X) E fa)) (hb : PE X b (LE (gOf B X) E fb)) (hc : PE X c (LE (gOf B X) E fc)) (hm : lastMarks [op, op'] [b, c] = false := by with_unfolding_all rfl) :
    PE X (.Compare a [op, op'] [b, c] pos) (LE (gOf B X) E (chainF f f' fa fb fc)) := (pe_chain ho ho' ha hb hc hm).imp fun _ _ _ w => chain_le w
end
end VL

/-! VLK: dicts whose keys are tuples (nested): [], in, not in, [] =. -/
namespace VL
open PySem PySem.Spec PyProof.Rows L2 LamX NdefX
variable {B : Tb}
/-- a tuple that may be a key -/
def kOk : D → Bool
  | .tup xs => match nkeys xs with
    | some ks => decide ((NestedKey.tup ks).depth ≤ 8)
    | none => false
  | _ => false
theorem kOk_key {d : D} (h : kOk d = true) : ∃ xs k, d = .tup xs ∧ nkey d = some k ∧ k.depth ≤ 8 := by
  cases d with
  | tup xs =>
    unfold kOk at h
    cases e : nkeys xs with
    | none => simp only [e] at h; cases h
    | some ks =>
      simp only [e] at h
      refine ⟨xs, .tup ks, rfl, ?_, of_decide_eq_true h⟩
      unfold nkey
      rw [e]; rfl
  | _ => cases h
open Classical in
noncomputable def kEq (a b : D) : Bool := decide (nkey a = nkey b)
theorem kEq_self {a : D} : kEq a a = true := decide_eq_true rfl
noncomputable def kget (kvs : List (D × D)) (k : D) : Option D := (kvs.find? fun p => kEq p.1 k).map (·.2)
noncomputable def kput (kvs : List (D × D)) (k v : D) : List (D × D) := if (kvs.any fun p => kEq p.1 k) = true then kvs.map (fun p => if kEq p.1 k = true then (p.1, v) else p) else kvs ++ [(k, v)]
def kkeys (kvs : List (D × D)) : Bool := kvs.all fun p => kOk p.1
section
variable {X : Cx} {E : XK}
mutual
theorem RD.nested {pins : List (Addr × Obj)} {sg : L2.St} {H : Hp} {s : Shared} {q : List Addr} (I : L2.Inv X pins sg H s) : ∀ {v : V} {d : D} {k : NestedKey} {u : Value}, RD (gOf B X) q H v d → nkey d = some k → RelV v u → NestedIs s.heap k u
  | _, _, _, _, .non, e, r => by cases e; cases r; exact .none
  | _, _, _, _, .bl b, e, r => by cases e; cases r; exact .bool rfl
  | _, _, _, _, .int i, e, r => by cases e; obtain ⟨t, rfl⟩ := r; exact .int _ _
  | _, _, _, _, .str x, e, r => by cases e; obtain ⟨t, rfl⟩ := r; exact .text _ _
  | _, .tup ds, k, u, .tup h rr, e, r => by
    unfold nkey at e
    obtain ⟨ks, h1, rfl⟩ := Option.map_eq_some_iff.mp e
    cases r
    obtain ⟨its, rv, ⟨o, e1, e2, n, e3⟩, _⟩ := I.tuple h
    exact .tup e1 e2 e3 (by simpa using RDs.nested I rr h1 rv)
  | _, _, _, _, .clo _ _ _, e, _ => by unfold nkey at e; cases e
theorem RDs.nested {pins : List (Addr × Obj)} {sg : L2.St} {H : Hp} {s : Shared} {q : List Addr} (I : L2.Inv X pins sg H s) : ∀ {vs : List V} {ds : List D} {ks : List NestedKey} {us : List Value}, RDs (gOf B X) q H vs ds → nkeys ds = some ks → Vals vs us → NestedAll s.heap ks us
  | _, _, _, _, .nil, e, r => by cases e; cases r; exact .nil
  | _, x :: xs, ks, us, .cons a t, e, r => by
    unfold nkeys at e
    obtain ⟨k, h1, h2⟩ := Option.bind_eq_some_iff.mp e
    obtain ⟨kr, h3, rfl⟩ := Option.map_eq_some_iff.mp h2
    cases r with
    | cons r rt => exact .cons (RD.nested I a h1 r) (RDs.nested I t h3 rt)
end
abbrev RowP (g : G) (q : List Addr) (H : Hp) : D × D → NestedKey × Addr × Value → Prop := fun p x => nkey p.1 = some x.1 ∧ x.1.depth ≤ 8 ∧ RD g q H (.ref x.2.1) p.1 ∧ ∃ v, RelV v x.2.2 ∧ RD g q H v p.2
theorem kget_val {g : G} {q : List Addr} {H : Hp} {key : D} {k : NestedKey} (hk : nkey key = some k) {kvs : List (D × D)} {xs : List (NestedKey × Addr × Value)} (h : Paired (RowP g q H) kvs xs) :
    (∀ d, kget kvs key = some d → ∃ p, atKey xs k = some p ∧ ∃ v, RelV v p.2 ∧ RD g q H v d) ∧ (kget kvs key = none → atKey xs k = none) := by
  induction h with
  | nil => exact ⟨fun d e => (nomatch (show (none : Option D) = some d from e)), fun _ => rfl⟩
  | @cons p x ps xs hp _ ih =>
    obtain ⟨h1, h2, h3, h4⟩ := hp
    have hq : kEq p.1 key = decide (x.1 = k) := by
      unfold kEq
      rw [h1, hk]
      by_cases e : x.1 = k
      · rw [decide_eq_true e, decide_eq_true (by rw [e])]
      · rw [decide_eq_false e, decide_eq_false (fun z => e (Option.some.inj z))]
    unfold kget atKey at ih ⊢
    rw [List.find?_cons, List.find?_cons, hq]
    by_cases e : x.1 = k
    · rw [decide_eq_true e]
      exact ⟨fun d ed => by cases ed; exact ⟨x.2, rfl, h4⟩, fun ed => by cases ed⟩
    · rw [decide_eq_false e]
      exact ih
theorem kput_val {g : G} {q : List Addr} {H : Hp} {key : D} {k : NestedKey} {a : Addr} {v : V} {u : Value} {d : D} (hk : nkey key = some k) (hd : k.depth ≤ 8) (ra : RD g q H (.ref a) key) (rv : RelV v u) (r : RD g q H v d) {kvs : List (D × D)} {xs : List (NestedKey × Addr × Value)} (h : Paired (RowP g q H) kvs xs) : Paired (RowP g q H) (kput kvs key d) (storedH xs k a u) := by
  have any : (kvs.any fun p => kEq p.1 key) = (atKey xs k).isSome := by
    have hz := kget_val hk h
    have : (kvs.any fun p => kEq p.1 key) = (kget kvs key).isSome := by
      unfold kget
      rw [Option.isSome_map, Bool.eq_iff_iff, List.find?_isSome, List.any_eq_true]
    rw [this]
    cases e : kget kvs key with
    | some d => obtain ⟨p, hp, _⟩ := hz.1 d e; rw [hp]; rfl
    | none => rw [hz.2 e]; rfl
  unfold kput storedH
  rw [any]
  split
  · refine paired_map (fun p x hp => ?_) h
    obtain ⟨h1, h2, h3, h4⟩ := hp
    have hq : kEq p.1 key = decide (x.1 = k) := by
      unfold kEq
      rw [h1, hk]
      by_cases e : x.1 = k
      · rw [decide_eq_true e, decide_eq_true (by rw [e])]
      · rw [decide_eq_false e, decide_eq_false (fun z => e (Option.some.inj z))]
    unfold putAt
    rw [hq]
    by_cases e : x.1 = k
    · rw [decide_eq_true e, if_pos rfl, if_pos e]; exact ⟨h1, h2, h3, v, rv, r⟩
    · rw [decide_eq_false e, if_neg Bool.false_ne_true, if_neg e]; exact ⟨h1, h2, h3, h4⟩
  · exact Paired.app h (.cons ⟨hk, hd, ra, v, rv, r⟩ .nil)
/-- the dict as it lies -/
theorem RS.keyed {pins : List (Addr × Obj)} {sg : L2.St} {H : Hp} {s : Shared} {q : List Addr} {st : Sto} (I : L2.Inv X pins sg H s) (rs : RS (gOf B X) q H st) {n : Nat} {kvs : List (D × D)} (h : st[n]? = some (.dic kvs)) (hk : kkeys kvs = true) :
    ∃ a xs, q[n]? = some a ∧ (a == sysModules) = false ∧ s.heap.DictOfH (nestedKind X.prog X.w) a xs ∧ Mut (H a) ∧ kvs.length ≤ sizeLine ∧ Paired (RowP (gOf B X) q H) kvs xs := by
  obtain ⟨a, qa, ro⟩ := rs.get h
  have is : ∀ {kvs : List (D × D)} {xs : List (NestedKey × Addr × Value)}, Paired (RowP (gOf B X) q H) kvs xs → ∀ x ∈ xs, (nestedKind X.prog X.w).is s.heap x.1 x.2.1 := fun hp => by
    induction hp with
    | nil => intro x hx; cases hx
    | cons hp _ ih =>
      intro x hx
      rcases List.mem_cons.mp hx with rfl | hx
      · exact ⟨hp.2.2.1.nested I hp.1 rfl, hp.2.1⟩
      · exact ih x hx
  rcases ro with ⟨gs, h1, h2⟩ | ⟨⟨hn, hz⟩, xs, h1, hp⟩
  · cases h2 with
    | nil =>
      obtain ⟨z, hd, vs, rel, o, es, ep, e1, e2, e3, e4, e5, e6⟩ := dk_of I.hok h1
      cases rel
      refine ⟨a, [], qa, hd, ⟨o, es, ep, e1, e2, e3, ?_, fun _ hx => (nomatch hx), List.nodup_nil⟩, by rw [h1]; trivial, Nat.zero_le _, .nil⟩
      generalize es.toList = l at e5
      cases e5
      rfl
    | @cons p x ps xs hp t =>
      unfold kkeys at hk
      rw [List.all_cons, Bool.and_eq_true] at hk
      have h1 := hk.1
      rw [hp.1] at h1
      cases hx : x.1 with
      | inl i => rw [hx] at h1; cases h1
      | inr z => rw [hx] at h1; cases h1
  · obtain ⟨⟨hd, o, es, ep, e1, e2, e3, e4, e5⟩, _, _⟩ := I.hok a _ h1
    exact ⟨a, xs, qa, hd, ⟨o, es, ep, e1, e2, e3, e4, is hp, e5⟩, by rw [h1]; trivial, hz, hp⟩
/-- d[k] -/
noncomputable def kixD : D → D → Sto → R D
  | .ref n, k, st => match st[n]? with
    | some (.dic kvs) => if (kkeys kvs && kOk k) = true then (match kget kvs k with
      | some d => .ok d st
      | none => .bad) else .bad
    | _ => .bad
  | _, _, _ => .bad
variable {a o i e value : Expr} {fa fb fc : EF} {pos pos' : Pos}
theorem RD.tupA {g : G} {q : List Addr} {H : Hp} {v : V} {ds : List D} (r : RD g q H v (.tup ds)) : ∃ b, v = .ref b := by
  obtain ⟨b, xs, h, _⟩ := r.tup_inv
  exact ⟨b, h⟩
theorem le_kix (hu : X.A.units + 64 < cLine) (ha : PE X o (LE (gOf B X) E fa)) (hb : PE X i (LE (gOf B X) E fb)) (hs : NoSl i) : PE X (.Subscript o i pos) (LE (gOf B X) E (opF kixD fa fb)) := by
  refine ⟨fun pins s sg H Q I w => ?_⟩
  obtain ⟨q, env, st, rs, re, p⟩ := w
  have w2 : LE (gOf B X) E fa sg H (fun x H1 => LE (gOf B X) E fb sg H1 fun y H2 => ∃ q2 s2 xd yd, RS (gOf B X) q2 H2 s2 ∧ RD (gOf B X) q2 H2 x xd ∧ RD (gOf B X) q2 H2 y yd ∧ (kixD xd yd s2).post (KV (gOf B X) q2 H2 Q) (KX (gOf B X) q2 H2 E)) := by
    refine LE.chain rs re (R.post_bind.mp p) fun xd s1 q1 v H1 p e1 rs1 re1 rx => ?_
    refine LE.chain rs1 re1 ((R.post_bind.mp p).imp (fun _ _ h => h) fun _ _ h => h.ext e1) fun yd s2 q2 u H2 p e2 rs2 re2 ry => ?_
    exact ⟨q2, s2, xd, yd, rs2, rx.ext e2, ry, p.imp (fun _ _ h => h.ext (e1.trans e2)) fun _ _ h => h.ext (e1.trans e2)⟩
  refine subD_of PySem.F.slot_dict_getitem.lookup hs (thn (ha.run pins s sg H _ I w2) fun u s1 ⟨x, H1, I1, rx, w3⟩ => thn (hb.run pins s1 sg H1 _ I1 w3) fun iv s2 ⟨y, H2, I2, ry, q2, st2, xd, yd, rs2, rxd, ryd, p⟩ => ?_)
  unfold kixD at p
  split at p
  · rename_i n
    split at p
    · rename_i kvs hk
      split at p
      · rename_i hok
        rw [Bool.and_eq_true] at hok
        obtain ⟨a', rfl, qa⟩ := rxd.ref_inv
        cases rx
        obtain ⟨b, xs, qb, hd, dd, _, _, hp⟩ := rs2.keyed I2 hk hok.1
        rw [qa] at qb; cases qb
        obtain ⟨ts, k, rfl, hnk, hdp⟩ := kOk_key hok.2
        split at p
        · rename_i d hdd
          obtain ⟨pr, hpr, v, rv, rvd⟩ := (kget_val hnk hp).1 d hdd
          obtain ⟨c, rfl⟩ := ryd.tupA
          cases ry
          refine ⟨dd.typeIs, wpAny_getItem_heap (knd := nestedKind X.prog X.w) (show X.A.in1.units + 8 < cLine from ?_) (show (nestedKind X.prog X.w).is s2.heap k c from ⟨ryd.nested I2 hnk rfl, hdp⟩) dd hpr ⟨v, H2, I2.tok _, rv, p q2 v H2 Ext.refl rs2 rvd⟩⟩
          show X.A.units + 1 + 8 < cLine
          omega
        · exact False.elim p
      · exact False.elim p
    · exact False.elim p
  · exact False.elim p
/-- k in d -/
noncomputable def kinD (neg : Bool) : D → D → Sto → R D
  | k, .ref n, st => match st[n]? with
    | some (.dic kvs) => if (kkeys kvs && kOk k) = true then .ok (.bl (if neg then !(kget kvs k).isSome else (kget kvs k).isSome)) st else .bad
    | _ => .bad
  | _, _, _ => .bad
theorem op_kinD {neg : Bool} {op : CmpOp} (hop : op = (if neg then .NotIn else .In)) (hu : X.A.units + 64 < cLine) : OpR X (compareOp op) (LR (gOf B X) E (kinD neg)) := by
  intro pins s sg H x y v u Q I rx ry w
  obtain ⟨q, st, xd, yd, rs, rxd, ryd, p⟩ := w
  unfold kinD at p
  split at p
  · rename_i n
    split at p
    · rename_i kvs hk
      split at p
      · rename_i hok
        rw [Bool.and_eq_true] at hok
        obtain ⟨a', rfl, qa⟩ := ryd.ref_inv
        cases ry
        obtain ⟨b, xs, qb, hd, dd, _, _, hp⟩ := rs.keyed I hk hok.1
        rw [qa] at qb; cases qb
        obtain ⟨ts, k, rfl, hnk, hdp⟩ := kOk_key hok.2
        obtain ⟨c, rfl⟩ := rxd.tupA
        cases rx
        have es : (kget kvs (.tup ts)).isSome = (atKey xs k).isSome := by
          cases hd : kget kvs (.tup ts) with
          | some d => obtain ⟨w, hw, _⟩ := (kget_val hnk hp).1 d hd; rw [hw]; rfl
          | none => rw [(kget_val hnk hp).2 hd]; rfl
        rw [es] at p
        have room : X.A.in1.units + 8 < cLine := by
          show X.A.units + 1 + 8 < cLine
          omega
        have key : (nestedKind X.prog X.w).is s.heap k c := ⟨rxd.nested I hnk rfl, hdp⟩
        cases neg with
        | false =>
          subst hop
          exact wpAny_in_heap room key hd dd ⟨.bl (atKey xs k).isSome, H, I.tok _, rfl, p q _ H Ext.refl rs (.bl _)⟩
        | true =>
          subst hop
          show wpAny _ _ (do return Value.bool (!(← contains (Value.ref a') (Value.ref c)))) _ _ s
          exact wpAny_bind (wpAny_contains_heap room key hd dd (wpAny_pure ⟨.bl (!(atKey xs k).isSome), H, I.tok _, rfl, p q _ H Ext.refl rs (.bl _)⟩))
      · exact False.elim p
    · exact False.elim p
  · exact False.elim p
theorem op_kin (hu : X.A.units + 64 < cLine) : OpR X (compareOp .In) (LR (gOf B X) E (kinD false)) := op_kinD rfl hu
theorem op_knotin (hu : X.A.units + 64 < cLine) : OpR X (compareOp .NotIn) (LR (gOf B X) E (kinD true)) := op_kinD rfl hu
/-- an object of the store written, where no code objects are made -/
theorem RS.putT {g : G} {q : List Addr} {H : Hp} {st : Sto} {a : Addr} {o : O} (hT : g.B.T = []) (r : RS g q H st) {n : Nat} {u : HO} (ha : q[n]? = some a) (h0 : ∀ xs, st[n]? ≠ some (O.rl xs)) (mu : Mut (H a)) (hu : ∀ ps, u ≠ .tbl ps) (ho : Ext q H q (upd H a u) → RO g q (upd H a u) a o) : RS g q (upd H a u) (st.set n o) ∧ Ext q H q (upd H a u) := by
  have hin : a ∈ q := List.mem_of_getElem? ha
  have ext : Ext q H q (upd H a u) := ⟨⟨[], by simp⟩, fun b xs h => by
    have hb : b ≠ a := fun e => by
      subst e
      rcases h with h | ⟨ob, h⟩
      · rw [h] at mu; exact mu
      · rw [h] at mu; exact mu
    rcases h with h | ⟨ob, h⟩
    · exact .inl (by rw [upd_ne hb]; exact h)
    · exact .inr ⟨ob, by rw [upd_ne hb]; exact h⟩, fun b o h n _ => by
      have hb : b ≠ a := fun e => n (by rw [e]; exact hin)
      rw [upd_ne hb]; exact h, fun b ⟨o, h, t⟩ => by
      by_cases hb : b = a
      · subst hb; exact ⟨u, upd_same, hu⟩
      · exact ⟨o, by rw [upd_ne hb]; exact h, t⟩⟩
  have tabs : Tabs g.B.T (upd H a u) := fun p hp => by rw [hT] at hp; cases hp
  have hl : n < st.length := by rw [← r.len]; exact (List.getElem?_eq_some_iff.mp ha).1
  have other : ∀ m : Nat, q[m]? = some a → m ≠ n → ∃ xs, st[m]? = some (O.rl xs) := fun m hm hne => by
    rcases r.nd m n a hm ha with z | z | ⟨xs, z⟩
    · exact absurd z hne
    · exact z
    · exact absurd z (h0 xs)
  refine ⟨⟨by simp [r.len], fun m k b h1 h2 => ?_, fun m b x h1 h2 => ?_, tabs⟩, ext⟩
  · by_cases e : m = k
    · exact .inl e
    · have keep : ∀ {j : Nat} {xs : List D}, st[j]? = some (O.rl xs) → (st.set n o)[j]? = some (O.rl xs) := fun {j xs} z => by
        have : n ≠ j := fun e => h0 xs (by rw [e]; exact z)
        rw [List.getElem?_set_ne this]; exact z
      rcases r.nd m k b h1 h2 with z | ⟨xs, z⟩ | ⟨xs, z⟩
      · exact .inl z
      · exact .inr (.inl ⟨xs, keep z⟩)
      · exact .inr (.inr ⟨xs, keep z⟩)
  · by_cases e : m = n
    · subst e
      rw [ha] at h1; cases h1
      rw [List.getElem?_set_self hl] at h2
      cases h2
      exact ho ext
    · rw [List.getElem?_set_ne (Ne.symm e)] at h2
      have z := r.at_ m b x h1 h2
      by_cases hb : b = a
      · subst hb
        obtain ⟨xs, hx⟩ := other m h1 e
        rw [h2] at hx; cases hx
        obtain ⟨ys, hy, ry⟩ := z
        rcases hy with ⟨ob, hy⟩ | hy
        · rw [hy] at mu; exact False.elim mu
        · exact ⟨ys, .inr hy, ry.ext ext⟩
      · exact z.stay ext (upd_ne hb)
theorem kput_ne {kvs : List (D × D)} {k v : D} : kput kvs k v ≠ [] := by
  unfold kput
  split
  · rename_i h
    intro e
    rw [List.map_eq_nil_iff] at e
    rw [e] at h
    cases h
  · exact fun e => by simp at e
theorem kput_len {kvs : List (D × D)} {k v : D} : (kput kvs k v).length ≤ kvs.length + 1 := by
  unfold kput
  split
  · rw [List.length_map]; omega
  · rw [List.length_append]; exact Nat.le_refl _
/-- d[k] = v -/
noncomputable def kputS (fv fo fk : EF) : SF := fun env st => (fv env st).bind fun v s1 => (fo env s1).bind fun o s2 => (fk env s2).bind fun k s3 => match o with
  | .ref n => (match s3[n]? with
    | some (.dic kvs) => if (kkeys kvs && kOk k && decide (kvs.length < sizeLine)) = true then .ok (.nx env) (s3.set n (.dic (kput kvs k v))) else .bad
    | _ => .bad)
  | _ => .bad
theorem ls_kput (hB : B.T = []) (hu : X.A.units + 64 < cLine) (ha : PE X o (LE (gOf B X) E fa)) (hb : PE X i (LE (gOf B X) E fb)) (hc : PE X value (LE (gOf B X) E fc)) (hs : swapsWith value (some (.Subscript o i pos')) pos.line X.env = pure false := by rfl) :
    PS X (.Assign [.Subscript o i pos'] value pos) (LS (gOf B X) E (kputS fc fa fb)) := by
  refine ⟨fun pins s sg H T I w => ?_⟩
  obtain ⟨q, env, st, rs, re, p⟩ := w
  have w2 : LE (gOf B X) E fc sg H (fun v H1 => LE (gOf B X) E fa sg H1 fun x H2 => LE (gOf B X) E fb sg H2 fun y H3 => ∃ q3 s3 vd xd yd, RS (gOf B X) q3 H3 s3 ∧ RE (gOf B X) q3 H3 sg env ∧ RD (gOf B X) q3 H3 v vd ∧ RD (gOf B X) q3 H3 x xd ∧ RD (gOf B X) q3 H3 y yd ∧
      (match xd with
        | .ref n => (match s3[n]? with
          | some (.dic kvs) => if (kkeys kvs && kOk yd && decide (kvs.length < sizeLine)) = true then .ok (.nx env) (s3.set n (.dic (kput kvs yd vd))) else .bad
          | _ => .bad)
        | _ => .bad : R Fl).post (KS (gOf B X) q3 H3 T) (KX (gOf B X) q3 H3 E)) := by
    refine LE.chain rs re (R.post_bind.mp p) fun vd s1 q1 v H1 p e1 rs1 re1 rv => ?_
    refine LE.chain rs1 re1 ((R.post_bind.mp p).imp (fun _ _ h => h) fun _ _ h => h.ext e1) fun od s2 q2 ov H2 p e2 rs2 re2 ro => ?_
    refine LE.chain rs2 re2 ((R.post_bind.mp p).imp (fun _ _ h => h) fun _ _ h => h.ext (e1.trans e2)) fun kd s3 q3 kv H3 p e3 rs3 re3 rk => ?_
    exact ⟨q3, s3, vd, od, kd, rs3, re3, rv.ext (e2.trans e3), ro.ext e3, rk, p.imp (fun _ _ h => h.ext (e1.trans (e2.trans e3))) fun _ _ h => h.ext (e1.trans (e2.trans e3))⟩
  refine wpAny_Assign_Subscript (thn (hc.run pins s sg H _ I w2) fun r s1 ⟨v, H1, I1, rv, w3⟩ => thn (ha.run pins s1 sg H1 _ I1 w3) fun u s2 ⟨x, H2, I2, rx, w4⟩ => thn (hb.run pins s2 sg H2 _ I2 w4) fun iv s3 ⟨y, H3, I3, ry, q3, st3, vd, xd, yd, rs3, re3, rvd, rxd, ryd, p⟩ => ?_) hs
  split at p
  · rename_i n
    split at p
    · rename_i kvs hk
      split at p
      · rename_i hok
        rw [Bool.and_eq_true, Bool.and_eq_true] at hok
        obtain ⟨a', rfl, qa⟩ := rxd.ref_inv
        cases rx
        obtain ⟨b, xs, qb, hd, dd, mu, _, hp⟩ := rs3.keyed I3 hk hok.1.1
        rw [qa] at qb; cases qb
        obtain ⟨ts, k, rfl, hnk, hdp⟩ := kOk_key hok.1.2
        obtain ⟨c, rfl⟩ := ryd.tupA
        cases ry
        have hl : kvs.length < sizeLine := of_decide_eq_true hok.2
        have hl2 : xs.length < sizeLine := by rw [← hp.length]; exact hl
        have room : X.A.in1.units + 8 < cLine := by
          show X.A.units + 1 + 8 < cLine
          omega
        refine wpAny_setItem_heap (knd := nestedKind X.prog X.w) (hsz := by omega) room (show (nestedKind X.prog X.w).is s3.heap k c from ⟨ryd.nested I3 hnk rfl, hdp⟩) dd fun h' dd' hsb => ?_
        obtain ⟨rs4, e4⟩ := rs3.putT (u := .ext (rawK (gOf B X) a' (storedH xs k c r))) (o := .dic (kput kvs (.tup ts) vd)) hB qa (fun zs e => by rw [hk] at e; cases e) mu (fun ps e => by cases e) fun ext =>
          .inr ⟨⟨kput_ne, by have := kput_len (kvs := kvs) (k := .tup ts) (v := vd); omega⟩, _, upd_same, kput_val hnk hdp (ryd.ext ext) rv (rvd.ext ext) (Paired.mapP hp fun p x ⟨z1, z2, z3, v, z4, z5⟩ => ⟨z1, z2, z3.ext ext, v, z4, z5.ext ext⟩)⟩
        obtain ⟨o', es, ep, g1, g2, g3, g4, _, g5⟩ := dd'
        have I4 : L2.Inv X pins sg (upd H3 a' (.ext (rawK (gOf B X) a' (storedH xs k c r)))) { s3 with heap := h', toks := s3.toks + (nestedKind X.prog X.w).draws k } := by
          refine d_write I3 mu hsb ⟨o', g1⟩ ⟨⟨hd, o', es, ep, g1, g2, g3, g4, g5⟩, ⟨o', g1⟩, fun h1 h2 ⟨z0, z, z1, z2, z3, z4, z5, z6, z7⟩ kp => ⟨z0, z, z1, z2, kp _ z3, z4, z5, z6, z7⟩⟩
        exact ⟨sg, _, I4, p q3 _ e4 rs4 sg (re3.ext e4)⟩
      · exact False.elim p
    · exact False.elim p
  · exact False.elim p
end
end VL

/-! VLN: instances of the program's own classes: attributes, methods, making; a module's constant tuple. -/
namespace VL
open PySem PySem.Spec PyProof.Rows L2 LamX NdefX
variable {B : Tb}
/-- the attributes of the n-th object, an instance of c -/
def insAt (c : Str) (st : Sto) (n : Nat) : Option (List (Str × D)) := match st[n]? with
  | some (.ins c' fs) => if c' = c then some fs else none
  | _ => none
theorem insAt_ins {c : Str} {st : Sto} {n : Nat} {fs : List (Str × D)} (h : st[n]? = some (.ins c fs)) : insAt c st n = some fs := by
  unfold insAt
  rw [h]
  exact if_pos rfl
theorem insAt_eq {c : Str} {st : Sto} {n : Nat} {fs : List (Str × D)} (h : insAt c st n = some fs) : st[n]? = some (.ins c fs) := by
  unfold insAt at h
  cases e : st[n]? with
  | none => rw [e] at h; cases h
  | some o =>
    rw [e] at h
    cases o with
    | ins c' fs' =>
      have h : (if c' = c then some fs' else none) = some fs := h
      by_cases hc : c' = c
      · rw [if_pos hc] at h; cases h; rw [hc]
      · rw [if_neg hc] at h; cases h
    | _ => cases h
abbrev PF (g : G) (q : List Addr) (H : Hp) : Str × D → Str × V → Prop := fun p x => p.1 = x.1 ∧ RD g q H x.2 p.2
theorem RS.ins {g : G} {q : List Addr} {H : Hp} {st : Sto} (rs : RS g q H st) {n : Nat} {c : Str} {fs : List (Str × D)} {C : Addr} (h : insAt c st n = some fs) (hm : g.mg c = some (.ref C)) : ∃ a dx gs, q[n]? = some a ∧ H a = some (.ins C dx gs) ∧ Paired (PF g q H) fs gs := by
  obtain ⟨a, qa, C', dx, gs, h1, h2, h3⟩ := rs.get (insAt_eq h)
  rw [hm] at h1
  cases h1
  exact ⟨a, dx, gs, qa, h2, h3⟩
theorem lookup_pair {g : G} {q : List Addr} {H : Hp} {f : Str} : ∀ {fs : List (Str × D)} {gs : List (Str × V)}, Paired (PF g q H) fs gs → (∀ d, fs.lookup f = some d → ∃ v, gs.lookup f = some v ∧ RD g q H v d) ∧ (fs.lookup f = none → gs.lookup f = none)
  | _, _, .nil => ⟨fun d e => (nomatch e), fun _ => rfl⟩
  | (k, d) :: fs, (k', v) :: gs, .cons hp t => by
    obtain ⟨h1, h2⟩ := hp
    have h1 : k = k' := h1
    subst h1
    have ih := lookup_pair (f := f) t
    by_cases e : f = k
    · have hb : (f == k) = true := beq_iff_eq.mpr e
      simp only [List.lookup, hb]
      exact ⟨fun d e => by cases e; exact ⟨v, rfl, h2⟩, fun e => by cases e⟩
    · have hb : (f == k) = false := beq_eq_false_iff_ne.mpr e
      simp only [List.lookup, hb]
      exact ih
/-- o.f -/
def fldK (c f : Str) : D → Sto → R D
  | .ref n, st => match (insAt c st n).bind (fun fs => fs.lookup f) with
    | some d => .ok d st
    | none => .bad
  | _, _ => .bad
def putFD (f : Str) (v : D) : List (Str × D) → List (Str × D)
  | [] => [(f, v)]
  | (g, x) :: r => if g = f then (g, v) :: r else (g, x) :: putFD f v r
theorem putFD_pair {g : G} {q : List Addr} {H : Hp} {f : Str} {v : V} {d : D} (r : RD g q H v d) : ∀ {fs : List (Str × D)} {gs : List (Str × V)}, Paired (PF g q H) fs gs → Paired (PF g q H) (putFD f d fs) (putF f v gs)
  | _, _, .nil => .cons ⟨rfl, r⟩ .nil
  | (k, d') :: fs, (k', v') :: gs, .cons hp t => by
    obtain ⟨h1, h2⟩ := hp
    have h1 : k = k' := h1
    subst h1
    unfold putFD putF
    by_cases e : k = f
    · rw [if_pos e, if_pos e]; exact .cons ⟨rfl, r⟩ t
    · rw [if_neg e, if_neg e]; exact .cons ⟨rfl, h2⟩ (putFD_pair r t)
/-- o.f = v -/
def fsetS (c f : Str) (fo fv : EF) : SF := fun env st => (fv env st).bind fun v s1 => (fo env s1).bind fun o s2 => match o with
  | .ref n => (match insAt c s2 n with
    | some fs => if fs.length < 1000 then .ok (.nx env) (s2.set n (.ins c (putFD f v fs))) else .bad
    | none => .bad)
  | _ => .bad
/-- o.m(..) -/
def methO (c m : Str) (fn : Fn) (fo : EF) (fa : AF) : EF := fun env st => (fo env st).bind fun d s => match d with
  | .ref n => (match insAt c s n with
    | some fs => if (fs.lookup m).isNone = true then (fa env s).bind fun ds s' => fn (.ref n :: ds) s' else .bad
    | none => .bad)
  | _ => .bad
/-- c(..) -/
def makeF (c : Str) (fn : Fn) (fa : AF) : EF := fun env st => (fa env st).bind fun ds s => (fn (.ref s.length :: ds) (s ++ [.ins c []])).bind fun v s' => match v with
  | .non => .ok (.ref s.length) s'
  | _ => .bad
section
variable {X : Cx} {E : XK} {e o value : Expr} {fa fo fv : EF} {c f m : Str} {C : Addr} {pos pos' apos p : Pos}
theorem le_fld (cl : Cls X.K C) (na : NoAttr X.K C f) (hm : X.mg c = some (.ref C)) (ha : PE X e (LE (gOf B X) E fa)) (hb : attributeBase e f X.env (eval e X.env) = eval e X.env := by rfl) : PE X (.Attribute e f pos) (LE (gOf B X) E (un1 (fldK c f) fa)) := (pe_fld ha hb).imp fun sg H Q w => by
  obtain ⟨q, env, st, rs, re, p⟩ := w
  refine LE.chain rs re (R.post_bind.mp p) fun x s1 q1 v H1 p e1 rs1 re1 rx => ?_
  unfold fldK at p
  split at p
  · rename_i n
    split at p
    · rename_i d hd
      obtain ⟨fs, h1, h2⟩ := Option.bind_eq_some_iff.mp hd
      obtain ⟨a, rfl, qa⟩ := rx.ref_inv
      obtain ⟨a', dx, gs, qa', ea, hp⟩ := rs1.ins h1 hm
      rw [qa] at qa'; cases qa'
      obtain ⟨u, hu, ru⟩ := (lookup_pair hp).1 d h2
      exact ⟨a, C, dx, gs, u, rfl, ea, cl, na, hu, p q1 u H1 e1 rs1 ru⟩
    · exact False.elim p
  · exact False.elim p
theorem ls_fset (cl : Cls X.K C) (na : NoAttr X.K C f) (hm : X.mg c = some (.ref C)) (ha : PE X o (LE (gOf B X) E fo)) (hv : PE X value (LE (gOf B X) E fv)) (hs : swapsWith value (some (.Attribute o f pos')) pos.line X.env = pure false := by rfl) :
    PS X (.Assign [.Attribute o f pos'] value pos) (LS (gOf B X) E (fsetS c f fo fv)) := (ps_fld ha hv hs).imp fun T sg H w => by
  obtain ⟨q, env, st, rs, re, p⟩ := w
  refine LE.chain rs re (R.post_bind.mp p) fun vd s1 q1 v H1 p e1 rs1 re1 rv => ?_
  refine LE.chain rs1 re1 ((R.post_bind.mp p).imp (fun _ _ h => h) fun _ _ h => h.ext e1) fun x s2 q2 u H2 p e2 rs2 re2 rx => ?_
  split at p
  · rename_i n
    split at p
    · rename_i fs h1
      split at p
      · rename_i hl
        obtain ⟨a, rfl, qa⟩ := rx.ref_inv
        obtain ⟨a', dx, gs, qa', ea, hp⟩ := rs2.ins h1 hm
        rw [qa] at qa'; cases qa'
        have mu : Mut (H2 a) := by rw [ea]; trivial
        obtain ⟨rs3, e3⟩ := rs2.put' (u := .ins C dx (putF f v gs)) (o := .ins c (putFD f vd fs)) qa (fun zs z => by rw [insAt_eq h1] at z; cases z) mu (fun φ z => by rw [ea] at z; cases z) (fun ps z => by cases z) fun ext =>
          ⟨C, dx, _, hm, upd_same, Paired.mapP (putFD_pair (rv.ext e2) hp) fun p x z => ⟨z.1, z.2.ext ext⟩⟩
        exact ⟨a, C, dx, gs, rfl, ea, cl, na, by rw [← hp.length]; exact hl, p q2 _ (e1.trans (e2.trans e3)) rs3 sg (re2.ext e3)⟩
      · exact False.elim p
    · exact False.elim p
  · exact False.elim p
/-! ### calls of methods -/
section
variable {k n : Nat} {g : Addr} {fd : FuncData} {ps : List Str} {fn : Fn} {a : Expr} {es : List Expr} {fas : AF}
theorem le_meth {pl : Sem Bool} (F : FnOk X.prog X.w X.K X.mg X.base CX0 k g fd ps (Sp0 (gOf B X) (n + 1) fn)) (hr : Room k X.A) (cl : Cls X.K C) (hme : Meth X.K C m g) (hm : X.mg c = some (.ref C)) (hb : Binds X.K fd ps [])
    (ho : PE X o (LE (gOf B X) E0 fo)) (ha : PA X (a :: es) (LA (gOf B X) E0 fas)) (hla : ∀ env st ds s, fas env st = .ok ds s → ds.length = n)
    (hst : starEach (a :: es) X.env = (false, eval a X.env) :: starEach es X.env := by rfl) (hpl : (backTo pos (starEach es X.env)).any (·.1) = false := by rfl)
    (ht : eval (.Call (.Attribute o m apos) (a :: es) [] pos) X.env = (do
      let ov ← eval o X.env
      standAt apos.atName
      let (f, first) ← holding [ov] (getMethod ov m pl)
      callWith pos f first (backTo pos (starEach (a :: es) X.env)) (backToKw pos (keywordEach [] X.env))) := by rfl) :
    PE X (.Call (.Attribute o m apos) (a :: es) [] pos) (LE (gOf B X) E0 (methO c m fn fo fas)) :=
  (pe_meth ho cl hme F hr hb .nil pass0 ha hst hpl ht).imp fun sg H Q w => by
    obtain ⟨q, env, st, rs, re, p⟩ := w
    refine LE.chain rs re (R.post_bind.mp p) fun x s1 q1 v H1 p e1 rs1 re1 rx => ?_
    split at p
    · rename_i nn
      split at p
      · rename_i fs h1
        split at p
        · rename_i hl
          obtain ⟨b, rfl, qb⟩ := rx.ref_inv
          obtain ⟨b', dx, gs, qb', eb, hp⟩ := rs1.ins h1 hm
          rw [qb] at qb'; cases qb'
          refine ⟨b, dx, gs, rfl, eb, (lookup_pair hp).2 (Option.isNone_iff_eq_none.mp hl), ?_⟩
          have p := R.post_bind.mp p
          have p' : (fas env s1).post (fun ds s => ds.length = n ∧ (fn (.ref nn :: ds) s).post (KV (gOf B X) q H Q) (KX (gOf B X) q H E0)) (KX (gOf B X) q1 H1 E0) := by
            cases hfa : fas env s1 with
            | ok ds s => rw [hfa] at p; exact ⟨hla _ _ _ _ hfa, p⟩
            | ex c s => rw [hfa] at p; exact KX.ext e1 p
            | bad => rw [hfa] at p; exact p
          refine LA.chain rs1 re1 p' fun xs s2 q2 vs H2 p e2 rs2 re2 rx2 => ?_
          rw [List.append_nil]
          exact ⟨by rw [List.length_cons, rx2.length, p.1], q2, s2, .ref nn :: xs, rs2, .cons (.ref (e2.at qb)) rx2, p.2.imp (fun _ _ h => h.ext (e1.trans e2)) fun _ _ h => h.ext (e1.trans e2)⟩
        · exact False.elim p
      · exact False.elim p
    · exact False.elim p
theorem le_meth0 {pl : Sem Bool} (F : FnOk X.prog X.w X.K X.mg X.base CX0 k g fd ps (Sp0 (gOf B X) 1 fn)) (hr : Room k X.A) (cl : Cls X.K C) (hme : Meth X.K C m g) (hm : X.mg c = some (.ref C)) (hb : Binds X.K fd ps [])
    (ho : PE X o (LE (gOf B X) E0 fo))
    (ht : eval (.Call (.Attribute o m apos) [] [] pos) X.env = (do
      let ov ← eval o X.env
      standAt apos.atName
      let (f, first) ← holding [ov] (getMethod ov m pl)
      callWith pos f first (backTo pos (starEach [] X.env)) (backToKw pos (keywordEach [] X.env))) := by rfl) :
    PE X (.Call (.Attribute o m apos) [] [] pos) (LE (gOf B X) E0 (methO c m fn fo nilA)) :=
  (pe_meth0 ho cl hme F hr hb .nil pass0 ht).imp fun sg H Q w => by
    obtain ⟨q, env, st, rs, re, p⟩ := w
    refine LE.chain rs re (R.post_bind.mp p) fun x s1 q1 v H1 p e1 rs1 re1 rx => ?_
    split at p
    · rename_i nn
      split at p
      · rename_i fs h1
        split at p
        · rename_i hl
          obtain ⟨b, rfl, qb⟩ := rx.ref_inv
          obtain ⟨b', dx, gs, qb', eb, hp⟩ := rs1.ins h1 hm
          rw [qb] at qb'; cases qb'
          refine ⟨b, dx, gs, rfl, eb, (lookup_pair hp).2 (Option.isNone_iff_eq_none.mp hl), ?_⟩
          exact ⟨rfl, q1, s1, [.ref nn], rs1, .cons (.ref qb) .nil, (show (fn [.ref nn] s1).post _ _ from p).imp (fun _ _ h => h.ext e1) fun _ _ h => h.ext e1⟩
        · exact False.elim p
      · exact False.elim p
    · exact False.elim p
/-- the new instance -/
theorem ins_new {g : G} {q : List Addr} {H : Hp} {st : Sto} {x dx : Addr} (rs : RS g q H st) (hm : g.mg c = some (.ref C)) (hx : H x = none) (hdx : H dx = none) (hne : dx ≠ x) :
    Ext q H (q ++ [x]) (upd (upd H dx (.own x)) x (.ins C dx [])) ∧ RS g (q ++ [x]) (upd (upd H dx (.own x)) x (.ins C dx [])) (st ++ [.ins c []]) ∧ (q ++ [x])[st.length]? = some x := by
  have s1 : Same H (upd H dx (.own x)) := same_upd hdx
  have rs1 := rs.same s1
  have hx1 : upd H dx (.own x) x = none := by rw [upd_ne (Ne.symm hne)]; exact hx
  refine ⟨(Same.ext0 s1).trans (Same.ext (same_upd hx1) hx1), rs1.new (o := .ins c []) hx1 ⟨C, dx, [], hm, upd_same, .nil⟩, ?_⟩
  rw [← rs.len]
  simp
theorem le_make0 {x : Str} (M : Mk X.K C g) (F : FnOk X.prog X.w X.K X.mg X.base CX0 k g fd ps (Sp0 (gOf B X) 1 fn)) (hr : Room (k + 1) X.A) (hm : X.mg x = some (.ref C)) (hb : Binds X.K fd ps []) (hg : Gl X x := by rfl)
    (hdb : (x == ("__debug__" : Str)) = false := by decide) : PE X (.Call (.Name x p) [] [] pos) (LE (gOf B X) E0 (makeF x fn nilA)) :=
  (pe_make0 M F hr hg hm hb .nil pass0 hdb).imp fun sg H Q w => by
    obtain ⟨q, env, st, rs, re, pp⟩ := w
    intro z dz hz hdz hne
    obtain ⟨e1, rs1, qz⟩ := ins_new rs hm hz hdz hne
    refine ⟨rfl, q ++ [z], st ++ [.ins x []], [.ref st.length], rs1, .cons (.ref qz) .nil, ?_⟩
    have pp : ((fn [.ref st.length] (st ++ [.ins x []])).bind fun v s' => match v with | .non => R.ok (D.ref st.length) s' | _ => .bad).post _ _ := pp
    refine (R.post_bind.mp pp).imp (fun d s' h q2 v H2 e2 rs2 rv => ?_) fun _ _ h => h.ext e1
    cases d with
    | non => exact ⟨rv.non_inv, h q2 _ H2 (e1.trans e2) rs2 (.ref (e2.at qz))⟩
    | _ => exact False.elim h
theorem le_make {x : Str} (M : Mk X.K C g) (F : FnOk X.prog X.w X.K X.mg X.base CX0 k g fd ps (Sp0 (gOf B X) (n + 1) fn)) (hr : Room (k + 1) X.A) (hm : X.mg x = some (.ref C)) (hb : Binds X.K fd ps [])
    (ha : PA X (a :: es) (LA (gOf B X) E0 fas)) (hla : ∀ env st ds s, fas env st = .ok ds s → ds.length = n) (hg : Gl X x := by rfl)
    (hdb : (x == ("__debug__" : Str)) = false := by decide) (he : starEach (a :: es) X.env = (false, eval a X.env) :: starEach es X.env := by rfl) (hpl : (backTo pos (starEach es X.env)).any (·.1) = false := by rfl) : PE X (.Call (.Name x p) (a :: es) [] pos) (LE (gOf B X) E0 (makeF x fn fas)) :=
  (pe_make M F hr hg hm hb .nil pass0 ha hdb he hpl).imp fun sg H Q w => by
    obtain ⟨q, env, st, rs, re, pp⟩ := w
    have pp := R.post_bind.mp pp
    have p' : (fas env st).post (fun ds s => ds.length = n ∧ ((fn (.ref s.length :: ds) (s ++ [.ins x []])).bind fun v s' => match v with | .non => R.ok (D.ref s.length) s' | _ => .bad).post (KV (gOf B X) q H Q) (KX (gOf B X) q H E0)) (KX (gOf B X) q H E0) := by
      cases hfa : fas env st with
      | ok ds s => rw [hfa] at pp; exact ⟨hla _ _ _ _ hfa, pp⟩
      | ex c s => rw [hfa] at pp; exact pp
      | bad => rw [hfa] at pp; exact pp
    refine LA.chain rs re p' fun xs s1 q1 vs H1 ⟨hl, pp⟩ e1 rs1 re1 rx => ?_
    intro z dz hz hdz hne
    obtain ⟨e2, rs2, qz⟩ := ins_new rs1 hm hz hdz hne
    rw [List.append_nil]
    refine ⟨by rw [List.length_cons, rx.length, hl], q1 ++ [z], s1 ++ [.ins x []], .ref s1.length :: xs, rs2, .cons (.ref qz) (rx.ext e2), ?_⟩
    refine (R.post_bind.mp pp).imp (fun d s' h q3 v H3 e3 rs3 rv => ?_) fun _ _ h => h.ext (e1.trans e2)
    cases d with
    | non => exact ⟨rv.non_inv, h q3 _ H3 (e1.trans (e2.trans e3)) rs3 (.ref (e3.at qz))⟩
    | _ => exact False.elim h
end
/-! ### a constant tuple of texts of the module -/
def KTup (K : PySem.W.Frag) (a : Addr) (ss : List Str) : Prop := ∃ (o : Obj) (its : Array Value) (n : Nat), K.lookup a = some o ∧ o.cls = .type "tuple" ∧ o.data = .seq its n ∧ its.size ≤ sizeLine ∧ Vals (ss.map V.str) its.toList
theorem RDs.strs {g : G} {q : List Addr} {H : Hp} : ∀ {ss : List Str}, RDs g q H (ss.map V.str) (ss.map D.str)
  | [] => .nil
  | s :: ss => .cons (.str s) RDs.strs
theorem le_gct {x : Str} {ss : List Str} {ds : List D} (hg : Gl X x) (h : ∃ a, X.mg x = some (.ref a) ∧ KTup X.K a ss) (e : ds = ss.map D.str) (hd : (x == ("__debug__" : Str)) = false := by decide) : PE X (.Name x pos) (LE (gOf B X) E (cF (.tup ds))) := by
  obtain ⟨a, hm, kt⟩ := h
  subst e
  exact le_c (v := .ref a) (pe_glob hg hm rfl hd) fun _ _ => .tup (.inr kt) RDs.strs
end
end VL

/-! VLM: reckoning with the functions: loops, comprehensions, stores that grow, sizes of ints. -/
namespace VL
open PySem L2 LamX NdefX

theorem log2_lt {n k : Nat} (h : n < 2 ^ k) (hk : 0 < k) : n.log2 < k := by
  by_cases h0 : n = 0
  · subst h0; simpa using hk
  · exact (Nat.log2_lt h0).mpr h
/-- an int below 2 ^ 1000 in size; sums and products of such -/
def Sm (k : Nat) (a : Int) : Prop := a.natAbs < 2 ^ k
instance {k : Nat} {a : Int} : Decidable (Sm k a) := inferInstanceAs (Decidable (a.natAbs < 2 ^ k))
theorem Sm.log {k : Nat} {a : Int} (h : Sm k a) (hk : 0 < k) : a.natAbs.log2 < k := log2_lt h hk
theorem Sm.of {k : Nat} {a b : Int} (h0 : 0 ≤ a) (h : a < b) (hb : b ≤ 2 ^ k) : Sm k a := by
  unfold Sm
  have e : ((a.natAbs : Nat) : Int) < ((2 ^ k : Nat) : Int) := by
    rw [Int.natAbs_of_nonneg h0]
    have : ((2 ^ k : Nat) : Int) = (2 : Int) ^ k := by push_cast; rfl
    rw [this]
    omega
  exact Int.ofNat_lt.mp e
theorem Sm.mod {k : Nat} {a m : Int} (hm : 0 < m) (hk : m ≤ 2 ^ k) : Sm k (a % m) := Sm.of (Int.emod_nonneg a (by omega)) (Int.emod_lt_of_pos a hm) hk
theorem Sm.mul {j k : Nat} {a b : Int} (ha : Sm j a) (hb : Sm k b) : Sm (j + k) (a * b) := by
  unfold Sm at *
  rw [Int.natAbs_mul, Nat.pow_add]
  exact Nat.mul_lt_mul'' ha hb
theorem Sm.add {k : Nat} {a b : Int} (ha : Sm k a) (hb : Sm k b) : Sm (k + 1) (a + b) := by
  unfold Sm at *
  have := Int.natAbs_add_le a b
  rw [Nat.pow_succ]
  omega
theorem Sm.neg {k : Nat} {a : Int} (ha : Sm k a) : Sm k (-a) := by unfold Sm at *; rw [Int.natAbs_neg]; exact ha
theorem Sm.sub {k : Nat} {a b : Int} (ha : Sm k a) (hb : Sm k b) : Sm (k + 1) (a - b) := by rw [Int.sub_eq_add_neg]; exact ha.add hb.neg
theorem Sm.mono {j k : Nat} {a : Int} (h : Sm j a) (hk : j ≤ k) : Sm k a := Nat.lt_of_lt_of_le h (Nat.pow_le_pow_right (by decide) hk)
/-- the product of two such is within the model's line -/
theorem mul_ok {j k : Nat} {a b : Int} (ha : Sm j a) (hb : Sm k b) (h : j + k ≤ 900000 := by decide) (hj : 0 < j := by decide) (hk : 0 < k := by decide) : decide (MulOk a b) = true := by
  have h1 := ha.log hj
  have h2 := hb.log hk
  exact decide_eq_true (.inl (by omega))
theorem mul_okR {a b : Int} (hb : Sm 64 b) : decide (MulOk a b) = true := decide_eq_true (.inr (.inr hb))
theorem mul_okL {a b : Int} (ha : Sm 64 a) : decide (MulOk a b) = true := decide_eq_true (.inr (.inl ha))
theorem mulD_ok {j k : Nat} {a b : Int} {st : Sto} (ha : Sm j a) (hb : Sm k b) (h : j + k ≤ 900000 := by decide) (hj : 0 < j := by decide) (hk : 0 < k := by decide) : mulD (.int a) (.int b) st = .ok (.int (a * b)) st := by
  show (if decide (MulOk a b) = true then _ else _) = _
  rw [mul_ok ha hb h hj hk, if_pos rfl]

/-! ### stores that grow -/
theorem get_app {st j : Sto} {n : Nat} {o : O} (h : st[n]? = some o) : (st ++ j)[n]? = some o := by
  rw [List.getElem?_append_left (List.getElem?_eq_some_iff.mp h).1]; exact h
theorem listAt_app {st j : Sto} {n : Nat} {xs : List D} (h : listAt st n = some xs) : listAt (st ++ j) n = some xs := by
  unfold listAt at *
  split at h
  · rename_i e; rw [get_app e]; exact h
  · rename_i e; rw [get_app e]; exact h
  · cases h
theorem get_last {st : Sto} {o : O} : (st ++ [o])[st.length]? = some o := by simp
theorem set_last {st : Sto} {o u : O} : (st ++ [o]).set st.length u = st ++ [u] := by simp
theorem listAt_last {st : Sto} {xs : List D} : listAt (st ++ [.lst xs]) st.length = some xs := listAt_lst get_last
/-- st' has all that st has -/
def Le (st st' : Sto) : Prop := ∃ j, st' = st ++ j
theorem Le.refl (st : Sto) : Le st st := ⟨[], by simp⟩
theorem Le.trans {a b c : Sto} (h : Le a b) (k : Le b c) : Le a c := by
  obtain ⟨j, rfl⟩ := h
  obtain ⟨l, rfl⟩ := k
  exact ⟨j ++ l, by simp⟩
theorem Le.app (st j : Sto) : Le st (st ++ j) := ⟨j, rfl⟩
theorem Le.get {a b : Sto} (h : Le a b) {n : Nat} {o : O} (e : a[n]? = some o) : b[n]? = some o := by obtain ⟨j, rfl⟩ := h; exact get_app e
theorem Le.listAt {a b : Sto} (h : Le a b) {n : Nat} {xs : List D} (e : listAt a n = some xs) : VL.listAt b n = some xs := by obtain ⟨j, rfl⟩ := h; exact listAt_app e
theorem Le.len {a b : Sto} (h : Le a b) : a.length ≤ b.length := by obtain ⟨j, rfl⟩ := h; simp

/-! ### loops -/
theorem forL_nil {c : Chk} {gf : GF} {b : SF} {env : EnvD} {st : Sto} (h : ChkOk c st) : forL c gf b [] env st = .ok (.nx env) st := by unfold forL; rw [if_pos h]
theorem forL_cons {c : Chk} {gf : GF} {b : SF} {x : D} {r : List D} {env : EnvD} {st : Sto} (h : ChkOk c st) : forL c gf b (x :: r) env st = (gf x env st).bind fun e s => (b e s).bind fun fl s' => match fl with
      | .nx e' => forL c gf b r e' s'
      | .ct e' => forL c gf b r e' s'
      | .bk e' => .ok (.nx e') s'
      | .rt d => .ok (.rt d) s' := by
  rw [forL, if_pos h]
  all_goals rfl
/-- a loop whose turns all go on -/
theorem forL_inv {c : Chk} {gf : GF} {b : SF} {ds : List D} {env : EnvD} {st : Sto} (I : Nat → EnvD → Sto → Prop) (h0 : I 0 env st) (hc : ∀ i env st, I i env st → ChkOk c st)
    (hs : ∀ i x env st, ds[i]? = some x → I i env st → ∃ e s e' s', gf x env st = .ok e s ∧ b e s = .ok (.nx e') s' ∧ I (i + 1) e' s') : ∃ e' s', forL c gf b ds env st = .ok (.nx e') s' ∧ I ds.length e' s' := by
  have all : ∀ (r : List D) (i : Nat) (env : EnvD) (st : Sto), i ≤ ds.length → ds.drop i = r → I i env st → ∃ e' s', forL c gf b r env st = .ok (.nx e') s' ∧ I ds.length e' s' := by
    intro r
    induction r with
    | nil =>
      intro i env st hi hd h
      have hl : ds.length ≤ i := List.drop_eq_nil_iff.mp hd
      have e : i = ds.length := by omega
      subst e
      exact ⟨env, st, forL_nil (hc _ _ _ h), h⟩
    | cons x r ih =>
      intro i env st hi hd h
      have hx : ds[i]? = some x := by
        have := congrArg (fun l => l[0]?) hd
        simpa using this
      obtain ⟨e, s, e', s', h1, h2, h3⟩ := hs i x env st hx h
      rw [forL_cons (hc _ _ _ h), h1, R.bind_ok, h2, R.bind_ok]
      refine ih (i + 1) e' s' ?_ ?_ h3
      · have := (List.getElem?_eq_some_iff.mp hx).1
        omega
      · have := congrArg List.tail hd
        simpa using this
  exact all ds 0 env st (Nat.zero_le _) (by simp) h0
/-- a loop that looks for the first item of which p is so, and leaves there -/
theorem forL_first {c : Chk} {gf : GF} {b : SF} {p : D → Bool} {r : D → D} {st : Sto} (hc : ChkOk c st) : ∀ {ds : List D} {env : EnvD} (J : EnvD → Prop), J env →
    (∀ x ∈ ds, ∀ env, J env → ∃ e, gf x env st = .ok e st ∧ (p x = true → b e st = .ok (.rt (r x)) st) ∧ (p x = false → ∃ e', b e st = .ok (.nx e') st ∧ J e')) →
    (∃ x, ds.find? p = some x ∧ forL c gf b ds env st = .ok (.rt (r x)) st) ∨ (ds.find? p = none ∧ ∃ e', forL c gf b ds env st = .ok (.nx e') st ∧ J e')
  | [], env, J, h0, _ => .inr ⟨rfl, env, forL_nil hc, h0⟩
  | x :: ds, env, J, h0, hs => by
    obtain ⟨e, h1, h2, h3⟩ := hs x List.mem_cons_self env h0
    rw [forL_cons hc, h1, R.bind_ok]
    cases hp : p x with
    | true => exact .inl ⟨x, by rw [List.find?_cons, hp], by rw [h2 hp, R.bind_ok]⟩
    | false =>
      obtain ⟨e', h4, h5⟩ := h3 hp
      rw [h4, R.bind_ok, List.find?_cons, hp]
      exact forL_first hc J h5 fun y hy => hs y (List.mem_cons_of_mem _ hy)
/-- a loop that goes on as long as each turn does, and leaves with False at the first turn that does not: all turns go on -/
theorem forS_ok {it : ItF} {gf : GF} {b : SF} {env : EnvD} {st : Sto} {ds : List D} {c : Chk} {s : Sto} {r : R Fl} (h : it env st = .ok (ds, c) s) (h2 : forL c gf b ds env s = r) : forS it gf b env st = r := by
  unfold forS; rw [h, R.bind_ok]; exact h2

/-! ### comprehensions -/
theorem lcL_nil {c : Chk} {gf : GF} {tt : TF} {te : EF} {env : EnvD} {n : Nat} {st : Sto} (h : ChkOk c st) : lcL c gf tt te env n [] st = .ok () st := by unfold lcL; rw [if_pos h]
theorem lcL_cons {c : Chk} {gf : GF} {tt : TF} {te : EF} {env : EnvD} {n : Nat} {x : D} {r : List D} {st : Sto} (h : ChkOk c st) : lcL c gf tt te env n (x :: r) st = (gf x env st).noex.bind fun e s => (tt e s).noex.bind fun b s1 => if b = true then (te e s1).noex.bind fun d s2 => match s2[n]? with
        | some (.lst acc) => if acc.length < sizeLine then lcL c gf tt te env n r (s2.set n (.lst (acc ++ [d]))) else .bad
        | _ => .bad
      else lcL c gf tt te env n r s1 := by
  rw [lcL, if_pos h]
  all_goals rfl
/-- a comprehension whose element lays nothing -/
theorem lcL_map {c : Chk} {gf : GF} {te : EF} {env : EnvD} {s : Sto} {h : D → D} (hc : ∀ acc, ChkOk c (s ++ [.lst acc])) : ∀ {ds : List D} {acc : List D}, acc.length + ds.length ≤ sizeLine →
    (∀ x ∈ ds, ∀ acc, ∃ e, gf x env (s ++ [.lst acc]) = .ok e (s ++ [.lst acc]) ∧ te e (s ++ [.lst acc]) = .ok (h x) (s ++ [.lst acc])) →
    lcL c gf yesT te env s.length ds (s ++ [.lst acc]) = .ok () (s ++ [.lst (acc ++ ds.map h)])
  | [], acc, _, _ => by rw [lcL_nil (hc acc)]; simp
  | x :: ds, acc, hl, hb => by
    obtain ⟨e, h1, h2⟩ := hb x List.mem_cons_self acc
    rw [List.length_cons] at hl
    rw [lcL_cons (hc acc), h1, R.noex_ok, R.bind_ok]
    show (R.noex (R.ok true _)).bind _ = _
    rw [R.noex_ok, R.bind_ok, if_pos rfl, h2, R.noex_ok, R.bind_ok, get_last]
    simp only
    rw [if_pos (by omega), set_last, lcL_map hc (by rw [List.length_append, List.length_singleton]; omega) fun y hy => hb y (List.mem_cons_of_mem _ hy)]
    simp
theorem lcF_map {it : ItF} {vs : List Nat} {gf : GF} {te : EF} {env : EnvD} {st s : Sto} {ds : List D} {c : Chk} (h : D → D) (hit : it env st = .ok (ds, c) s) (hc : ∀ acc, ChkOk c (s ++ [.lst acc])) (hl : ds.length ≤ sizeLine)
    (hb : ∀ x ∈ ds, ∀ acc, ∃ e, gf x (wipeE env vs) (s ++ [.lst acc]) = .ok e (s ++ [.lst acc]) ∧ te e (s ++ [.lst acc]) = .ok (h x) (s ++ [.lst acc])) :
    lcF it vs gf yesT te env st = .ok (.ref s.length) (s ++ [.lst (ds.map h)]) := by
  unfold lcF
  rw [hit, R.bind_ok, lcL_map hc (by simpa using hl) hb, R.bind_ok, List.nil_append]
theorem pow62 : (2 : Int) ^ 62 = 4611686018427387904 := by decide
theorem rng1_ok {w : Nat} {st : Sto} (h : w < 4611686018427387904) : rng1D [.int (w : Int)] st = .ok (intsD 0 1 w, []) st := by
  simp only [rng1D]
  rw [pow62, if_pos ⟨by omega, by omega⟩, Int.toNat_natCast]
theorem lenD_list {st : Sto} {n : Nat} {xs : List D} (h : listAt st n = some xs) : lenD [.ref n] st = .ok (.int xs.length) st := by simp only [lenD, h]
theorem lenD_tup {st : Sto} {xs : List D} : lenD [.tup xs] st = .ok (.int xs.length) st := rfl
theorem tupleD_list {st : Sto} {n : Nat} {xs : List D} (h : listAt st n = some xs) : tupleD [.ref n] st = .ok (.tup xs) st := by simp only [tupleD, h]
theorem tyD_list {st : Sto} {n : Nat} {xs : List D} (h : listAt st n = some xs) : tyD "list" (.ref n) st := .inl ⟨rfl, by rw [h]; rfl⟩
theorem appD_ok {st : Sto} {n : Nat} {xs : List D} {d : D} (h : st[n]? = some (.lst xs)) (hz : xs.length < sizeLine) : appD (.ref n) [d] st = .ok .non (st.set n (.lst (xs ++ [d]))) := by
  simp only [appD, h]
  rw [if_pos hz]
theorem ixD_list {st : Sto} {n k : Nat} {xs : List D} {d : D} (h : listAt st n = some xs) (hk : xs[k]? = some d) : ixD (.ref n) (.int (k : Int)) st = .ok d st := by
  simp only [ixD, h, Option.bind_some, atI_nat hk]
theorem ixD_tup {st : Sto} {k : Nat} {xs : List D} {d : D} (hk : xs[k]? = some d) : ixD (.tup xs) (.int (k : Int)) st = .ok d st := by
  simp only [ixD, atI_nat hk]
theorem itD_list {st : Sto} {n : Nat} {xs : List D} (h : listAt st n = some xs) : itD (.ref n) st = .ok (xs, chkAt st n) st := by simp only [itD, h]
theorem itD_tup {st : Sto} {xs : List D} : itD (.tup xs) st = .ok (xs, []) st := rfl
theorem chkAt_ok {st st' : Sto} {n : Nat} {o : O} (h : st[n]? = some o) (h' : st'[n]? = some o) : ChkOk (chkAt st n) st' := by
  unfold chkAt; rw [h]; exact ChkOk.one h'
theorem isN_f {d : D} {st : Sto} : isN false d .non st = .ok (.bl (match d with | .non => true | _ => false)) st := by cases d <;> rfl
theorem isN_t {d : D} {st : Sto} : isN true d .non st = .ok (.bl (match d with | .non => false | _ => true)) st := by cases d <;> rfl
theorem cutD_to {xs : List D} {k : Nat} : cutD xs none (some (k : Int)) = xs.take k := by
  unfold cutD
  rw [HT.sIx_none, HT.sIx_nat, List.drop_zero, Nat.sub_zero]
  by_cases h : k ≤ xs.length
  · rw [Nat.min_eq_left h]
  · rw [Nat.min_eq_right (by omega), List.take_length, List.take_of_length_le (by omega)]
theorem cutD_from {xs : List D} {k : Nat} : cutD xs (some (k : Int)) none = xs.drop k := by
  unfold cutD
  rw [HT.sIx_none, HT.sIx_nat]
  by_cases h : k ≤ xs.length
  · rw [Nat.min_eq_left h]
    exact List.take_of_length_le (by rw [List.length_drop]; omega)
  · rw [Nat.min_eq_right (by omega), List.drop_length, List.drop_of_length_le (by omega)]
    simp
theorem cutD_part {xs : List D} {j k : Nat} : cutD xs (some (j : Int)) (some (k : Int)) = (xs.take k).drop j := by
  unfold cutD
  rw [HT.sIx_nat, HT.sIx_nat, List.drop_take]
  by_cases h : j ≤ xs.length
  · rw [Nat.min_eq_left h]
    by_cases h2 : k ≤ xs.length
    · rw [Nat.min_eq_left h2]
    · rw [Nat.min_eq_right (by omega)]
      rw [List.take_of_length_le (by rw [List.length_drop]; omega), List.take_of_length_le (by rw [List.length_drop]; omega)]
  · rw [Nat.min_eq_right (by omega : xs.length ≤ j), List.drop_length, List.drop_of_length_le (by omega)]
    simp
def N7 : List String := ["NoneType", "bool", "int", "str", "tuple", "list", "dict"]
def T6 : List String := ["int", "bool", "tuple", "list", "dict", "str"]
theorem kit_all : ∀ a ∈ N7, ∀ T ∈ T6, kitB a T = some (a == T || (a == "bool" && T == "int")) := by decide +kernel
theorem tyOfD_mem {d : D} {st : Sto} {a : String} (h : tyOfD d st = some a) : a ∈ N7 := by
  cases d with
  | ref n =>
    simp only [tyOfD] at h
    split at h <;> first | (cases h; done) | (cases h; decide)
  | _ => first | (cases h; done) | (cases h; decide)
/-- isinstance(d, T) -/
def isT (d : D) (st : Sto) (T : String) : Bool := match tyOfD d st with
  | some a => a == T || (a == "bool" && T == "int")
  | none => false
theorem isi_ok {d : D} {st : Sto} {T : String} (h : (tyOfD d st).isSome = true) (hT : T ∈ T6) : isiD [d, .ty T] st = .ok (.bl (isT d st T)) st := by
  obtain ⟨a, ha⟩ := Option.isSome_iff_exists.mp h
  simp only [isiD, ha, Option.bind_some, kit_all a (tyOfD_mem ha) T hT, isT]
/-- a datum of a told type, here and in each later store -/
def Good (d : D) (st : Sto) : Prop := ∀ j, (tyOfD d (st ++ j)).isSome = true ∧ tyOfD d (st ++ j) = tyOfD d st
theorem Good.here {d : D} {st : Sto} (h : Good d st) : (tyOfD d st).isSome = true := by have := (h []).1; rwa [List.append_nil] at this
theorem Good.app {d : D} {st : Sto} (h : Good d st) (j : Sto) : Good d (st ++ j) := fun k => by
  rw [List.append_assoc]
  exact ⟨(h (j ++ k)).1, (h (j ++ k)).2.trans (h j).2.symm⟩
theorem Good.le {d : D} {st st' : Sto} (h : Good d st) (l : Le st st') : Good d st' := by obtain ⟨j, rfl⟩ := l; exact h.app j
theorem Good.ref {n : Nat} {st : Sto} {o : O} (h : st[n]? = some o) (h2 : (tyOfD (.ref n) st).isSome = true) : Good (.ref n) st := fun j => by
  have e : tyOfD (.ref n) (st ++ j) = tyOfD (.ref n) st := by simp only [tyOfD, get_app h, h]
  exact ⟨by rw [e]; exact h2, e⟩
theorem Good.non {st : Sto} : Good .non st := fun _ => ⟨rfl, rfl⟩
theorem Good.bl {st : Sto} {b : Bool} : Good (.bl b) st := fun _ => ⟨rfl, rfl⟩
theorem Good.int {st : Sto} {b : Int} : Good (.int b) st := fun _ => ⟨rfl, rfl⟩
theorem Good.str {st : Sto} {b : Str} : Good (.str b) st := fun _ => ⟨rfl, rfl⟩
theorem Good.tup {st : Sto} {b : List D} : Good (.tup b) st := fun _ => ⟨rfl, rfl⟩
/-- a loop whose turns all go on, while the store only grows -/
theorem forL_le {c : Chk} {gf : GF} {b : SF} {ds : List D} {env : EnvD} {st : Sto} (hc : ChkOk c st) (J : EnvD → Prop) (h0 : J env)
    (hs : ∀ x ∈ ds, ∀ env s, J env → Le st s → ∃ e s1 e' s', gf x env s = .ok e s1 ∧ b e s1 = .ok (.nx e') s' ∧ J e' ∧ Le s s') : ∃ e' s', forL c gf b ds env st = .ok (.nx e') s' ∧ J e' ∧ Le st s' := by
  obtain ⟨e', s', h1, h2, h3⟩ := forL_inv (c := c) (gf := gf) (b := b) (ds := ds) (env := env) (st := st) (fun _ e s => J e ∧ Le st s) ⟨h0, Le.refl st⟩ (fun _ _ s h p hp => h.2.get (hc p hp)) fun i x e s hx ⟨hj, hl⟩ => by
    obtain ⟨e1, s1, e2, s2, h1, h2, h3, h4⟩ := hs x (List.mem_of_getElem? hx) e s hj hl
    exact ⟨e1, s1, e2, s2, h1, h2, h3, hl.trans h4⟩
  exact ⟨e', s', h1, h2, h3⟩
theorem addD_tup {xs ys : List D} {st : Sto} (h : xs.length + ys.length ≤ sizeLine) : addD (.tup xs) (.tup ys) st = .ok (.tup (xs ++ ys)) st := by simp only [addD]; rw [if_pos h]
theorem addD_lst {m n : Nat} {xs ys : List D} {st : Sto} (h1 : st[m]? = some (.lst xs)) (h2 : st[n]? = some (.lst ys)) (h : xs.length + ys.length ≤ sizeLine) : addD (.ref m) (.ref n) st = .ok (.ref st.length) (st ++ [.lst (xs ++ ys)]) := by
  simp only [addD, h1, h2]; rw [if_pos h]; rfl
theorem slD_list {n : Nat} {xs : List D} {lo hi : Option Int} {st : Sto} (h : listAt st n = some xs) : slD (.ref n) lo hi st = .ok (.ref st.length) (st ++ [.lst (cutD xs lo hi)]) := by
  simp only [slD, h]; rfl
theorem allD_ok {n : Nat} {bs : List Bool} {st : Sto} (h : listAt st n = some (bs.map D.bl)) : allD [.ref n] st = .ok (.bl (bs.all id)) st := by
  have e : ∀ bs : List Bool, bools (bs.map D.bl) = some bs := by
    intro bs
    induction bs with
    | nil => rfl
    | cons b bs ih => rw [List.map_cons, bools, ih]; rfl
  simp only [allD, h, Option.bind_some, e]
theorem sizeLine_eq' : sizeLine = 16777216 := by decide
/-! ### comprehensions whose elements lay objects of their own -/
theorem Le.set {a s : Sto} {n : Nat} {o : O} (h : Le a s) (hn : a.length ≤ n) : Le a (s.set n o) := by
  obtain ⟨j, rfl⟩ := h
  exact ⟨j.set (n - a.length) o, by rw [List.set_append_right _ _ hn]⟩
theorem lcL_grow {c : Chk} {gf : GF} {tt : TF} {te : EF} {env : EnvD} {s : Sto} {h : D → D} {p : D → Bool} (hc : ∀ S, Le s S → ChkOk c S) : ∀ {ds acc : List D} {j : Sto}, acc.length + ds.length ≤ sizeLine →
    (∀ x ∈ ds, ∀ S, Le s S → ∃ e j1, gf x env S = .ok e S ∧ tt e S = .ok (p x) (S ++ j1) ∧ (p x = true → ∃ j2, te e (S ++ j1) = .ok (h x) (S ++ j1 ++ j2))) →
    ∃ j', lcL c gf tt te env s.length ds (s ++ .lst acc :: j) = .ok () (s ++ .lst (acc ++ (ds.filter p).map h) :: j')
  | [], acc, j, _, _ => ⟨j, by rw [lcL_nil (hc _ (Le.app _ _))]; simp⟩
  | x :: ds, acc, j, hl, hb => by
    have hle : Le s (s ++ .lst acc :: j) := Le.app _ _
    obtain ⟨e, j1, h1, h2, h3⟩ := hb x List.mem_cons_self _ hle
    rw [List.length_cons] at hl
    rw [lcL_cons (hc _ hle), h1, R.noex_ok, R.bind_ok, h2, R.noex_ok, R.bind_ok]
    cases hp : p x with
    | false =>
      rw [if_neg Bool.false_ne_true, List.filter_cons, if_neg (by rw [hp]; exact Bool.false_ne_true), List.append_assoc, List.cons_append]
      exact lcL_grow hc (by omega) fun y hy => hb y (List.mem_cons_of_mem _ hy)
    | true =>
      obtain ⟨j2, h4⟩ := h3 hp
      rw [if_pos rfl, h4, R.noex_ok, R.bind_ok, List.filter_cons, if_pos hp, List.map_cons]
      have g : (s ++ O.lst acc :: j ++ j1 ++ j2)[s.length]? = some (.lst acc) := by
        rw [List.append_assoc, List.append_assoc, List.getElem?_append_right (Nat.le_refl _), Nat.sub_self]; rfl
      have st : (s ++ O.lst acc :: j ++ j1 ++ j2).set s.length (.lst (acc ++ [h x])) = s ++ O.lst (acc ++ [h x]) :: (j ++ j1 ++ j2) := by
        rw [List.append_assoc, List.append_assoc, List.set_append_right _ _ (Nat.le_refl _), Nat.sub_self]; simp
      rw [g]
      simp only
      rw [if_pos (by omega), st]
      obtain ⟨j', h5⟩ := lcL_grow (acc := acc ++ [h x]) (j := j ++ j1 ++ j2) hc (by rw [List.length_append, List.length_singleton]; omega) fun y hy => hb y (List.mem_cons_of_mem _ hy)
      exact ⟨j', by rw [h5]; simp⟩
theorem lcF_grow {it : ItF} {vs : List Nat} {gf : GF} {tt : TF} {te : EF} {env : EnvD} {st s : Sto} {ds : List D} {c : Chk} (h : D → D) (p : D → Bool) (hit : it env st = .ok (ds, c) s) (hc : ∀ S, Le s S → ChkOk c S) (hl : ds.length ≤ sizeLine)
    (hb : ∀ x ∈ ds, ∀ S, Le s S → ∃ e j1, gf x (wipeE env vs) S = .ok e S ∧ tt e S = .ok (p x) (S ++ j1) ∧ (p x = true → ∃ j2, te e (S ++ j1) = .ok (h x) (S ++ j1 ++ j2))) :
    ∃ j, lcF it vs gf tt te env st = .ok (.ref s.length) (s ++ .lst ((ds.filter p).map h) :: j) := by
  obtain ⟨j, e⟩ := lcL_grow (acc := []) (j := []) hc (by simpa using hl) hb
  exact ⟨j, by unfold lcF; rw [hit, R.bind_ok, e, R.bind_ok, List.nil_append]⟩
/-- .. without a test -/
theorem lcF_all {it : ItF} {vs : List Nat} {gf : GF} {te : EF} {env : EnvD} {st s : Sto} {ds : List D} {c : Chk} (h : D → D) (hit : it env st = .ok (ds, c) s) (hc : ∀ S, Le s S → ChkOk c S) (hl : ds.length ≤ sizeLine)
    (hb : ∀ x ∈ ds, ∀ S, Le s S → ∃ e j, gf x (wipeE env vs) S = .ok e S ∧ te e S = .ok (h x) (S ++ j)) :
    ∃ j, lcF it vs gf yesT te env st = .ok (.ref s.length) (s ++ .lst (ds.map h) :: j) := by
  obtain ⟨j, e⟩ := lcF_grow (tt := yesT) (te := te) (gf := gf) (vs := vs) h (fun _ => true) hit hc hl fun x hx S hS => by
    obtain ⟨e, j, h1, h2⟩ := hb x hx S hS
    exact ⟨e, [], h1, by rw [List.append_nil]; rfl, fun _ => ⟨j, by rw [List.append_nil]; exact h2⟩⟩
  exact ⟨j, by rw [e, List.filter_eq_self.mpr fun _ _ => rfl]⟩
theorem chk_nil {s : Sto} : ∀ S, Le s S → ChkOk [] S := fun _ _ => ChkOk.nil
theorem ChkOk.app {c d : Chk} {S : Sto} (h : ChkOk c S) (k : ChkOk d S) : ChkOk (c ++ d) S := fun p hp => (List.mem_append.mp hp).elim (h p) (k p)
theorem chk_at {s : Sto} {n : Nat} : ∀ S, Le s S → ChkOk (chkAt s n) S := fun S l => by
  unfold chkAt
  split
  · rename_i o h; exact ChkOk.one (l.get h)
  · exact ChkOk.nil
theorem get_at {s j : Sto} {o : O} : (s ++ o :: j)[s.length]? = some o := by rw [List.getElem?_append_right (Nat.le_refl _), Nat.sub_self]; rfl
theorem listAt_at {s j : Sto} {xs : List D} : listAt (s ++ .lst xs :: j) s.length = some xs := listAt_lst get_at
theorem set_at {s j : Sto} {o u : O} : (s ++ o :: j).set s.length u = s ++ u :: j := by rw [List.set_append_right _ _ (Nat.le_refl _), Nat.sub_self]; rfl
theorem Le.def {a b : Sto} (h : Le a b) : ∃ j, b = a ++ j := h
theorem eqF_str {a b : Str} : eqF (.str a) (.str b) = decide (a = b) := by
  show (a == b) = _
  rfl
theorem inL_ok {neg : Bool} {x : D} {ds : List D} {st : Sto} (h : flatD x = true) (h2 : ds.all flatD = true) : inL neg x ds st = .ok (.bl (if neg then !(ds.any fun y => eqF y x) else ds.any fun y => eqF y x)) st := by unfold inL; rw [if_pos ⟨h, h2⟩]
theorem numbered_mem {ds : List D} {d : D} (h : d ∈ numbered ds) : ∃ i x, i < ds.length ∧ ds[i]? = some x ∧ d = .tup [.int (i : Nat), x] := by
  obtain ⟨i, hi⟩ := List.getElem?_of_mem h
  obtain ⟨x, h1, h2⟩ := numbered_get hi
  exact ⟨i, x, (List.getElem?_eq_some_iff.mp h1).1, h1, h2⟩
theorem lcF_any {it : ItF} {vs : List Nat} {gf : GF} {te : EF} {env : EnvD} {st s : Sto} {ds : List D} {c : Chk} {A : Type} (f : A → D) (T : D → A → Prop) (hit : it env st = .ok (ds, c) s) (hc : ∀ S, Le s S → ChkOk c S) (hl : ds.length ≤ sizeLine)
    (hb : ∀ x ∈ ds, ∃ a, T x a ∧ ∀ S, Le s S → ∃ e j, gf x (wipeE env vs) S = .ok e S ∧ te e S = .ok (f a) (S ++ j)) :
    ∃ l : List A, l.length = ds.length ∧ (∃ j, lcF it vs gf yesT te env st = .ok (.ref s.length) (s ++ .lst (l.map f) :: j)) ∧ ∀ a ∈ l, ∃ x ∈ ds, T x a := by
  classical
  by_cases ha : Nonempty A
  · obtain ⟨a0⟩ := ha
    let g : D → A := fun x => if h : ∃ a, T x a ∧ ∀ S, Le s S → ∃ e j, gf x (wipeE env vs) S = .ok e S ∧ te e S = .ok (f a) (S ++ j) then h.choose else a0
    have hg : ∀ x ∈ ds, T x (g x) ∧ ∀ S, Le s S → ∃ e j, gf x (wipeE env vs) S = .ok e S ∧ te e S = .ok (f (g x)) (S ++ j) := by
      intro x hx
      show T x (dite _ _ _) ∧ ∀ S, Le s S → ∃ e j, _ ∧ te e S = .ok (f (dite _ _ _)) (S ++ j)
      rw [dif_pos (hb x hx)]
      exact (hb x hx).choose_spec
    refine ⟨ds.map g, List.length_map _, ?_, fun a ha => ?_⟩
    · obtain ⟨j, e⟩ := lcF_all (fun x => f (g x)) hit hc hl fun x hx => (hg x hx).2
      exact ⟨j, by rw [e, List.map_map]; rfl⟩
    · obtain ⟨x, hx, rfl⟩ := List.mem_map.mp ha
      exact ⟨x, hx, (hg x hx).1⟩
  · have : ds = [] := by
      cases ds with
      | nil => rfl
      | cons x r => obtain ⟨a, _⟩ := hb x List.mem_cons_self; exact absurd ⟨a⟩ ha
    subst this
    obtain ⟨j, e⟩ := lcF_all (vs := vs) (gf := gf) (te := te) (fun x => x) hit hc hl fun x hx => nomatch hx
    exact ⟨[], rfl, ⟨j, e⟩, fun a ha => nomatch ha⟩
theorem minD_ok {a b : Int} {st : Sto} : minD [.int a, .int b] st = .ok (.int (min a b)) st := by
  show R.ok (D.int (if b < a then b else a)) st = _
  congr 2
  rw [Int.min_def]
  split <;> split <;> omega
theorem maxD_ok {a b : Int} {st : Sto} : maxD [.int a, .int b] st = .ok (.int (max a b)) st := by
  show R.ok (D.int (if b > a then b else a)) st = _
  congr 2
  rw [Int.max_def]
  split <;> split <;> omega
def varK (st : Sto) (o : Option (Option D)) : R D := match o with
  | some (some d) => .ok d st
  | _ => .bad
theorem varK_ap {st : Sto} {d : D} : varK st (some (some d)) = .ok d st := rfl
def eqK (o : Option Bool) (st : Sto) : R D := match o with
  | some c => .ok (.bl c) st
  | none => .bad
def neK (o : Option Bool) (st : Sto) : R D := match o with
  | some c => .ok (.bl (!c)) st
  | none => .bad
/-! ### evaluation, step by step (no binder in sight) -/
section
variable {f fa fb fo : EF} {fr : AF} {t u : TF} {a b : SF} {i n : Nat} {d e : D} {env env' : EnvD} {st s : Sto}
theorem varF_ap : varF i env st = varK st env[i]? := rfl
theorem cF_ap : cF d env st = .ok d st := rfl
def opK (g : D → D → Sto → R D) (fb : EF) (env : EnvD) (x : D) (s : Sto) : R D := (fb env s).bind (g x)
theorem opF_ap {g : D → D → Sto → R D} : opF g fa fb env st = (fa env st).bind (opK g fb env) := rfl
theorem opK_ap {g : D → D → Sto → R D} : opK g fb env d s = (fb env s).bind (g d) := rfl
def boolK (d : D) (s : Sto) : R Bool := match d with
  | .bl b => .ok b s
  | _ => .bad
theorem bF_ap : bF f env st = (f env st).bind boolK := rfl
theorem boolK_ap {c : Bool} : boolK (.bl c) s = .ok c s := rfl
def andK (u : TF) (env : EnvD) (c : Bool) (s : Sto) : R Bool := if c = true then u env s else .ok false s
def orK (u : TF) (env : EnvD) (c : Bool) (s : Sto) : R Bool := if c = true then .ok true s else u env s
def notK (c : Bool) (s : Sto) : R Bool := .ok (!c) s
theorem andT_ap : andT t u env st = (t env st).bind (andK u env) := rfl
theorem andK_ap {c : Bool} : andK u env c s = if c = true then u env s else .ok false s := rfl
theorem orT_ap : orT t u env st = (t env st).bind (orK u env) := rfl
theorem orK_ap {c : Bool} : orK u env c s = if c = true then .ok true s else u env s := rfl
theorem notT_ap : notT t env st = (t env st).bind notK := rfl
theorem notK_ap {c : Bool} : notK c s = .ok (!c) s := rfl
theorem yesT_ap : yesT env st = .ok true st := rfl
def andVK (f : EF) (env : EnvD) (c : Bool) (s : Sto) : R D := if c = true then f env s else .ok (.bl false) s
def orVK (f : EF) (env : EnvD) (c : Bool) (s : Sto) : R D := if c = true then .ok (.bl true) s else f env s
def notVK (c : Bool) (s : Sto) : R D := .ok (.bl (!c)) s
theorem andV_ap : andV fa fb env st = (bF fa env st).bind (andVK fb env) := rfl
theorem andVK_ap {c : Bool} : andVK f env c s = if c = true then f env s else .ok (.bl false) s := rfl
theorem orV_ap : orV fa fb env st = (bF fa env st).bind (orVK fb env) := rfl
theorem orVK_ap {c : Bool} : orVK f env c s = if c = true then .ok (.bl true) s else f env s := rfl
theorem notV_ap : notV fa env st = (bF fa env st).bind notVK := rfl
theorem notVK_ap {c : Bool} : notVK c s = .ok (.bl (!c)) s := rfl
def ifFK (fa fb : EF) (env : EnvD) (c : Bool) (s : Sto) : R D := if c = true then fa env s else fb env s
theorem ifF_ap : ifF t fa fb env st = (t env st).bind (ifFK fa fb env) := rfl
theorem ifFK_ap {c : Bool} : ifFK fa fb env c s = if c = true then fa env s else fb env s := rfl
theorem nilA_ap : nilA env st = .ok [] st := rfl
def consK (fr : AF) (env : EnvD) (x : D) (s : Sto) : R (List D) := (fr env s).bind fun xs s' => .ok (x :: xs) s'
def consJ (x : D) (xs : List D) (s : Sto) : R (List D) := .ok (x :: xs) s
theorem consA_ap : consA f fr env st = (f env st).bind (consK fr env) := rfl
theorem consK_ap : consK fr env d s = (fr env s).bind (consJ d) := rfl
theorem consJ_ap {ds : List D} : consJ d ds s = .ok (d :: ds) s := rfl
def tupK (xs : List D) (s : Sto) : R D := if xs.length ≤ sizeLine then .ok (.tup xs) s else .bad
def lstK (xs : List D) (s : Sto) : R D := if xs.length ≤ sizeLine then newO (.lst xs) s else .bad
theorem tupA_ap : tupA fr env st = (fr env st).bind tupK := rfl
theorem tupK_ap {xs : List D} : tupK xs s = if xs.length ≤ sizeLine then .ok (.tup xs) s else .bad := rfl
theorem lstA_ap : lstA fr env st = (fr env st).bind lstK := rfl
theorem lstK_ap {xs : List D} : lstK xs s = if xs.length ≤ sizeLine then newO (.lst xs) s else .bad := rfl
theorem newO_ap {o : O} : newO o st = .ok (.ref st.length) (st ++ [o]) := rfl
theorem dicF_ap : dicF env st = .ok (.ref st.length) (st ++ [.dic []]) := rfl
theorem callF_ap {g : List D → Sto → R D} : callF g fr env st = (fr env st).bind g := rfl
theorem un1_ap {g : D → Sto → R D} : un1 g f env st = (f env st).bind g := rfl
open Classical in
noncomputable def methK (T : String) (g : D → List D → Sto → R D) (fr : AF) (env : EnvD) (d : D) (s : Sto) : R D := if tyD T d s then (fr env s).bind (g d) else .bad
open Classical in
theorem methF_ap {T : String} {g : D → List D → Sto → R D} : methF T g fo fr env st = (fo env st).bind (methK T g fr env) := rfl
open Classical in
theorem methK_ap {T : String} {g : D → List D → Sto → R D} : methK T g fr env d s = if tyD T d s then (fr env s).bind (g d) else .bad := rfl
theorem nonO_ap : nonO env st = .ok none st := rfl
def someK (d : D) (s : Sto) : R (Option Int) := match d with
  | .int i => .ok (some i) s
  | _ => .bad
theorem someO_ap : someO f env st = (f env st).bind someK := rfl
theorem someK_ap {k : Int} : someK (.int k) s = .ok (some k) s := rfl
def slK (fl fh : OF) (env : EnvD) (d : D) (s : Sto) : R D := (fl env s).bind fun lo s1 => (fh env s1).bind fun hi s2 => slD d lo hi s2
def slJ (fh : OF) (env : EnvD) (d : D) (lo : Option Int) (s : Sto) : R D := (fh env s).bind fun hi s2 => slD d lo hi s2
theorem slF_ap {fl fh : OF} : slF f fl fh env st = (f env st).bind (slK fl fh env) := rfl
theorem slK_ap {fl fh : OF} : slK fl fh env d s = (fl env s).bind (slJ fh env d) := rfl
theorem slJ_ap {fh : OF} {lo : Option Int} : slJ fh env d lo s = (fh env s).bind (slD d lo) := rfl
theorem itF_ap : itF f env st = (f env st).bind itD := rfl
theorem itA_ap {g : List D → Sto → R (List D × Chk)} : itA g fr env st = (fr env st).bind g := rfl
theorem nilS_ap : nilS env st = .ok (.nx env) st := rfl
theorem bkS_ap : bkS env st = .ok (.bk env) st := rfl
theorem ctS_ap : ctS env st = .ok (.ct env) st := rfl
def seqK (b : SF) (fl : Fl) (s : Sto) : R Fl := match fl with
  | .nx e => b e s
  | fl => .ok fl s
theorem seqS_ap : seqS a b env st = (a env st).bind (seqK b) := rfl
theorem seqK_nx : seqK b (.nx env) s = b env s := rfl
theorem seqK_rt : seqK b (.rt d) s = .ok (.rt d) s := rfl
theorem seqK_bk : seqK b (.bk env) s = .ok (.bk env) s := rfl
theorem seqK_ct : seqK b (.ct env) s = .ok (.ct env) s := rfl
def dropK (env : EnvD) (_ : D) (s : Sto) : R Fl := .ok (.nx env) s
theorem dropS_ap : dropS f env st = (f env st).bind (dropK env) := rfl
theorem dropK_ap : dropK env d s = .ok (.nx env) s := rfl
def retK (d : D) (s : Sto) : R Fl := .ok (.rt d) s
theorem retS_ap : retS f env st = (f env st).bind retK := rfl
theorem retK_ap : retK d s = .ok (.rt d) s := rfl
theorem retN_ap : retN env st = .ok (.rt .non) st := rfl
def ifK (a b : SF) (env : EnvD) (c : Bool) (s : Sto) : R Fl := if c = true then a env s else b env s
theorem ifS_ap : ifS t a b env st = (t env st).bind (ifK a b env) := rfl
theorem ifK_ap {c : Bool} : ifK a b env c s = if c = true then a env s else b env s := rfl
def setK (i : Nat) (env : EnvD) (d : D) (s : Sto) : R Fl := .ok (.nx (env.set i (some d))) s
theorem setS_ap : setS i f env st = (f env st).bind (setK i env) := rfl
theorem setK_ap : setK i env d s = .ok (.nx (env.set i (some d))) s := rfl
def asgK (gf : GF) (env : EnvD) (d : D) (s : Sto) : R Fl := (gf d env s).bind fun e s' => .ok (.nx e) s'
def asgJ (e : EnvD) (s : Sto) : R Fl := .ok (.nx e) s
theorem asgS_ap {gf : GF} : asgS f gf env st = (f env st).bind (asgK gf env) := rfl
theorem asgK_ap {gf : GF} : asgK gf env d s = (gf d env s).bind asgJ := rfl
theorem asgJ_ap : asgJ env s = .ok (.nx env) s := rfl
theorem nameG_ap : nameG i d env st = .ok (env.set i (some d)) st := rfl
theorem nilG_ap : nilG [] env st = .ok env st := rfl
def consGK (r : List D → EnvD → Sto → R EnvD) (ds : List D) (e : EnvD) (s : Sto) : R EnvD := r ds e s
theorem consG_ap {g : GF} {r : List D → EnvD → Sto → R EnvD} {ds : List D} : consG g r (d :: ds) env st = (g d env st).bind (consGK r ds) := rfl
theorem consGK_ap {r : List D → EnvD → Sto → R EnvD} {ds : List D} : consGK r ds env s = r ds env s := rfl
theorem tupG_ap {g : List D → EnvD → Sto → R EnvD} {ds : List D} : tupG n g (.tup ds) env st = if ds.length = n then g ds env st else .bad := rfl
def fnK (fl : Fl) (s : Sto) : R D := match fl with
  | .nx _ => .ok .non s
  | .rt d => .ok d s
  | _ => .bad
theorem fnF_ap {ds : List D} : fnF n a ds st = (a (startE n ds) st).bind fnK := rfl
theorem fnK_nx : fnK (.nx env) s = .ok .non s := rfl
theorem fnK_rt : fnK (.rt d) s = .ok d s := rfl
noncomputable def forK (gf : GF) (b : SF) (env : EnvD) (p : List D × Chk) (s : Sto) : R Fl := forL p.2 gf b p.1 env s
theorem forS_ap {it : ItF} {gf : GF} : forS it gf b env st = (it env st).bind (forK gf b env) := rfl
theorem forK_ap {gf : GF} {ds : List D} {c : Chk} : forK gf b env (ds, c) s = forL c gf b ds env s := rfl
theorem intD_ap {c : Int → Int → Bool} {g : Int → Int → D} {j k : Int} : intD c g (.int j) (.int k) st = if c j k = true then .ok (g j k) st else .bad := rfl
theorem negD_ap {k : Int} : negD (.int k) st = .ok (.int (-k)) st := rfl
theorem addI_ap {j k : Int} : addD (.int j) (.int k) st = .ok (.int (j + k)) st := rfl
theorem bind_ok_ {A B : Type} {x : A} {k : A → Sto → R B} : (R.ok x s).bind k = k x s := rfl
theorem bind_ex_ {A B : Type} {c : Str} {k : A → Sto → R B} : (R.ex c s : R A).bind k = .ex c s := rfl
theorem eqD_ap : eqD d e st = eqK (eqP d e) st := by unfold eqD eqK; rfl
theorem eqK_ap {c : Bool} : eqK (some c) st = .ok (.bl c) st := rfl
theorem neD_ap : neD d e st = neK (eqP d e) st := by unfold neD neK; rfl
theorem neK_ap {c : Bool} : neK (some c) st = .ok (.bl (!c)) st := rfl
theorem eqP_str {x y : Str} : eqP (.str x) (.str y) = some (decide (x = y)) := rfl
theorem eqP_int {x y : Int} : eqP (.int x) (.int y) = some (decide (x = y)) := rfl
theorem eqP_bl {x y : Bool} : eqP (.bl x) (.bl y) = some (decide (x = y)) := rfl
theorem eqP_non : eqP .non .non = some true := rfl
theorem eqP_ni {x : Int} : eqP .non (.int x) = some false := rfl
theorem eqP_in {x : Int} : eqP (.int x) .non = some false := rfl
theorem inS_tup {neg : Bool} {ds : List D} : inSq neg d (.tup ds) st = inL neg d ds st := by cases d <;> rfl
end
theorem subD_ap {a b : Int} {st : Sto} : subD (.int a) (.int b) st = .ok (.int (a - b)) st := rfl
theorem ltD_ap {a b : Int} {st : Sto} : ltD (.int a) (.int b) st = .ok (.bl (decide (a < b))) st := rfl
theorem leD_ap {a b : Int} {st : Sto} : leD (.int a) (.int b) st = .ok (.bl (decide (a ≤ b))) st := rfl
theorem gtD_ap {a b : Int} {st : Sto} : gtD (.int a) (.int b) st = .ok (.bl (decide (a > b))) st := rfl
theorem geD_ap {a b : Int} {st : Sto} : geD (.int a) (.int b) st = .ok (.bl (decide (a ≥ b))) st := rfl
theorem mulD_ap {a b : Int} {st : Sto} (h : MulOk a b) : mulD (.int a) (.int b) st = .ok (.int (a * b)) st := by
  show (if decide (MulOk a b) = true then _ else _) = _
  rw [if_pos (decide_eq_true h)]
theorem modD_ap {a b : Int} {st : Sto} (h : 0 < b) : modD (.int a) (.int b) st = .ok (.int (a % b)) st := by
  show (if decide (0 < b) = true then _ else _) = _
  rw [if_pos (decide_eq_true h)]
theorem divD_ap {a b : Int} {st : Sto} (h : 0 < b) (h2 : b.natAbs.log2 < 9000) : divD (.int a) (.int b) st = .ok (.int (a / b)) st := by
  show (if decide (0 < b ∧ b.natAbs.log2 < 9000) = true then _ else _) = _
  rw [if_pos (decide_eq_true ⟨h, h2⟩)]
theorem powD_ap {a b : Int} {st : Sto} (h : 0 ≤ b ∧ b ≤ 1000000 ∧ a.natAbs < 2 ^ 64) : powD (.int a) (.int b) st = .ok (.int (a ^ b.toNat)) st := by
  show (if decide (0 ≤ b ∧ b ≤ 1000000 ∧ a.natAbs < 2 ^ 64) = true then _ else _) = _
  rw [if_pos (decide_eq_true h)]
theorem tupK_ok {xs : List D} {st : Sto} (h : xs.length ≤ sizeLine) : tupK xs st = .ok (.tup xs) st := by rw [tupK_ap, if_pos h]
theorem lstK_ok {xs : List D} {st : Sto} (h : xs.length ≤ sizeLine) : lstK xs st = .ok (.ref st.length) (st ++ [.lst xs]) := by rw [lstK_ap, if_pos h]; rfl
theorem methK_ok {T : String} {g : D → List D → Sto → R D} {fr : AF} {env : EnvD} {d : D} {s : Sto} (h : tyD T d s) : methK T g fr env d s = (fr env s).bind (g d) := by rw [methK_ap, if_pos h]
theorem tupG_ok {n : Nat} {g : List D → EnvD → Sto → R EnvD} {ds : List D} {env : EnvD} {st : Sto} (h : ds.length = n) : tupG n g (.tup ds) env st = g ds env st := by rw [tupG_ap, if_pos h]
theorem eqS_t {x : Str} {st : Sto} : eqD (.str x) (.str x) st = .ok (.bl true) st := by rw [eqD_ap, eqP_str, decide_eq_true rfl]; rfl
theorem eqS_f {x y : Str} {st : Sto} (h : x ≠ y) : eqD (.str x) (.str y) st = .ok (.bl false) st := by rw [eqD_ap, eqP_str, decide_eq_false h]; rfl
theorem neS_t {x : Str} {st : Sto} : neD (.str x) (.str x) st = .ok (.bl false) st := by rw [neD_ap, eqP_str, decide_eq_true rfl]; rfl
theorem neS_f {x y : Str} {st : Sto} (h : x ≠ y) : neD (.str x) (.str y) st = .ok (.bl true) st := by rw [neD_ap, eqP_str, decide_eq_false h]; rfl
theorem eqI_ap {x y : Int} {st : Sto} : eqD (.int x) (.int y) st = .ok (.bl (decide (x = y))) st := rfl
theorem neI_ap {x y : Int} {st : Sto} : neD (.int x) (.int y) st = .ok (.bl (!decide (x = y))) st := rfl
/-- x among texts -/
def isTx : List D → Bool
  | [] => true
  | .str _ :: r => isTx r
  | _ => false
theorem isTx_flat : ∀ {ds : List D}, isTx ds = true → ds.all flatD = true
  | [], _ => rfl
  | .str x :: r, h => by rw [List.all_cons, isTx_flat (ds := r) h]; rfl
  | .non :: r, h => by cases h
  | .bl _ :: r, h => by cases h
  | .int _ :: r, h => by cases h
  | .tup _ :: r, h => by cases h
  | .ref _ :: r, h => by cases h
  | .glb _ :: r, h => by cases h
  | .ty _ :: r, h => by cases h
  | .clo _ _ :: r, h => by cases h
theorem inT_nil {neg : Bool} {x : Str} {st : Sto} : inSq neg (.str x) (.tup []) st = .ok (.bl neg) st := by
  show inL neg (.str x) [] st = _
  rw [inL_ok rfl rfl]; cases neg <;> rfl
theorem inT_hit {neg : Bool} {x : Str} {ds : List D} {st : Sto} (h : isTx ds = true) : inSq neg (.str x) (.tup (.str x :: ds)) st = .ok (.bl (!neg)) st := by
  show inL neg (.str x) (.str x :: ds) st = _
  rw [inL_ok rfl (by rw [List.all_cons, isTx_flat h]; rfl), List.any_cons, eqF_str, decide_eq_true rfl, Bool.true_or]
  cases neg <;> rfl
theorem inT_miss {neg : Bool} {x y : Str} {ds : List D} {st : Sto} (h : x ≠ y) : inSq neg (.str x) (.tup (.str y :: ds)) st = inSq neg (.str x) (.tup ds) st := by
  show inL neg (.str x) (.str y :: ds) st = inL neg (.str x) ds st
  unfold inL
  rw [List.all_cons, List.any_cons, eqF_str, decide_eq_false (fun e => h e.symm), Bool.false_or]
  rfl
end VL

namespace Law
open PySem PySem.Spec PyProof.Rows L2 VL RZ RT
/-! ### the functions -/
noncomputable def b_besides_of : SF :=
    (seqS (setS 2 (opF ixD (varF 0) (cF (.int 0))))
    (seqS (ifS (bF (opF (inSq false) (varF 2) (tupA (consA (cF (.str "sieve")) (consA (cF (.str "cols")) (consA (cF (.str "count")) nilA)))))) (retS (tupA (consA (opF ixD (varF 0) (cF (.int 2))) nilA))) nilS)
    (seqS (ifS (bF (opF (inSq false) (varF 2) (tupA (consA (cF (.str "sum")) (consA (cF (.str "least")) (consA (cF (.str "most")) nilA)))))) (retS (tupA (consA (opF ixD (varF 0) (cF (.int 2))) (consA (opF ixD (varF 0) (cF (.int 3))) nilA)))) nilS)
    (seqS (ifS (bF (opF eqD (varF 2) (cF (.str "first")))) (retS (tupA (consA (opF ixD (varF 0) (cF (.int 2))) (consA (opF ixD (varF 0) (cF (.int 3))) (consA (opF ixD (varF 0) (cF (.int 4))) nilA))))) nilS)
    (seqS (ifS (bF (opF eqD (varF 2) (cF (.str "left")))) (retS (tupA (consA (opF ixD (varF 0) (cF (.int 3))) (consA (varF 1) nilA)))) nilS)
    (seqS (ifS (bF (opF (inSq false) (varF 2) (tupA (consA (cF (.str "join")) (consA (cF (.str "notin")) nilA))))) (retS (tupA (consA (opF ixD (varF 0) (cF (.int 3))) nilA))) nilS)
    (retS (tupA nilA))))))))
noncomputable def f_besides_of : Fn := fnF 3 b_besides_of
noncomputable def b_width_of : SF :=
    (seqS (setS 2 (opF ixD (varF 0) (cF (.int 0))))
    (seqS (ifS (bF (opF eqD (varF 2) (cF (.str "cols")))) (retS (callF lenD (consA (opF ixD (opF ixD (varF 0) (cF (.int 1))) (cF (.int 0))) nilA))) nilS)
    (seqS (ifS (bF (opF eqD (varF 2) (cF (.str "count")))) (retS (opF addD (callF lenD (consA (opF ixD (opF ixD (varF 0) (cF (.int 1))) (cF (.int 0))) nilA)) (cF (.int 1)))) nilS)
    (seqS (ifS (bF (opF (inSq false) (varF 2) (tupA (consA (cF (.str "sum")) (consA (cF (.str "least")) (consA (cF (.str "most")) nilA)))))) (retS (opF addD (callF lenD (consA (opF ixD (opF ixD (varF 0) (cF (.int 1))) (cF (.int 1))) nilA)) (cF (.int 1)))) nilS)
    (seqS (ifS (bF (opF (inSq false) (varF 2) (tupA (consA (cF (.str "join")) (consA (cF (.str "left")) nilA))))) (retS (opF addD (opF ixD (varF 1) (opF ixD (opF ixD (varF 0) (cF (.int 2))) (cF (.int 0)))) (opF ixD (varF 1) (opF ixD (opF ixD (varF 0) (cF (.int 2))) (cF (.int 1)))))) nilS)
    (retS (opF ixD (varF 1) (opF ixD (opF ixD (varF 0) (cF (.int 2))) (cF (.int 0))))))))))
noncomputable def f_width_of : Fn := fnF 3 b_width_of
noncomputable def b_Net___init__ : SF :=
    (seqS (fsetS "Net" "laid" (varF 0) (lstA nilA))
    (seqS (fsetS "Net" "wide" (varF 0) (lstA nilA))
    (fsetS "Net" "numbers" (varF 0) dicF)))
noncomputable def f_Net___init__ : Fn := fnF 1 b_Net___init__
noncomputable def b_Net_put : SF :=
    (seqS (ifS (bF (opF (kinD true) (varF 1) (un1 (fldK "Net" "numbers") (varF 0)))) (seqS (kputS (callF lenD (consA (un1 (fldK "Net" "laid") (varF 0)) nilA)) (un1 (fldK "Net" "numbers") (varF 0)) (varF 1))
    (seqS (dropS (methF "list" appD (un1 (fldK "Net" "laid") (varF 0)) (consA (varF 1) nilA)))
    (dropS (methF "list" appD (un1 (fldK "Net" "wide") (varF 0)) (consA (varF 2) nilA))))) nilS)
    (retS (opF kixD (un1 (fldK "Net" "numbers") (varF 0)) (varF 1))))
noncomputable def f_Net_put : Fn := fnF 3 b_Net_put
noncomputable def b_Net_width : SF :=
    (retS (opF ixD (un1 (fldK "Net" "wide") (varF 0)) (varF 1)))
noncomputable def f_Net_width : Fn := fnF 2 b_Net_width
noncomputable def b_Net_nodes : SF :=
    (retS (callF listD (consA (un1 (fldK "Net" "laid") (varF 0)) nilA)))
noncomputable def f_Net_nodes : Fn := fnF 1 b_Net_nodes
noncomputable def b__law_cell_at : SF :=
    (seqS (ifS (bF (opF ltD (varF 1) (callF lenD (consA (varF 0) nilA)))) (retS (opF ixD (varF 0) (varF 1))) nilS)
    (retS (cF (.int 0))))
noncomputable def f__law_cell_at : Fn := fnF 2 b__law_cell_at
noncomputable def b__law_whole : SF :=
    (retS (andV (callF isiD (consA (varF 0) (consA (cF (.ty "int")) nilA))) (notV (callF isiD (consA (varF 0) (consA (cF (.ty "bool")) nilA))))))
noncomputable def f__law_whole : Fn := fnF 1 b__law_whole
noncomputable def b__law_mixed : SF :=
    (retS (opF addD (opF modD (opF mulD (varF 0) (cF (.int 69621))) (cF (.int 2147483629))) (opF mulD (cF (.int 2147483629)) (opF modD (varF 0) (opF powD (cF (.int 10)) (cF (.int 30)))))))
noncomputable def f__law_mixed : Fn := fnF 1 b__law_mixed
noncomputable def l0__law_digits : SF :=
    (seqS (dropS (methF "list" appD (varF 3) (consA (opF modD (varF 0) (varF 2)) nilA)))
    (setS 0 (opF divD (varF 0) (varF 2))))
noncomputable def b__law_digits : SF :=
    (seqS (setS 3 (lstA nilA))
    (seqS (forS (itA rng1D (consA (varF 1) nilA)) (nameG 4) (l0__law_digits))
    (retS (varF 3))))
noncomputable def f__law_digits : Fn := fnF 5 b__law_digits
noncomputable def b__law_fresh : SF :=
    (seqS (setS 2 (cF (.str "abcdefghijklmnopqrstuvwxyz")))
    (retS (opF addD (opF addD (opF ixD (varF 0) (cF (.int 0))) (opF ixD (varF 2) (opF modD (varF 1) (cF (.int 26))))) (opF ixD (varF 2) (opF modD (opF divD (varF 1) (cF (.int 26))) (cF (.int 26)))))))
noncomputable def f__law_fresh : Fn := fnF 3 b__law_fresh
noncomputable def b__law_term : SF :=
    (seqS (setS 2 (tupA (consA (cF (.str "at")) (consA (opF modD (opF divD (varF 0) (cF (.int 6))) (varF 1)) nilA))))
    (seqS (setS 3 (tupA (consA (cF (.str "at")) (consA (opF modD (opF divD (varF 0) (cF (.int 72))) (varF 1)) nilA))))
    (seqS (ifS (bF (opF eqD (opF modD (varF 0) (cF (.int 6))) (cF (.int 1)))) (retS (tupA (consA (tupA (consA (cF (.str "num")) (consA (opF subD (opF modD (varF 0) (opF powD (cF (.int 10)) (cF (.int 30)))) (opF modD (opF divD (varF 0) (cF (.int 7))) (opF powD (cF (.int 10)) (cF (.int 29))))) nilA))) (consA (cF (.int 1)) nilA)))) nilS)
    (seqS (ifS (bF (opF eqD (opF modD (varF 0) (cF (.int 6))) (cF (.int 2)))) (retS (tupA (consA (tupA (consA (cF (.str "gap")) nilA)) (consA (cF (.int 1)) nilA)))) nilS)
    (seqS (ifS (bF (opF eqD (opF modD (varF 0) (cF (.int 6))) (cF (.int 3)))) (retS (tupA (consA (tupA (consA (cF (.str "times")) (consA (cF (.int 7)) (consA (varF 2) nilA)))) (consA (cF (.int 2)) nilA)))) nilS)
    (seqS (ifS (bF (opF eqD (opF modD (varF 0) (cF (.int 6))) (cF (.int 4)))) (retS (tupA (consA (tupA (consA (cF (.str "plus")) (consA (varF 2) (consA (tupA (consA (cF (.str "minus")) (consA (varF 3) (consA (tupA (consA (cF (.str "num")) (consA (cF (.int 1)) nilA))) nilA)))) nilA)))) (consA (cF (.int 5)) nilA)))) nilS)
    (seqS (ifS (bF (opF eqD (opF modD (varF 0) (cF (.int 6))) (cF (.int 5)))) (retS (tupA (consA (tupA (consA (cF (.str "if")) (consA (tupA (consA (cF (.str "not")) (consA (tupA (consA (cF (.str "same")) (consA (varF 2) (consA (tupA (consA (cF (.str "gap")) nilA)) nilA)))) nilA))) (consA (varF 3) (consA (tupA (consA (cF (.str "rest")) (consA (cF (.int 3)) (consA (varF 2) nilA)))) nilA))))) (consA (cF (.int 8)) nilA)))) nilS)
    (retS (tupA (consA (varF 2) (consA (cF (.int 1)) nilA)))))))))))
noncomputable def f__law_term : Fn := fnF 4 b__law_term
noncomputable def b__law_asked : SF :=
    (seqS (setS 2 (tupA (consA (cF (.str "at")) (consA (opF modD (opF divD (varF 0) (cF (.int 3))) (varF 1)) nilA))))
    (seqS (setS 3 (tupA (consA (cF (.str "at")) (consA (opF modD (opF divD (varF 0) (cF (.int 36))) (varF 1)) nilA))))
    (seqS (ifS (bF (opF eqD (opF modD (varF 0) (cF (.int 3))) (cF (.int 1)))) (retS (tupA (consA (tupA (consA (cF (.str "and")) (consA (tupA (consA (cF (.str "not")) (consA (tupA (consA (cF (.str "below")) (consA (varF 2) (consA (tupA (consA (cF (.str "num")) (consA (cF (.int 4)) nilA))) nilA)))) nilA))) (consA (tupA (consA (cF (.str "same")) (consA (varF 3) (consA (tupA (consA (cF (.str "gap")) nilA)) nilA)))) nilA)))) (consA (cF (.int 8)) nilA)))) nilS)
    (seqS (ifS (bF (opF eqD (opF modD (varF 0) (cF (.int 3))) (cF (.int 2)))) (retS (tupA (consA (tupA (consA (cF (.str "or")) (consA (tupA (consA (cF (.str "same")) (consA (tupA (consA (cF (.str "part")) (consA (cF (.int 2)) (consA (varF 2) nilA)))) (consA (varF 3) nilA)))) (consA (tupA (consA (cF (.str "below")) (consA (varF 3) (consA (varF 2) nilA)))) nilA)))) (consA (cF (.int 8)) nilA)))) nilS)
    (retS (tupA (consA (tupA (consA (cF (.str "below")) (consA (varF 2) (consA (varF 3) nilA)))) (consA (cF (.int 3)) nilA))))))))
noncomputable def f__law_asked : Fn := fnF 4 b__law_asked
noncomputable def q0__law_fitted : EF :=
    (lcF (itA rng1D (consA (varF 1) nilA)) [3] (nameG 3) yesT (tupA (consA (cF (.str "at")) (consA (opF modD (varF 3) (opF ixD (varF 0) (cF (.int 1)))) nilA))))
noncomputable def b__law_fitted : SF :=
    (seqS (ifS (bF (opF eqD (opF ixD (varF 0) (cF (.int 1))) (varF 1))) (retS (varF 0)) nilS)
    (seqS (setS 2 (callF tupleD (consA (q0__law_fitted) nilA)))
    (retS (tupA (consA (tupA (consA (cF (.str "cols")) (consA (opF ixD (varF 0) (cF (.int 0))) (consA (varF 2) nilA)))) (consA (varF 1) (consA (opF addD (opF addD (cF (.int 1)) (varF 1)) (opF ixD (varF 0) (cF (.int 2)))) (consA (opF addD (opF addD (cF (.int 24)) (opF mulD (cF (.int 4)) (varF 1))) (opF ixD (varF 0) (cF (.int 3)))) (consA (opF addD (cF (.int 1)) (opF ixD (varF 0) (cF (.int 4)))) nilA)))))))))
noncomputable def f__law_fitted : Fn := fnF 4 b__law_fitted
noncomputable def b__law_once : SF :=
    (retS (tupA (consA (tupA (consA (cF (.str "once")) (consA (opF ixD (varF 0) (cF (.int 0))) nilA))) (consA (opF ixD (varF 0) (cF (.int 1))) (consA (opF addD (cF (.int 1)) (opF ixD (varF 0) (cF (.int 2)))) (consA (opF addD (cF (.int 24)) (opF ixD (varF 0) (cF (.int 3)))) (consA (opF addD (cF (.int 1)) (opF ixD (varF 0) (cF (.int 4)))) nilA)))))))
noncomputable def f__law_once : Fn := fnF 1 b__law_once
noncomputable def b__law_besides : SF :=
    (seqS (setS 2 (opF ixD (varF 0) (cF (.int 0))))
    (seqS (ifS (bF (opF (inSq false) (varF 2) (tupA (consA (cF (.str "sieve")) (consA (cF (.str "cols")) (consA (cF (.str "count")) nilA)))))) (retS (tupA (consA (opF ixD (varF 0) (cF (.int 2))) nilA))) nilS)
    (seqS (ifS (bF (opF (inSq false) (varF 2) (tupA (consA (cF (.str "sum")) (consA (cF (.str "least")) (consA (cF (.str "most")) nilA)))))) (retS (tupA (consA (opF ixD (varF 0) (cF (.int 2))) (consA (opF ixD (varF 0) (cF (.int 3))) nilA)))) nilS)
    (seqS (ifS (bF (opF eqD (varF 2) (cF (.str "first")))) (retS (tupA (consA (opF ixD (varF 0) (cF (.int 2))) (consA (opF ixD (varF 0) (cF (.int 3))) (consA (opF ixD (varF 0) (cF (.int 4))) nilA))))) nilS)
    (seqS (ifS (bF (opF eqD (varF 2) (cF (.str "left")))) (retS (tupA (consA (opF ixD (varF 0) (cF (.int 3))) (consA (varF 1) nilA)))) nilS)
    (seqS (ifS (bF (opF (inSq false) (varF 2) (tupA (consA (cF (.str "join")) (consA (cF (.str "notin")) nilA))))) (retS (tupA (consA (opF ixD (varF 0) (cF (.int 3))) nilA))) nilS)
    (retS (tupA nilA))))))))
noncomputable def f__law_besides : Fn := fnF 3 b__law_besides
noncomputable def b__law_wide : SF :=
    (seqS (setS 2 (opF ixD (varF 0) (cF (.int 0))))
    (seqS (ifS (bF (opF eqD (varF 2) (cF (.str "table")))) (retS (opF ixD (opF ixD (varF 0) (cF (.int 1))) (cF (.int 1)))) nilS)
    (seqS (ifS (bF (opF eqD (varF 2) (cF (.str "cols")))) (retS (callF lenD (consA (opF ixD (opF ixD (varF 0) (cF (.int 1))) (cF (.int 0))) nilA))) nilS)
    (seqS (ifS (bF (opF eqD (varF 2) (cF (.str "count")))) (retS (opF addD (cF (.int 1)) (callF lenD (consA (opF ixD (opF ixD (varF 0) (cF (.int 1))) (cF (.int 0))) nilA)))) nilS)
    (seqS (ifS (bF (opF (inSq false) (varF 2) (tupA (consA (cF (.str "sum")) (consA (cF (.str "least")) (consA (cF (.str "most")) nilA)))))) (retS (opF addD (cF (.int 1)) (callF lenD (consA (opF ixD (opF ixD (varF 0) (cF (.int 1))) (cF (.int 1))) nilA)))) nilS)
    (seqS (ifS (bF (opF (inSq false) (varF 2) (tupA (consA (cF (.str "join")) (consA (cF (.str "left")) nilA))))) (retS (opF addD (opF ixD (varF 1) (opF ixD (opF ixD (varF 0) (cF (.int 2))) (cF (.int 0)))) (opF ixD (varF 1) (opF ixD (opF ixD (varF 0) (cF (.int 2))) (cF (.int 1)))))) nilS)
    (retS (opF ixD (varF 1) (opF ixD (opF ixD (varF 0) (cF (.int 2))) (cF (.int 0)))))))))))
noncomputable def f__law_wide : Fn := fnF 3 b__law_wide
noncomputable def b_Net_table : SF :=
    (retS (methO "Net" "put" f_Net_put (varF 0) (consA (tupA (consA (cF (.str "table")) (consA (tupA (consA (varF 1) (consA (varF 2) nilA))) (consA (tupA nilA) nilA)))) (consA (varF 2) nilA))))
noncomputable def f_Net_table : Fn := fnF 3 b_Net_table
noncomputable def b_Net_worded : SF :=
    (seqS (setS 4 (tupA (consA (varF 1) (consA (varF 2) (consA (varF 3) nilA)))))
    (retS (methO "Net" "put" f_Net_put (varF 0) (consA (varF 4) (consA (callF f_width_of (consA (varF 4) (consA (un1 (fldK "Net" "wide") (varF 0)) nilA))) nilA)))))
noncomputable def f_Net_worded : Fn := fnF 5 b_Net_worded
noncomputable def q0__law_names : EF :=
    (lcF (itA rng1D (consA (callF lenD (consA (varF 3) nilA)) nilA)) [7] (nameG 7) yesT (opF ixD (varF 1) (opF modD (opF addD (opF ixD (varF 3) (varF 7)) (opF mulD (varF 6) (callF int1D (consA (opF eqD (varF 7) (varF 4)) nilA)))) (cF (.int 26)))))
noncomputable def l0__law_names : SF :=
    (dropS (methF "list" appD (varF 5) (consA (methF "str" joinD (cF (.str "")) (consA (q0__law_names) nilA)) nilA)))
noncomputable def b__law_names : SF :=
    (seqS (setS 1 (cF (.str "abcdefghijklmnopqrstuvwxyz")))
    (seqS (setS 2 (callF f__law_mixed (consA (varF 0) nilA)))
    (seqS (setS 3 (callF f__law_digits (consA (opF divD (varF 2) (cF (.int 25))) (consA (opF addD (cF (.int 1)) (opF modD (varF 2) (cF (.int 5)))) (consA (cF (.int 26)) nilA)))))
    (seqS (setS 4 (opF modD (opF modD (opF divD (varF 2) (cF (.int 5))) (cF (.int 5))) (callF lenD (consA (varF 3) nilA))))
    (seqS (setS 5 (lstA nilA))
    (seqS (forS (itA rng1D (consA (cF (.int 4)) nilA)) (nameG 6) (l0__law_names))
    (retS (varF 5))))))))
noncomputable def f__law_names : Fn := fnF 8 b__law_names
noncomputable def q0__law_grouped : EF :=
    (lcF (itF (un1 backD (varF 4))) [6] (nameG 6) yesT (tupA (consA (varF 6) (consA (opF eqD (opF modD (opF addD (varF 6) (opF divD (varF 0) (cF (.int 12)))) (cF (.int 2))) (cF (.int 0))) nilA))))
noncomputable def b__law_grouped : SF :=
    (seqS (setS 3 (opF ixD (varF 2) (cF (.int 1))))
    (seqS (setS 4 (callF tupleD (consA (callF f__law_digits (consA (opF divD (varF 0) (cF (.int 144))) (consA (opF modD (varF 0) (cF (.int 12))) (consA (varF 3) nilA)))) nilA)))
    (seqS (ifS (bF (opF eqD (varF 1) (cF (.str "count")))) (retS (tupA (consA (tupA (consA (varF 1) (consA (opF ixD (varF 2) (cF (.int 0))) (consA (varF 4) nilA)))) (consA (opF addD (callF lenD (consA (varF 4) nilA)) (cF (.int 1))) (consA (callF lenD (consA (varF 4) nilA)) nilA))))) nilS)
    (seqS (ifS (bF (opF eqD (varF 1) (cF (.str "first")))) (seqS (setS 5 (callF tupleD (consA (slF (q0__law_grouped) nonO (someO (opF modD (opF divD (varF 0) (cF (.int 12))) (cF (.int 13))))) nilA)))
    (retS (tupA (consA (tupA (consA (varF 1) (consA (opF ixD (varF 2) (cF (.int 0))) (consA (opF modD (opF divD (varF 0) (cF (.int 12))) (cF (.int 61))) (consA (varF 4) (consA (varF 5) nilA)))))) (consA (varF 3) (consA (opF addD (callF lenD (consA (varF 4) nilA)) (callF lenD (consA (varF 5) nilA))) nilA)))))) nilS)
    (retS (tupA (consA (tupA (consA (varF 1) (consA (opF ixD (varF 2) (cF (.int 0))) (consA (opF modD (opF divD (varF 0) (cF (.int 12))) (varF 3)) (consA (varF 4) nilA))))) (consA (opF addD (callF lenD (consA (varF 4) nilA)) (cF (.int 1))) (consA (callF lenD (consA (varF 4) nilA)) nilA)))))))))
noncomputable def f__law_grouped : Fn := fnF 7 b__law_grouped
noncomputable def b__law_two : SF :=
    (seqS (setS 4 (opF ixD (varF 2) (cF (.int 1))))
    (seqS (setS 5 (cF (.int 0)))
    (seqS (ifS (bF (opF (inSq false) (varF 1) (tupA (consA (cF (.str "pour")) (consA (cF (.str "both")) (consA (cF (.str "either")) (consA (cF (.str "less")) nilA))))))) (seqS (setS 3 (callF f__law_fitted (consA (varF 3) (consA (varF 4) nilA))))
    (setS 6 (tupA (consA (varF 1) (consA (opF ixD (varF 2) (cF (.int 0))) (consA (opF ixD (varF 3) (cF (.int 0))) nilA)))))) (seqS (ifS (bF (opF gtD (opF addD (varF 4) (opF ixD (varF 3) (cF (.int 1)))) (cF (.int 12)))) (setS 1 (cF (.str "notin"))) nilS)
    (seqS (setS 5 (opF modD (varF 0) (cF (.int 13))))
    (seqS (setS 7 (callF f__law_digits (consA (opF divD (varF 0) (cF (.int 13))) (consA (varF 5) (consA (varF 4) nilA)))))
    (seqS (setS 6 (tupA (consA (varF 1) (consA (opF ixD (varF 2) (cF (.int 0))) (consA (opF ixD (varF 3) (cF (.int 0))) (consA (callF tupleD (consA (lzF (consA (varF 7) (consA (callF f__law_digits (consA (opF divD (varF 0) (cF (.int 17))) (consA (varF 5) (consA (opF ixD (varF 3) (cF (.int 1))) nilA)))) nilA))) nilA)) nilA))))))
    (ifS (bF (opF neD (varF 1) (cF (.str "notin")))) (setS 4 (opF addD (varF 4) (opF ixD (varF 3) (cF (.int 1))))) nilS))))))
    (retS (tupA (consA (varF 6) (consA (varF 4) (consA (opF addD (opF addD (opF addD (cF (.int 1)) (varF 5)) (opF ixD (varF 2) (cF (.int 2)))) (opF ixD (varF 3) (cF (.int 2)))) (consA (opF addD (opF addD (opF addD (cF (.int 24)) (opF mulD (cF (.int 8)) (varF 5))) (opF ixD (varF 2) (cF (.int 3)))) (opF ixD (varF 3) (cF (.int 3)))) (consA (opF addD (cF (.int 1)) (callF maxD (consA (opF ixD (varF 2) (cF (.int 4))) (consA (opF ixD (varF 3) (cF (.int 4))) nilA)))) nilA))))))))))
noncomputable def f__law_two : Fn := fnF 8 b__law_two
noncomputable def b__law_put : SF :=
    (seqS (ifS (bF (opF (kinD true) (varF 1) (opF ixD (varF 0) (cF (.int 0))))) (seqS (kputS (callF lenD (consA (opF ixD (varF 0) (cF (.int 1))) nilA)) (opF ixD (varF 0) (cF (.int 0))) (varF 1))
    (seqS (dropS (methF "list" appD (opF ixD (varF 0) (cF (.int 1))) (consA (varF 1) nilA)))
    (dropS (methF "list" appD (opF ixD (varF 0) (cF (.int 2))) (consA (callF f__law_wide (consA (varF 1) (consA (opF ixD (varF 0) (cF (.int 2))) nilA))) nilA))))) nilS)
    (retS (opF kixD (opF ixD (varF 0) (cF (.int 0))) (varF 1))))
noncomputable def f__law_put : Fn := fnF 2 b__law_put
noncomputable def q0__law_one : EF :=
    (lcF (itA rng1D (consA (opF addD (cF (.int 1)) (opF modD (varF 0) (cF (.int 12)))) nilA)) [9] (nameG 9) yesT (callF f__law_term (consA (opF divD (varF 0) (opF addD (opF mulD (cF (.int 5)) (varF 9)) (cF (.int 1)))) (consA (varF 3) nilA))))
noncomputable def q1__law_one : EF :=
    (lcF (itF (varF 8)) [10] (nameG 10) yesT (opF ixD (varF 10) (cF (.int 1))))
noncomputable def q2__law_one : EF :=
    (lcF (itF (varF 8)) [10] (nameG 10) yesT (opF ixD (varF 10) (cF (.int 0))))
noncomputable def b__law_one : SF :=
    (seqS (setS 3 (opF ixD (varF 2) (cF (.int 1))))
    (seqS (setS 4 (cF (.int 0)))
    (seqS (setS 5 (cF (.int 24)))
    (seqS (ifS (bF (opF eqD (varF 1) (cF (.str "sieve")))) (seqS (asgS (callF f__law_asked (consA (varF 0) (consA (varF 3) nilA))) (tupG 2 (consG (nameG 6) (consG (nameG 4) nilG))))
    (seqS (setS 7 (tupA (consA (varF 1) (consA (opF ixD (varF 2) (cF (.int 0))) (consA (varF 6) nilA)))))
    (setS 5 (cF (.int 84))))) (ifS (bF (opF eqD (varF 1) (cF (.str "once")))) (setS 7 (tupA (consA (varF 1) (consA (opF ixD (varF 2) (cF (.int 0))) nilA)))) (ifS (bF (opF eqD (varF 1) (cF (.str "cols")))) (seqS (setS 8 (q0__law_one))
    (seqS (setS 4 (callF sumD (consA (q1__law_one) nilA)))
    (seqS (setS 5 (opF addD (cF (.int 24)) (opF mulD (cF (.int 48)) (callF lenD (consA (varF 8) nilA)))))
    (seqS (setS 3 (callF lenD (consA (varF 8) nilA)))
    (setS 7 (tupA (consA (varF 1) (consA (opF ixD (varF 2) (cF (.int 0))) (consA (callF tupleD (consA (q2__law_one) nilA)) nilA))))))))) (seqS (asgS (callF f__law_grouped (consA (varF 0) (consA (varF 1) (consA (varF 2) nilA)))) (tupG 3 (consG (nameG 7) (consG (nameG 3) (consG (nameG 4) nilG)))))
    (setS 5 (opF addD (cF (.int 24)) (opF mulD (cF (.int 4)) (varF 4))))))))
    (retS (tupA (consA (varF 7) (consA (varF 3) (consA (opF addD (opF addD (cF (.int 1)) (varF 4)) (opF ixD (varF 2) (cF (.int 2)))) (consA (opF addD (varF 5) (opF ixD (varF 2) (cF (.int 3)))) (consA (opF addD (cF (.int 1)) (opF ixD (varF 2) (cF (.int 4)))) nilA)))))))))))
noncomputable def f__law_one : Fn := fnF 11 b__law_one
noncomputable def b__law_rounds : SF :=
    (seqS (setS 4 (tupA (consA (tupA (consA (cF (.str "name")) (consA (varF 3) nilA))) (consA (opF ixD (varF 1) (cF (.int 1))) (consA (cF (.int 1)) (consA (cF (.int 9)) (consA (cF (.int 0)) nilA)))))))
    (seqS (parS 5 6 (consA (varF 4) (consA (callF f__law_fitted (consA (varF 2) (consA (opF ixD (varF 1) (cF (.int 1))) nilA))) nilA)))
    (seqS (ifS (bF (opF eqD (opF modD (varF 0) (cF (.int 4))) (cF (.int 1)))) (parS 5 6 (consA (varF 6) (consA (varF 4) nilA))) nilS)
    (seqS (ifS (bF (opF eqD (opF modD (varF 0) (cF (.int 4))) (cF (.int 2)))) (setS 6 (varF 4)) nilS)
    (seqS (setS 7 (opF ixD (lstA (consA (cF (.str "pour")) (consA (cF (.str "both")) (consA (cF (.str "either")) (consA (cF (.str "less")) (consA (cF (.str "notin")) (consA (cF (.str "left")) nilA))))))) (opF modD (opF divD (varF 0) (cF (.int 4))) (cF (.int 6)))))
    (seqS (setS 8 (callF f__law_fitted (consA (callF f__law_two (consA (opF divD (varF 0) (cF (.int 24))) (consA (varF 7) (consA (varF 5) (consA (varF 6) nilA))))) (consA (opF ixD (varF 1) (cF (.int 1))) nilA))))
    (seqS (ifS (bF (opF eqD (opF modD (opF divD (varF 0) (cF (.int 7))) (cF (.int 3))) (cF (.int 1)))) (setS 8 (callF f__law_once (consA (varF 8) nilA))) nilS)
    (seqS (ifS (bF (opF eqD (opF modD (opF divD (varF 0) (cF (.int 7))) (cF (.int 3))) (cF (.int 2)))) (seqS (setS 9 (tupA (consA (cF (.str "rounds")) (consA (opF addD (varF 3) (cF (.str "i"))) (consA (cF (.int 2)) (consA (opF ixD (varF 8) (cF (.int 0))) (consA (tupA (consA (cF (.str "either")) (consA (tupA (consA (cF (.str "name")) (consA (varF 3) nilA))) (consA (opF ixD (callF f__law_once (consA (varF 4) nilA)) (cF (.int 0))) nilA)))) nilA)))))))
    (seqS (setS 9 (tupA (consA (opF ixD (varF 9) (cF (.int 0))) (consA (opF ixD (varF 9) (cF (.int 1))) (consA (opF ixD (varF 9) (cF (.int 2))) (consA (opF ixD (varF 9) (cF (.int 3))) (consA (tupA (consA (cF (.str "less")) (consA (opF ixD (varF 9) (cF (.int 4))) (consA (tupA (consA (cF (.str "name")) (consA (opF addD (varF 3) (cF (.str "i"))) nilA))) nilA)))) nilA)))))))
    (setS 8 (tupA (consA (varF 9) (consA (opF ixD (varF 1) (cF (.int 1))) (consA (opF addD (opF ixD (varF 8) (cF (.int 2))) (cF (.int 16))) (consA (opF addD (cF (.int 150)) (opF ixD (varF 8) (cF (.int 3)))) (consA (opF addD (cF (.int 3)) (opF ixD (varF 8) (cF (.int 4)))) nilA))))))))) nilS)
    (seqS (setS 10 (opF addD (cF (.int 1)) (opF modD (opF divD (varF 0) (cF (.int 65))) (cF (.int 6)))))
    (seqS (setS 9 (tupA (consA (cF (.str "rounds")) (consA (varF 3) (consA (varF 10) (consA (opF ixD (varF 1) (cF (.int 0))) (consA (opF ixD (varF 8) (cF (.int 0))) nilA)))))))
    (retS (tupA (consA (varF 9) (consA (opF ixD (varF 1) (cF (.int 1))) (consA (opF addD (opF ixD (varF 1) (cF (.int 2))) (opF mulD (varF 10) (opF addD (cF (.int 2)) (opF ixD (varF 8) (cF (.int 2)))))) (consA (opF addD (opF addD (cF (.int 24)) (opF ixD (varF 1) (cF (.int 3)))) (opF ixD (varF 8) (cF (.int 3)))) (consA (opF addD (cF (.int 1)) (callF maxD (consA (opF ixD (varF 1) (cF (.int 4))) (consA (opF ixD (varF 8) (cF (.int 4))) nilA)))) nilA)))))))))))))))))
noncomputable def f__law_rounds : Fn := fnF 11 b__law_rounds
noncomputable def b__law_next : SF :=
    (seqS (setS 5 (opF ixD (lstA (consA (cF (.str "sieve")) (consA (cF (.str "cols")) (consA (cF (.str "once")) (consA (cF (.str "count")) (consA (cF (.str "sum")) (consA (cF (.str "least")) (consA (cF (.str "most")) (consA (cF (.str "first")) (consA (cF (.str "join")) (consA (cF (.str "left")) (consA (cF (.str "notin")) (consA (cF (.str "pour")) (consA (cF (.str "both")) (consA (cF (.str "either")) (consA (cF (.str "less")) (consA (cF (.str "rounds")) nilA))))))))))))))))) (opF subD (opF modD (varF 0) (cF (.int 18))) (cF (.int 2)))))
    (seqS (ifS (bF (opF eqD (opF modD (opF divD (varF 0) (cF (.int 18))) (cF (.int 2))) (cF (.int 1)))) (parS 2 3 (consA (varF 3) (consA (varF 2) nilA))) nilS)
    (seqS (ifS (bF (opF eqD (varF 5) (cF (.str "rounds")))) (retS (callF f__law_rounds (consA (varF 1) (consA (varF 2) (consA (varF 3) (consA (varF 4) nilA)))))) nilS)
    (seqS (ifS (bF (opF (inSq false) (varF 5) (tupA (consA (cF (.str "join")) (consA (cF (.str "left")) (consA (cF (.str "notin")) (consA (cF (.str "pour")) (consA (cF (.str "both")) (consA (cF (.str "either")) (consA (cF (.str "less")) nilA)))))))))) (retS (callF f__law_two (consA (varF 1) (consA (varF 5) (consA (varF 2) (consA (varF 3) nilA)))))) nilS)
    (retS (callF f__law_one (consA (varF 1) (consA (varF 5) (consA (varF 2) nilA)))))))))
noncomputable def f__law_next : Fn := fnF 6 b__law_next
noncomputable def q0__law_alike (r__law_alike : Fn) : EF :=
    (lcF (itA zipD (consA (varF 0) (consA (varF 1) nilA))) [2, 3] (tupG 2 (consG (nameG 2) (consG (nameG 3) nilG))) yesT (callF r__law_alike (consA (varF 2) (consA (varF 3) nilA))))
noncomputable def b__law_alike (r__law_alike : Fn) : SF :=
    (seqS (ifS (orT (bF (callF isiD (consA (varF 1) (consA (cF (.ty "tuple")) nilA)))) (bF (callF isiD (consA (varF 1) (consA (cF (.ty "list")) nilA))))) (seqS (ifS (andT (bF (callF isiD (consA (varF 1) (consA (cF (.ty "tuple")) nilA)))) (notT (bF (callF isiD (consA (varF 0) (consA (cF (.ty "tuple")) nilA)))))) (retS (cF (.bl false))) nilS)
    (seqS (ifS (andT (bF (callF isiD (consA (varF 1) (consA (cF (.ty "list")) nilA)))) (notT (bF (callF isiD (consA (varF 0) (consA (cF (.ty "list")) nilA)))))) (retS (cF (.bl false))) nilS)
    (seqS (ifS (bF (opF neD (callF lenD (consA (varF 0) nilA)) (callF lenD (consA (varF 1) nilA)))) (retS (cF (.bl false))) nilS)
    (retS (callF allD (consA (q0__law_alike r__law_alike) nilA)))))) nilS)
    (seqS (ifS (bF (callF isiD (consA (varF 1) (consA (cF (.ty "bool")) nilA)))) (retS (andV (callF isiD (consA (varF 0) (consA (cF (.ty "bool")) nilA))) (opF eqD (varF 0) (varF 1)))) nilS)
    (seqS (ifS (bF (callF isiD (consA (varF 1) (consA (cF (.ty "str")) nilA)))) (retS (andV (callF isiD (consA (varF 0) (consA (cF (.ty "str")) nilA))) (opF eqD (varF 0) (varF 1)))) nilS)
    (retS (andV (callF f__law_whole (consA (varF 0) nilA)) (opF eqD (varF 0) (varF 1)))))))
noncomputable def f__law_alike : Nat → Fn
  | 0 => fun _ _ => .bad
  | d + 1 => fnF 4 (b__law_alike (f__law_alike d))
noncomputable def l0_Net_lay_rounds (r_Net_lay_rounds r_Net_lay : Fn) : SF :=
    (seqS (setS 5 (callF dictD (consA (varF 2) nilA)))
    (seqS (dputS (varF 3) (varF 5) (opF ixD (varF 1) (cF (.int 1))))
    (seqS (setS 6 (methO "Net" "lay" r_Net_lay (varF 0) (consA (opF ixD (varF 1) (cF (.int 4))) (consA (varF 5) nilA))))
    (setS 3 (methO "Net" "worded" f_Net_worded (varF 0) (consA (cF (.str "once")) (consA (tupA nilA) (consA (tupA (consA (methO "Net" "worded" f_Net_worded (varF 0) (consA (cF (.str "pour")) (consA (tupA nilA) (consA (tupA (consA (varF 3) (consA (varF 6) nilA))) nilA)))) nilA)) nilA))))))))
noncomputable def b_Net_lay_rounds (r_Net_lay_rounds r_Net_lay : Fn) : SF :=
    (seqS (setS 3 (methO "Net" "worded" f_Net_worded (varF 0) (consA (cF (.str "once")) (consA (tupA nilA) (consA (tupA (consA (methO "Net" "lay" r_Net_lay (varF 0) (consA (opF ixD (varF 1) (cF (.int 3))) (consA (varF 2) nilA))) nilA)) nilA)))))
    (seqS (forS (itA rng1D (consA (opF ixD (varF 1) (cF (.int 2))) nilA)) (nameG 4) (l0_Net_lay_rounds r_Net_lay_rounds r_Net_lay))
    (retS (varF 3))))
noncomputable def b_Net_lay (r_Net_lay_rounds r_Net_lay : Fn) : SF :=
    (seqS (setS 3 (opF ixD (varF 1) (cF (.int 0))))
    (seqS (ifS (bF (opF eqD (varF 3) (cF (.str "name")))) (retS (opF dixD (varF 2) (opF ixD (varF 1) (cF (.int 1))))) nilS)
    (seqS (ifS (bF (opF eqD (varF 3) (cF (.str "rounds")))) (retS (methO "Net" "lay_rounds" r_Net_lay_rounds (varF 0) (consA (varF 1) (consA (varF 2) nilA)))) nilS)
    (seqS (setS 4 (methO "Net" "lay" r_Net_lay (varF 0) (consA (opF ixD (varF 1) (cF (.int 1))) (consA (varF 2) nilA))))
    (seqS (ifS (bF (opF (inSq true) (varF 3) (cF (.tup [.str "join", .str "left", .str "notin", .str "pour", .str "both", .str "either", .str "less"])))) (retS (methO "Net" "worded" f_Net_worded (varF 0) (consA (varF 3) (consA (callF f_besides_of (consA (varF 1) (consA (cF (.int 0)) nilA))) (consA (tupA (consA (varF 4) nilA)) nilA))))) nilS)
    (seqS (setS 5 (methO "Net" "lay" r_Net_lay (varF 0) (consA (opF ixD (varF 1) (cF (.int 2))) (consA (varF 2) nilA))))
    (retS (methO "Net" "worded" f_Net_worded (varF 0) (consA (varF 3) (consA (callF f_besides_of (consA (varF 1) (consA (opF ixD (un1 (fldK "Net" "wide") (varF 0)) (varF 5)) nilA))) (consA (tupA (consA (varF 4) (consA (varF 5) nilA))) nilA)))))))))))
noncomputable def F_Net_lay_rounds : Nat → Fn × Fn
  | 0 => (fun _ _ => .bad, fun _ _ => .bad)
  | d + 1 => (fnF 7 (b_Net_lay_rounds ((F_Net_lay_rounds d).1) ((F_Net_lay_rounds d).2)), fnF 6 (b_Net_lay ((F_Net_lay_rounds d).1) ((F_Net_lay_rounds d).2)))
noncomputable def f_Net_lay_rounds (d : Nat) : Fn := (F_Net_lay_rounds d).1
noncomputable def f_Net_lay (d : Nat) : Fn := (F_Net_lay_rounds d).2
theorem f_Net_lay_rounds_s (d : Nat) : f_Net_lay_rounds (d + 1) = fnF 7 (b_Net_lay_rounds (f_Net_lay_rounds d) (f_Net_lay d)) := rfl
theorem f_Net_lay_s (d : Nat) : f_Net_lay (d + 1) = fnF 6 (b_Net_lay (f_Net_lay_rounds d) (f_Net_lay d)) := rfl
noncomputable def l0__law_laid (r__law_laid : Fn) : SF :=
    (seqS (setS 6 (callF dictD (consA (varF 2) nilA)))
    (seqS (dputS (varF 4) (varF 6) (opF ixD (varF 1) (cF (.int 1))))
    (seqS (setS 7 (callF r__law_laid (consA (varF 0) (consA (opF ixD (varF 1) (cF (.int 4))) (consA (varF 6) nilA)))))
    (setS 4 (callF f__law_put (consA (varF 0) (consA (tupA (consA (cF (.str "once")) (consA (tupA nilA) (consA (tupA (consA (callF f__law_put (consA (varF 0) (consA (tupA (consA (cF (.str "pour")) (consA (tupA nilA) (consA (tupA (consA (varF 4) (consA (varF 7) nilA))) nilA)))) nilA))) nilA)) nilA)))) nilA)))))))
noncomputable def b__law_laid (r__law_laid : Fn) : SF :=
    (seqS (setS 3 (opF ixD (varF 1) (cF (.int 0))))
    (seqS (ifS (bF (opF eqD (varF 3) (cF (.str "name")))) (retS (opF dixD (varF 2) (opF ixD (varF 1) (cF (.int 1))))) nilS)
    (seqS (ifS (bF (opF eqD (varF 3) (cF (.str "rounds")))) (seqS (setS 4 (callF f__law_put (consA (varF 0) (consA (tupA (consA (cF (.str "once")) (consA (tupA nilA) (consA (tupA (consA (callF r__law_laid (consA (varF 0) (consA (opF ixD (varF 1) (cF (.int 3))) (consA (varF 2) nilA)))) nilA)) nilA)))) nilA))))
    (seqS (forS (itA rng1D (consA (opF ixD (varF 1) (cF (.int 2))) nilA)) (nameG 5) (l0__law_laid r__law_laid))
    (retS (varF 4)))) nilS)
    (seqS (setS 8 (callF r__law_laid (consA (varF 0) (consA (opF ixD (varF 1) (cF (.int 1))) (consA (varF 2) nilA)))))
    (seqS (ifS (bF (opF (inSq true) (varF 3) (tupA (consA (cF (.str "join")) (consA (cF (.str "left")) (consA (cF (.str "notin")) (consA (cF (.str "pour")) (consA (cF (.str "both")) (consA (cF (.str "either")) (consA (cF (.str "less")) nilA)))))))))) (retS (callF f__law_put (consA (varF 0) (consA (tupA (consA (varF 3) (consA (callF f__law_besides (consA (varF 1) (consA (cF (.int 0)) nilA))) (consA (tupA (consA (varF 8) nilA)) nilA)))) nilA)))) nilS)
    (seqS (setS 7 (callF r__law_laid (consA (varF 0) (consA (opF ixD (varF 1) (cF (.int 2))) (consA (varF 2) nilA)))))
    (retS (callF f__law_put (consA (varF 0) (consA (tupA (consA (varF 3) (consA (callF f__law_besides (consA (varF 1) (consA (opF ixD (opF ixD (varF 0) (cF (.int 2))) (varF 7)) nilA))) (consA (tupA (consA (varF 8) (consA (varF 7) nilA))) nilA)))) nilA))))))))))
noncomputable def f__law_laid : Nat → Fn
  | 0 => fun _ _ => .bad
  | d + 1 => fnF 9 (b__law_laid (f__law_laid d))
noncomputable def l2_law : SF :=
    (seqS (setS 15 (methO "Net" "lay" (f_Net_lay 80) (varF 4) (consA (opF ixD (varF 13) (cF (.int 0))) (consA (callF dictD (consA (varF 14) nilA)) nilA))))
    (seqS (setS 16 (callF (f__law_laid 80) (consA (varF 5) (consA (opF ixD (varF 13) (cF (.int 0))) (consA (varF 14) nilA)))))
    (ifS (orT (notT (bF (callF f__law_whole (consA (varF 15) nilA)))) (orT (bF (opF neD (varF 15) (varF 16))) (notT (bF (callF (f__law_alike 12) (consA (methO "Net" "nodes" f_Net_nodes (varF 4) nilA) (consA (opF ixD (varF 5) (cF (.int 1))) nilA))))))) (retS (cF (.bl false))) nilS)))
noncomputable def l1_law : SF :=
    (seqS (setS 11 (opF ixD (varF 0) (varF 10)))
    (seqS (ifS (bF (opF ltD (opF modD (varF 11) (cF (.int 18))) (cF (.int 2)))) (seqS (setS 9 (varF 8))
    (setS 8 (opF ixD (varF 2) (opF modD (opF divD (varF 11) (cF (.int 18))) (cF (.int 4)))))) (setS 8 (callF f__law_next (consA (varF 11) (consA (callF f__law_mixed (consA (opF addD (opF mulD (cF (.int 64)) (varF 11)) (varF 10)) nilA)) (consA (varF 8) (consA (varF 9) (consA (callF f__law_fresh (consA (varF 1) (consA (varF 10) nilA))) nilA))))))))
    (ifS (orT (bF (opF gtD (opF ixD (varF 8) (cF (.int 2))) (cF (.int 200)))) (orT (bF (opF gtD (opF ixD (varF 8) (cF (.int 3))) (cF (.int 1900)))) (bF (opF gtD (opF ixD (varF 8) (cF (.int 4))) (cF (.int 26)))))) (setS 8 (opF ixD (varF 2) (opF modD (opF divD (varF 11) (cF (.int 18))) (cF (.int 4))))) nilS)))
noncomputable def l0_law : SF :=
    (seqS (setS 7 (opF addD (cF (.int 1)) (opF modD (callF f__law_cell_at (consA (varF 0) (consA (opF ixD (lstA (consA (cF (.int 2)) (consA (cF (.int 2)) (consA (cF (.int 3)) (consA (cF (.int 4)) nilA))))) (varF 6)) nilA))) (cF (.int 12)))))
    (seqS (dropS (methF "list" appD (varF 2) (consA (tupA (consA (tupA (consA (cF (.str "name")) (consA (opF ixD (varF 1) (varF 6)) nilA))) (consA (varF 7) (consA (cF (.int 1)) (consA (cF (.int 9)) (consA (cF (.int 0)) nilA)))))) nilA)))
    (seqS (dputS (methO "Net" "table" f_Net_table (varF 4) (consA (opF ixD (varF 1) (varF 6)) (consA (varF 7) nilA))) (varF 3) (opF ixD (varF 1) (varF 6)))
    (ifS (bF (opF neD (callF f__law_put (consA (varF 5) (consA (tupA (consA (cF (.str "table")) (consA (tupA (consA (opF ixD (varF 1) (varF 6)) (consA (varF 7) nilA))) (consA (tupA nilA) nilA)))) nilA))) (opF dixD (varF 3) (opF ixD (varF 1) (varF 6))))) (retS (cF (.bl false))) nilS))))
noncomputable def b_law : SF :=
    (seqS (setS 1 (callF f__law_names (consA (callF f__law_cell_at (consA (varF 0) (consA (cF (.int 0)) nilA))) nilA)))
    (seqS (setS 2 (lstA nilA))
    (seqS (setS 3 dicF)
    (seqS (setS 4 (makeF "Net" f_Net___init__ nilA))
    (seqS (setS 5 (tupA (consA dicF (consA (lstA nilA) (consA (lstA nilA) nilA)))))
    (seqS (forS (itA rng1D (consA (cF (.int 4)) nilA)) (nameG 6) (l0_law))
    (seqS (setS 8 (opF ixD (varF 2) (opF modD (callF f__law_cell_at (consA (varF 0) (consA (cF (.int 5)) nilA))) (cF (.int 4)))))
    (seqS (setS 9 (opF ixD (varF 2) (opF modD (opF divD (callF f__law_cell_at (consA (varF 0) (consA (cF (.int 5)) nilA))) (cF (.int 4))) (cF (.int 4)))))
    (seqS (forS (itA rng2D (consA (cF (.int 6)) (consA (callF minD (consA (callF lenD (consA (varF 0) nilA)) (consA (cF (.int 63)) nilA))) nilA))) (nameG 10) (l1_law))
    (seqS (setS 12 (callF dictD (consA (varF 3) nilA)))
    (seqS (dputS (opF dixD (varF 3) (opF ixD (varF 1) (cF (.int 1)))) (varF 12) (opF ixD (varF 1) (cF (.int 0))))
    (seqS (dputS (opF dixD (varF 3) (opF ixD (varF 1) (cF (.int 0)))) (varF 12) (opF ixD (varF 1) (cF (.int 1))))
    (seqS (forS (itF (lstA (consA (tupA (consA (varF 9) (consA (varF 3) nilA))) (consA (tupA (consA (varF 8) (consA (varF 3) nilA))) (consA (tupA (consA (varF 8) (consA (varF 12) nilA))) (consA (tupA (consA (varF 9) (consA (varF 12) nilA))) (consA (tupA (consA (varF 8) (consA (varF 3) nilA))) nilA))))))) (tupG 2 (consG (nameG 13) (consG (nameG 14) nilG))) (l2_law))
    (retS (cF (.bl true))))))))))))))))
noncomputable def f_law : Fn := fnF 17 b_law
end Law
namespace Law
open PySem L2 VL
/-! what the laws' own helpers tell: cell_at, truth, mixed, cell, row -/
theorem cell_at_ok {st : Sto} {n : Nat} {ns : List Int} {k : Nat} (h : listAt st n = some (ns.map VL.D.int)) : f__law_cell_at [.ref n, .int k] st = .ok (.int (ns.getD k 0)) st := by
  have hl : lenD [VL.D.ref n] st = .ok (.int ns.length) st := by
    show (match listAt st n with | some xs => R.ok (VL.D.int xs.length) st | none => .bad) = _
    rw [h]; simp
  by_cases hk : k < ns.length
  · have e1 : decide ((k : Int) < (ns.length : Int)) = true := decide_eq_true (by omega)
    have e2 : (ns.map VL.D.int)[k]? = some (.int ns[k]) := by rw [List.getElem?_map, List.getElem?_eq_getElem hk]; rfl
    have hi : ixD (.ref n) (.int (k : Int)) st = .ok (.int ns[k]) st := by
      show (match (listAt st n).bind fun xs => atI xs (k : Int) with | some d => R.ok d st | none => .bad) = _
      rw [h, Option.bind_some, atI_nat e2]
    simp -implicitDefEqProofs only [varF_ap, cF_ap, opF_ap, opK_ap, bF_ap, boolK_ap, andT_ap, andK_ap, orT_ap, orK_ap, notT_ap, notK_ap, yesT_ap, andV_ap, andVK_ap, orV_ap, orVK_ap, notV_ap, notVK_ap, ifF_ap, ifFK_ap, nilA_ap, consA_ap, consK_ap, consJ_ap, tupA_ap, tupK_ap, lstA_ap, lstK_ap, newO_ap, dicF_ap, callF_ap, un1_ap, methF_ap, methK_ap, nonO_ap, someO_ap, someK_ap, slF_ap, slK_ap, slJ_ap, itF_ap, itA_ap, nilS_ap, bkS_ap, ctS_ap, seqS_ap, seqK_nx, seqK_rt, seqK_bk, seqK_ct, dropS_ap, dropK_ap, retS_ap, retK_ap, retN_ap, ifS_ap, ifK_ap, setS_ap, setK_ap, asgS_ap, asgK_ap, asgJ_ap, nameG_ap, nilG_ap, consG_ap, consGK_ap, tupG_ap, fnF_ap, fnK_nx, fnK_rt, forS_ap, forK_ap, intD_ap, negD_ap, addI_ap, varK_ap, startE, yes2, isN, List.map_cons, List.map_nil, List.length_cons, List.length_nil, List.replicate, List.append_nil, List.cons_append, List.nil_append, List.getElem?_cons_zero, List.getElem?_cons_succ, List.set_cons_zero, List.set_cons_succ, R.bind_ok, R.bind_ex, R.bind_bad, R.noex_ok, if_true, if_false, Bool.false_eq_true, Bool.true_eq_false, ite_true, ite_false, reduceIte, Nat.reduceAdd, Nat.reduceSub, Nat.zero_add, Nat.sub_self, Nat.sub_zero, decide_true, decide_false, Bool.not_true, Bool.not_false, f__law_cell_at, b__law_cell_at, hl, e1, hi]
    rw [List.getD_eq_getElem?_getD, List.getElem?_eq_getElem hk]; rfl
  · have e1 : decide ((k : Int) < (ns.length : Int)) = false := decide_eq_false (by omega)
    simp -implicitDefEqProofs only [varF_ap, cF_ap, opF_ap, opK_ap, bF_ap, boolK_ap, andT_ap, andK_ap, orT_ap, orK_ap, notT_ap, notK_ap, yesT_ap, andV_ap, andVK_ap, orV_ap, orVK_ap, notV_ap, notVK_ap, ifF_ap, ifFK_ap, nilA_ap, consA_ap, consK_ap, consJ_ap, tupA_ap, tupK_ap, lstA_ap, lstK_ap, newO_ap, dicF_ap, callF_ap, un1_ap, methF_ap, methK_ap, nonO_ap, someO_ap, someK_ap, slF_ap, slK_ap, slJ_ap, itF_ap, itA_ap, nilS_ap, bkS_ap, ctS_ap, seqS_ap, seqK_nx, seqK_rt, seqK_bk, seqK_ct, dropS_ap, dropK_ap, retS_ap, retK_ap, retN_ap, ifS_ap, ifK_ap, setS_ap, setK_ap, asgS_ap, asgK_ap, asgJ_ap, nameG_ap, nilG_ap, consG_ap, consGK_ap, tupG_ap, fnF_ap, fnK_nx, fnK_rt, forS_ap, forK_ap, intD_ap, negD_ap, addI_ap, varK_ap, startE, yes2, isN, List.map_cons, List.map_nil, List.length_cons, List.length_nil, List.replicate, List.append_nil, List.cons_append, List.nil_append, List.getElem?_cons_zero, List.getElem?_cons_succ, List.set_cons_zero, List.set_cons_succ, R.bind_ok, R.bind_ex, R.bind_bad, R.noex_ok, if_true, if_false, Bool.false_eq_true, Bool.true_eq_false, ite_true, ite_false, reduceIte, Nat.reduceAdd, Nat.reduceSub, Nat.zero_add, Nat.sub_self, Nat.sub_zero, decide_true, decide_false, Bool.not_true, Bool.not_false, f__law_cell_at, b__law_cell_at, hl, e1]
    rw [List.getD_eq_getElem?_getD, List.getElem?_eq_none (by omega)]; rfl
end Law

namespace Law
open PySem L2 VL
/-! views by their shape -/
theorem sz {n : Nat} (h : n ≤ 100) : (n ≤ sizeLine) = True := eq_true (by rw [sizeLine_eq']; omega)
theorem jx0 {a : VL.D} {xs : List VL.D} {st : Sto} : ixD (.tup (a :: xs)) (.int 0) st = .ok a st := ixD_tup (k := 0) rfl
theorem jx1 {a b : VL.D} {xs : List VL.D} {st : Sto} : ixD (.tup (a :: b :: xs)) (.int 1) st = .ok b st := ixD_tup (k := 1) rfl
theorem jx2 {a b c : VL.D} {xs : List VL.D} {st : Sto} : ixD (.tup (a :: b :: c :: xs)) (.int 2) st = .ok c st := ixD_tup (k := 2) rfl
theorem jx3 {a b c d : VL.D} {xs : List VL.D} {st : Sto} : ixD (.tup (a :: b :: c :: d :: xs)) (.int 3) st = .ok d st := ixD_tup (k := 3) rfl
theorem jx4 {a b c d e : VL.D} {xs : List VL.D} {st : Sto} : ixD (.tup (a :: b :: c :: d :: e :: xs)) (.int 4) st = .ok e st := ixD_tup (k := 4) rfl
mutual
def tsz : VL.D → Int
  | .tup xs => 1 + tszs xs
  | _ => 0
def tszs : List VL.D → Int
  | [] => 0
  | x :: xs => tsz x + tszs xs
end
/-- a column or test, less deep than n, its places below W -/
def Ex (W : Int) : Nat → VL.D → Prop
  | 0, _ => False
  | n + 1, e => (∃ p, e = .tup [.str "at", .int p] ∧ p < W) ∨ ∃ w xs, e = .tup (.str w :: xs) ∧ w ≠ "at" ∧ xs.length ≤ 8 ∧ ∀ x ∈ xs, (∃ i, x = .int i) ∨ Ex W n x
theorem Ex.tup {W : Int} {n : Nat} {e : VL.D} (h : Ex W n e) : ∃ xs, e = .tup xs := by
  cases n with
  | zero => cases h
  | succ n => rcases h with ⟨p, rfl, _⟩ | ⟨w, xs, rfl, _⟩ <;> exact ⟨_, rfl⟩
theorem slTail {w : VL.D} {xs : List VL.D} {st : Sto} : slD (.tup (w :: xs)) (some 1) none st = .ok (.tup xs) st := by
  show R.ok (VL.D.tup (cutD (w :: xs) (some ((1 : Nat) : Int)) none)) st = _
  rw [cutD_from]; rfl
/-! ### columns and tests made -/
theorem Ex.succ {W : Int} : ∀ {n : Nat} {e : VL.D}, Ex W n e → Ex W (n + 1) e
  | 0, _, h => by cases h
  | n + 1, e, h => by
    rcases h with h | ⟨w, xs, h1, h2, h3, h4⟩
    · exact .inl h
    · exact .inr ⟨w, xs, h1, h2, h3, fun x hx => (h4 x hx).imp id Ex.succ⟩
theorem Ex.up {W : Int} {n m : Nat} {e : VL.D} (h : Ex W n e) (k : n ≤ m) : Ex W m e := by
  induction k with
  | refl => exact h
  | step _ ih => exact ih.succ
theorem Ex.at {W p : Int} {n : Nat} (h : p < W) : Ex W (n + 1) (.tup [.str "at", .int p]) := .inl ⟨p, rfl, h⟩
def PcW (W : Int) (n : Nat) (x : VL.D) : Prop := (∃ i, x = .int i) ∨ Ex W n x
theorem Ex.node {W : Int} {n : Nat} {w : Str} {xs : List VL.D} (hw : w ≠ "at") (hl : Nat.ble xs.length 8 = true) (h : ∀ x ∈ xs, PcW W n x) : Ex W (n + 1) (.tup (.str w :: xs)) := .inr ⟨w, xs, rfl, hw, Nat.le_of_ble_eq_true hl, h⟩
theorem allNil {W : Int} {n : Nat} : ∀ x ∈ ([] : List VL.D), PcW W n x := fun x hx => nomatch hx
theorem allCons {W : Int} {n : Nat} {a : VL.D} {xs : List VL.D} (h : PcW W n a) (k : ∀ x ∈ xs, PcW W n x) : ∀ x ∈ a :: xs, PcW W n x := fun x hx => by
  rcases List.mem_cons.mp hx with rfl | hx
  · exact h
  · exact k x hx
theorem PcW.int {W i : Int} {n : Nat} : PcW W n (.int i) := .inl ⟨i, rfl⟩
theorem l2w {w : Int} (h : 1 ≤ w) (h2 : w ≤ 100) : w.natAbs.log2 < 9000 := by
  have : w.natAbs.log2 < 64 := log2_lt (n := w.natAbs) (k := 64) (by omega) (by decide)
  omega
theorem term_ok {n w : Int} (h1 : 1 ≤ w) (h2 : w ≤ 12) : ∃ e, (∀ st, f__law_term [.int n, .int w] st = .ok (.tup [e, .int (tsz e)]) st) ∧ Ex w 4 e := by
  have hw := l2w h1 (by omega)
  have h0 : 0 < w := by omega
  have v6 : (6 : Int).natAbs.log2 < 9000 := by decide +kernel
  have v7 : (7 : Int).natAbs.log2 < 9000 := by decide +kernel
  have v72 : (72 : Int).natAbs.log2 < 9000 := by decide +kernel
  have p30 : (0 : Int) ≤ 30 ∧ (30 : Int) ≤ 1000000 ∧ (10 : Int).natAbs < 2 ^ 64 := by decide
  have p29 : (0 : Int) ≤ 29 ∧ (29 : Int) ≤ 1000000 ∧ (10 : Int).natAbs < 2 ^ 64 := by decide
  have m30 : (0 : Int) < 10 ^ (30 : Int).toNat := by decide +kernel
  have m29 : (0 : Int) < 10 ^ (29 : Int).toNat := by decide +kernel
  have a1 : ∀ {k : Nat}, Ex w (k + 1) (.tup [.str "at", .int (n / 6 % w)]) := Ex.at (Int.emod_lt_of_pos _ h0)
  have a2 : ∀ {k : Nat}, Ex w (k + 1) (.tup [.str "at", .int (n / 72 % w)]) := Ex.at (Int.emod_lt_of_pos _ h0)
  have hc : n % 6 = 0 ∨ n % 6 = 1 ∨ n % 6 = 2 ∨ n % 6 = 3 ∨ n % 6 = 4 ∨ n % 6 = 5 := by omega
  rcases hc with c | c | c | c | c | c
  · exact ⟨.tup [.str "at", .int (n / 6 % w)], fun st => by simp -implicitDefEqProofs +decide only [varF_ap, cF_ap, opF_ap, opK_ap, bF_ap, boolK_ap, andT_ap, andK_ap, orT_ap, orK_ap, notT_ap, notK_ap, yesT_ap, andV_ap, andVK_ap, orV_ap, orVK_ap, notV_ap, notVK_ap, ifF_ap, ifFK_ap, nilA_ap, consA_ap, consK_ap, consJ_ap, tupA_ap, lstA_ap, newO_ap, dicF_ap, callF_ap, un1_ap, methF_ap, nonO_ap, someO_ap, someK_ap, slF_ap, slK_ap, slJ_ap, itF_ap, itA_ap, nilS_ap, bkS_ap, ctS_ap, seqS_ap, seqK_nx, seqK_rt, seqK_bk, seqK_ct, dropS_ap, dropK_ap, retS_ap, retK_ap, retN_ap, ifS_ap, ifK_ap, setS_ap, setK_ap, asgS_ap, asgK_ap, asgJ_ap, nameG_ap, nilG_ap, consG_ap, consGK_ap, fnF_ap, fnK_nx, fnK_rt, forS_ap, forK_ap, negD_ap, addI_ap, varK_ap, startE, yes2, isN, List.map_cons, List.map_nil, List.length_cons, List.length_nil, List.replicate, List.append_nil, List.cons_append, List.nil_append, List.getElem?_cons_zero, List.getElem?_cons_succ, List.set_cons_zero, List.set_cons_succ, R.bind_ok, R.bind_ex, R.bind_bad, R.noex_ok, if_true, if_false, Bool.false_eq_true, Bool.true_eq_false, ite_true, ite_false, reduceIte, Nat.reduceAdd, Nat.reduceSub, Nat.zero_add, Nat.sub_self, Nat.sub_zero, decide_true, decide_false, Bool.not_true, Bool.not_false, subD_ap, ltD_ap, leD_ap, gtD_ap, geD_ap, mulD_ap, modD_ap, divD_ap, powD_ap, tupK_ok, lstK_ok, methK_ok, tupG_ok, eqS_t, eqS_f, neS_t, neS_f, eqI_ap, neI_ap, inT_nil, inT_hit, inT_miss, ne_eq, not_false_eq_true, f__law_term, b__law_term, v6, v72, hw, h0, c, sz (by decide : 2 ≤ 100)]; rfl, a1⟩
  · exact ⟨.tup [.str "num", .int (n % 10 ^ (30 : Int).toNat - n / 7 % 10 ^ (29 : Int).toNat)], fun st => by simp -implicitDefEqProofs +decide only [varF_ap, cF_ap, opF_ap, opK_ap, bF_ap, boolK_ap, andT_ap, andK_ap, orT_ap, orK_ap, notT_ap, notK_ap, yesT_ap, andV_ap, andVK_ap, orV_ap, orVK_ap, notV_ap, notVK_ap, ifF_ap, ifFK_ap, nilA_ap, consA_ap, consK_ap, consJ_ap, tupA_ap, lstA_ap, newO_ap, dicF_ap, callF_ap, un1_ap, methF_ap, nonO_ap, someO_ap, someK_ap, slF_ap, slK_ap, slJ_ap, itF_ap, itA_ap, nilS_ap, bkS_ap, ctS_ap, seqS_ap, seqK_nx, seqK_rt, seqK_bk, seqK_ct, dropS_ap, dropK_ap, retS_ap, retK_ap, retN_ap, ifS_ap, ifK_ap, setS_ap, setK_ap, asgS_ap, asgK_ap, asgJ_ap, nameG_ap, nilG_ap, consG_ap, consGK_ap, fnF_ap, fnK_nx, fnK_rt, forS_ap, forK_ap, negD_ap, addI_ap, varK_ap, startE, yes2, isN, List.map_cons, List.map_nil, List.length_cons, List.length_nil, List.replicate, List.append_nil, List.cons_append, List.nil_append, List.getElem?_cons_zero, List.getElem?_cons_succ, List.set_cons_zero, List.set_cons_succ, R.bind_ok, R.bind_ex, R.bind_bad, R.noex_ok, if_true, if_false, Bool.false_eq_true, Bool.true_eq_false, ite_true, ite_false, reduceIte, Nat.reduceAdd, Nat.reduceSub, Nat.zero_add, Nat.sub_self, Nat.sub_zero, decide_true, decide_false, Bool.not_true, Bool.not_false, subD_ap, ltD_ap, leD_ap, gtD_ap, geD_ap, mulD_ap, modD_ap, divD_ap, powD_ap, tupK_ok, lstK_ok, methK_ok, tupG_ok, eqS_t, eqS_f, neS_t, neS_f, eqI_ap, neI_ap, inT_nil, inT_hit, inT_miss, ne_eq, not_false_eq_true, f__law_term, b__law_term, v6, v7, v72, hw, h0, c, p30, p29, m30, m29, sz (by decide : 2 ≤ 100)]; rfl, .node (by decide) rfl (allCons .int allNil)⟩
  · exact ⟨.tup [.str "gap"], fun st => by simp -implicitDefEqProofs +decide only [varF_ap, cF_ap, opF_ap, opK_ap, bF_ap, boolK_ap, andT_ap, andK_ap, orT_ap, orK_ap, notT_ap, notK_ap, yesT_ap, andV_ap, andVK_ap, orV_ap, orVK_ap, notV_ap, notVK_ap, ifF_ap, ifFK_ap, nilA_ap, consA_ap, consK_ap, consJ_ap, tupA_ap, lstA_ap, newO_ap, dicF_ap, callF_ap, un1_ap, methF_ap, nonO_ap, someO_ap, someK_ap, slF_ap, slK_ap, slJ_ap, itF_ap, itA_ap, nilS_ap, bkS_ap, ctS_ap, seqS_ap, seqK_nx, seqK_rt, seqK_bk, seqK_ct, dropS_ap, dropK_ap, retS_ap, retK_ap, retN_ap, ifS_ap, ifK_ap, setS_ap, setK_ap, asgS_ap, asgK_ap, asgJ_ap, nameG_ap, nilG_ap, consG_ap, consGK_ap, fnF_ap, fnK_nx, fnK_rt, forS_ap, forK_ap, negD_ap, addI_ap, varK_ap, startE, yes2, isN, List.map_cons, List.map_nil, List.length_cons, List.length_nil, List.replicate, List.append_nil, List.cons_append, List.nil_append, List.getElem?_cons_zero, List.getElem?_cons_succ, List.set_cons_zero, List.set_cons_succ, R.bind_ok, R.bind_ex, R.bind_bad, R.noex_ok, if_true, if_false, Bool.false_eq_true, Bool.true_eq_false, ite_true, ite_false, reduceIte, Nat.reduceAdd, Nat.reduceSub, Nat.zero_add, Nat.sub_self, Nat.sub_zero, decide_true, decide_false, Bool.not_true, Bool.not_false, subD_ap, ltD_ap, leD_ap, gtD_ap, geD_ap, mulD_ap, modD_ap, divD_ap, powD_ap, tupK_ok, lstK_ok, methK_ok, tupG_ok, eqS_t, eqS_f, neS_t, neS_f, eqI_ap, neI_ap, inT_nil, inT_hit, inT_miss, ne_eq, not_false_eq_true, f__law_term, b__law_term, v6, v72, hw, h0, c, sz (by decide : 2 ≤ 100), sz (by decide : 1 ≤ 100)]; rfl, .node (by decide) rfl allNil⟩
  · exact ⟨.tup [.str "times", .int 7, .tup [.str "at", .int (n / 6 % w)]], fun st => by simp -implicitDefEqProofs +decide only [varF_ap, cF_ap, opF_ap, opK_ap, bF_ap, boolK_ap, andT_ap, andK_ap, orT_ap, orK_ap, notT_ap, notK_ap, yesT_ap, andV_ap, andVK_ap, orV_ap, orVK_ap, notV_ap, notVK_ap, ifF_ap, ifFK_ap, nilA_ap, consA_ap, consK_ap, consJ_ap, tupA_ap, lstA_ap, newO_ap, dicF_ap, callF_ap, un1_ap, methF_ap, nonO_ap, someO_ap, someK_ap, slF_ap, slK_ap, slJ_ap, itF_ap, itA_ap, nilS_ap, bkS_ap, ctS_ap, seqS_ap, seqK_nx, seqK_rt, seqK_bk, seqK_ct, dropS_ap, dropK_ap, retS_ap, retK_ap, retN_ap, ifS_ap, ifK_ap, setS_ap, setK_ap, asgS_ap, asgK_ap, asgJ_ap, nameG_ap, nilG_ap, consG_ap, consGK_ap, fnF_ap, fnK_nx, fnK_rt, forS_ap, forK_ap, negD_ap, addI_ap, varK_ap, startE, yes2, isN, List.map_cons, List.map_nil, List.length_cons, List.length_nil, List.replicate, List.append_nil, List.cons_append, List.nil_append, List.getElem?_cons_zero, List.getElem?_cons_succ, List.set_cons_zero, List.set_cons_succ, R.bind_ok, R.bind_ex, R.bind_bad, R.noex_ok, if_true, if_false, Bool.false_eq_true, Bool.true_eq_false, ite_true, ite_false, reduceIte, Nat.reduceAdd, Nat.reduceSub, Nat.zero_add, Nat.sub_self, Nat.sub_zero, decide_true, decide_false, Bool.not_true, Bool.not_false, subD_ap, ltD_ap, leD_ap, gtD_ap, geD_ap, mulD_ap, modD_ap, divD_ap, powD_ap, tupK_ok, lstK_ok, methK_ok, tupG_ok, eqS_t, eqS_f, neS_t, neS_f, eqI_ap, neI_ap, inT_nil, inT_hit, inT_miss, ne_eq, not_false_eq_true, f__law_term, b__law_term, v6, v72, hw, h0, c, sz (by decide : 2 ≤ 100), sz (by decide : 3 ≤ 100)]; rfl, .node (by decide) rfl (allCons .int (allCons (.inr a1) allNil))⟩
  · exact ⟨.tup [.str "plus", .tup [.str "at", .int (n / 6 % w)], .tup [.str "minus", .tup [.str "at", .int (n / 72 % w)], .tup [.str "num", .int 1]]], fun st => by simp -implicitDefEqProofs +decide only [varF_ap, cF_ap, opF_ap, opK_ap, bF_ap, boolK_ap, andT_ap, andK_ap, orT_ap, orK_ap, notT_ap, notK_ap, yesT_ap, andV_ap, andVK_ap, orV_ap, orVK_ap, notV_ap, notVK_ap, ifF_ap, ifFK_ap, nilA_ap, consA_ap, consK_ap, consJ_ap, tupA_ap, lstA_ap, newO_ap, dicF_ap, callF_ap, un1_ap, methF_ap, nonO_ap, someO_ap, someK_ap, slF_ap, slK_ap, slJ_ap, itF_ap, itA_ap, nilS_ap, bkS_ap, ctS_ap, seqS_ap, seqK_nx, seqK_rt, seqK_bk, seqK_ct, dropS_ap, dropK_ap, retS_ap, retK_ap, retN_ap, ifS_ap, ifK_ap, setS_ap, setK_ap, asgS_ap, asgK_ap, asgJ_ap, nameG_ap, nilG_ap, consG_ap, consGK_ap, fnF_ap, fnK_nx, fnK_rt, forS_ap, forK_ap, negD_ap, addI_ap, varK_ap, startE, yes2, isN, List.map_cons, List.map_nil, List.length_cons, List.length_nil, List.replicate, List.append_nil, List.cons_append, List.nil_append, List.getElem?_cons_zero, List.getElem?_cons_succ, List.set_cons_zero, List.set_cons_succ, R.bind_ok, R.bind_ex, R.bind_bad, R.noex_ok, if_true, if_false, Bool.false_eq_true, Bool.true_eq_false, ite_true, ite_false, reduceIte, Nat.reduceAdd, Nat.reduceSub, Nat.zero_add, Nat.sub_self, Nat.sub_zero, decide_true, decide_false, Bool.not_true, Bool.not_false, subD_ap, ltD_ap, leD_ap, gtD_ap, geD_ap, mulD_ap, modD_ap, divD_ap, powD_ap, tupK_ok, lstK_ok, methK_ok, tupG_ok, eqS_t, eqS_f, neS_t, neS_f, eqI_ap, neI_ap, inT_nil, inT_hit, inT_miss, ne_eq, not_false_eq_true, f__law_term, b__law_term, v6, v72, hw, h0, c, sz (by decide : 2 ≤ 100), sz (by decide : 3 ≤ 100)]; rfl,
      .node (by decide) rfl (allCons (.inr a1) (allCons (.inr (.node (by decide) rfl (allCons (.inr a2) (allCons (.inr (.node (by decide) rfl (allCons .int allNil))) allNil)))) allNil))⟩
  · exact ⟨.tup [.str "if", .tup [.str "not", .tup [.str "same", .tup [.str "at", .int (n / 6 % w)], .tup [.str "gap"]]], .tup [.str "at", .int (n / 72 % w)], .tup [.str "rest", .int 3, .tup [.str "at", .int (n / 6 % w)]]], fun st => by simp -implicitDefEqProofs +decide only [varF_ap, cF_ap, opF_ap, opK_ap, bF_ap, boolK_ap, andT_ap, andK_ap, orT_ap, orK_ap, notT_ap, notK_ap, yesT_ap, andV_ap, andVK_ap, orV_ap, orVK_ap, notV_ap, notVK_ap, ifF_ap, ifFK_ap, nilA_ap, consA_ap, consK_ap, consJ_ap, tupA_ap, lstA_ap, newO_ap, dicF_ap, callF_ap, un1_ap, methF_ap, nonO_ap, someO_ap, someK_ap, slF_ap, slK_ap, slJ_ap, itF_ap, itA_ap, nilS_ap, bkS_ap, ctS_ap, seqS_ap, seqK_nx, seqK_rt, seqK_bk, seqK_ct, dropS_ap, dropK_ap, retS_ap, retK_ap, retN_ap, ifS_ap, ifK_ap, setS_ap, setK_ap, asgS_ap, asgK_ap, asgJ_ap, nameG_ap, nilG_ap, consG_ap, consGK_ap, fnF_ap, fnK_nx, fnK_rt, forS_ap, forK_ap, negD_ap, addI_ap, varK_ap, startE, yes2, isN, List.map_cons, List.map_nil, List.length_cons, List.length_nil, List.replicate, List.append_nil, List.cons_append, List.nil_append, List.getElem?_cons_zero, List.getElem?_cons_succ, List.set_cons_zero, List.set_cons_succ, R.bind_ok, R.bind_ex, R.bind_bad, R.noex_ok, if_true, if_false, Bool.false_eq_true, Bool.true_eq_false, ite_true, ite_false, reduceIte, Nat.reduceAdd, Nat.reduceSub, Nat.zero_add, Nat.sub_self, Nat.sub_zero, decide_true, decide_false, Bool.not_true, Bool.not_false, subD_ap, ltD_ap, leD_ap, gtD_ap, geD_ap, mulD_ap, modD_ap, divD_ap, powD_ap, tupK_ok, lstK_ok, methK_ok, tupG_ok, eqS_t, eqS_f, neS_t, neS_f, eqI_ap, neI_ap, inT_nil, inT_hit, inT_miss, ne_eq, not_false_eq_true, f__law_term, b__law_term, v6, v72, hw, h0, c, sz (by decide : 2 ≤ 100), sz (by decide : 3 ≤ 100), sz (by decide : 4 ≤ 100), sz (by decide : 1 ≤ 100)]; rfl,
      .node (by decide) rfl (allCons (.inr (.node (by decide) rfl (allCons (.inr (.node (by decide) rfl (allCons (.inr a1) (allCons (.inr (.node (by decide) rfl allNil)) allNil)))) allNil))) (allCons (.inr a2) (allCons (.inr (.node (by decide) rfl (allCons .int (allCons (.inr a1) allNil)))) allNil)))⟩
theorem asked_ok {n w : Int} (h1 : 1 ≤ w) (h2 : w ≤ 12) : ∃ e, (∀ st, f__law_asked [.int n, .int w] st = .ok (.tup [e, .int (tsz e)]) st) ∧ Ex w 4 e := by
  have hw := l2w h1 (by omega)
  have h0 : 0 < w := by omega
  have v3 : (3 : Int).natAbs.log2 < 9000 := by decide +kernel
  have v36 : (36 : Int).natAbs.log2 < 9000 := by decide +kernel
  have a1 : ∀ {k : Nat}, Ex w (k + 1) (.tup [.str "at", .int (n / 3 % w)]) := Ex.at (Int.emod_lt_of_pos _ h0)
  have a2 : ∀ {k : Nat}, Ex w (k + 1) (.tup [.str "at", .int (n / 36 % w)]) := Ex.at (Int.emod_lt_of_pos _ h0)
  have hc : n % 3 = 0 ∨ n % 3 = 1 ∨ n % 3 = 2 := by omega
  rcases hc with c | c | c
  · exact ⟨.tup [.str "below", .tup [.str "at", .int (n / 3 % w)], .tup [.str "at", .int (n / 36 % w)]], fun st => by simp -implicitDefEqProofs +decide only [varF_ap, cF_ap, opF_ap, opK_ap, bF_ap, boolK_ap, andT_ap, andK_ap, orT_ap, orK_ap, notT_ap, notK_ap, yesT_ap, andV_ap, andVK_ap, orV_ap, orVK_ap, notV_ap, notVK_ap, ifF_ap, ifFK_ap, nilA_ap, consA_ap, consK_ap, consJ_ap, tupA_ap, lstA_ap, newO_ap, dicF_ap, callF_ap, un1_ap, methF_ap, nonO_ap, someO_ap, someK_ap, slF_ap, slK_ap, slJ_ap, itF_ap, itA_ap, nilS_ap, bkS_ap, ctS_ap, seqS_ap, seqK_nx, seqK_rt, seqK_bk, seqK_ct, dropS_ap, dropK_ap, retS_ap, retK_ap, retN_ap, ifS_ap, ifK_ap, setS_ap, setK_ap, asgS_ap, asgK_ap, asgJ_ap, nameG_ap, nilG_ap, consG_ap, consGK_ap, fnF_ap, fnK_nx, fnK_rt, forS_ap, forK_ap, negD_ap, addI_ap, varK_ap, startE, yes2, isN, List.map_cons, List.map_nil, List.length_cons, List.length_nil, List.replicate, List.append_nil, List.cons_append, List.nil_append, List.getElem?_cons_zero, List.getElem?_cons_succ, List.set_cons_zero, List.set_cons_succ, R.bind_ok, R.bind_ex, R.bind_bad, R.noex_ok, if_true, if_false, Bool.false_eq_true, Bool.true_eq_false, ite_true, ite_false, reduceIte, Nat.reduceAdd, Nat.reduceSub, Nat.zero_add, Nat.sub_self, Nat.sub_zero, decide_true, decide_false, Bool.not_true, Bool.not_false, subD_ap, ltD_ap, leD_ap, gtD_ap, geD_ap, mulD_ap, modD_ap, divD_ap, powD_ap, tupK_ok, lstK_ok, methK_ok, tupG_ok, eqS_t, eqS_f, neS_t, neS_f, eqI_ap, neI_ap, inT_nil, inT_hit, inT_miss, ne_eq, not_false_eq_true, f__law_asked, b__law_asked, v3, v36, hw, h0, c, sz (by decide : 2 ≤ 100), sz (by decide : 3 ≤ 100)]; rfl, .node (by decide) rfl (allCons (.inr a1) (allCons (.inr a2) allNil))⟩
  · exact ⟨.tup [.str "and", .tup [.str "not", .tup [.str "below", .tup [.str "at", .int (n / 3 % w)], .tup [.str "num", .int 4]]], .tup [.str "same", .tup [.str "at", .int (n / 36 % w)], .tup [.str "gap"]]], fun st => by simp -implicitDefEqProofs +decide only [varF_ap, cF_ap, opF_ap, opK_ap, bF_ap, boolK_ap, andT_ap, andK_ap, orT_ap, orK_ap, notT_ap, notK_ap, yesT_ap, andV_ap, andVK_ap, orV_ap, orVK_ap, notV_ap, notVK_ap, ifF_ap, ifFK_ap, nilA_ap, consA_ap, consK_ap, consJ_ap, tupA_ap, lstA_ap, newO_ap, dicF_ap, callF_ap, un1_ap, methF_ap, nonO_ap, someO_ap, someK_ap, slF_ap, slK_ap, slJ_ap, itF_ap, itA_ap, nilS_ap, bkS_ap, ctS_ap, seqS_ap, seqK_nx, seqK_rt, seqK_bk, seqK_ct, dropS_ap, dropK_ap, retS_ap, retK_ap, retN_ap, ifS_ap, ifK_ap, setS_ap, setK_ap, asgS_ap, asgK_ap, asgJ_ap, nameG_ap, nilG_ap, consG_ap, consGK_ap, fnF_ap, fnK_nx, fnK_rt, forS_ap, forK_ap, negD_ap, addI_ap, varK_ap, startE, yes2, isN, List.map_cons, List.map_nil, List.length_cons, List.length_nil, List.replicate, List.append_nil, List.cons_append, List.nil_append, List.getElem?_cons_zero, List.getElem?_cons_succ, List.set_cons_zero, List.set_cons_succ, R.bind_ok, R.bind_ex, R.bind_bad, R.noex_ok, if_true, if_false, Bool.false_eq_true, Bool.true_eq_false, ite_true, ite_false, reduceIte, Nat.reduceAdd, Nat.reduceSub, Nat.zero_add, Nat.sub_self, Nat.sub_zero, decide_true, decide_false, Bool.not_true, Bool.not_false, subD_ap, ltD_ap, leD_ap, gtD_ap, geD_ap, mulD_ap, modD_ap, divD_ap, powD_ap, tupK_ok, lstK_ok, methK_ok, tupG_ok, eqS_t, eqS_f, neS_t, neS_f, eqI_ap, neI_ap, inT_nil, inT_hit, inT_miss, ne_eq, not_false_eq_true, f__law_asked, b__law_asked, v3, v36, hw, h0, c, sz (by decide : 2 ≤ 100), sz (by decide : 3 ≤ 100), sz (by decide : 1 ≤ 100)]; rfl,
      .node (by decide) rfl (allCons (.inr (.node (by decide) rfl (allCons (.inr (.node (by decide) rfl (allCons (.inr a1) (allCons (.inr (.node (by decide) rfl (allCons .int allNil))) allNil)))) allNil))) (allCons (.inr (.node (by decide) rfl (allCons (.inr a2) (allCons (.inr (.node (by decide) rfl allNil)) allNil)))) allNil))⟩
  · exact ⟨.tup [.str "or", .tup [.str "same", .tup [.str "part", .int 2, .tup [.str "at", .int (n / 3 % w)]], .tup [.str "at", .int (n / 36 % w)]], .tup [.str "below", .tup [.str "at", .int (n / 36 % w)], .tup [.str "at", .int (n / 3 % w)]]], fun st => by simp -implicitDefEqProofs +decide only [varF_ap, cF_ap, opF_ap, opK_ap, bF_ap, boolK_ap, andT_ap, andK_ap, orT_ap, orK_ap, notT_ap, notK_ap, yesT_ap, andV_ap, andVK_ap, orV_ap, orVK_ap, notV_ap, notVK_ap, ifF_ap, ifFK_ap, nilA_ap, consA_ap, consK_ap, consJ_ap, tupA_ap, lstA_ap, newO_ap, dicF_ap, callF_ap, un1_ap, methF_ap, nonO_ap, someO_ap, someK_ap, slF_ap, slK_ap, slJ_ap, itF_ap, itA_ap, nilS_ap, bkS_ap, ctS_ap, seqS_ap, seqK_nx, seqK_rt, seqK_bk, seqK_ct, dropS_ap, dropK_ap, retS_ap, retK_ap, retN_ap, ifS_ap, ifK_ap, setS_ap, setK_ap, asgS_ap, asgK_ap, asgJ_ap, nameG_ap, nilG_ap, consG_ap, consGK_ap, fnF_ap, fnK_nx, fnK_rt, forS_ap, forK_ap, negD_ap, addI_ap, varK_ap, startE, yes2, isN, List.map_cons, List.map_nil, List.length_cons, List.length_nil, List.replicate, List.append_nil, List.cons_append, List.nil_append, List.getElem?_cons_zero, List.getElem?_cons_succ, List.set_cons_zero, List.set_cons_succ, R.bind_ok, R.bind_ex, R.bind_bad, R.noex_ok, if_true, if_false, Bool.false_eq_true, Bool.true_eq_false, ite_true, ite_false, reduceIte, Nat.reduceAdd, Nat.reduceSub, Nat.zero_add, Nat.sub_self, Nat.sub_zero, decide_true, decide_false, Bool.not_true, Bool.not_false, subD_ap, ltD_ap, leD_ap, gtD_ap, geD_ap, mulD_ap, modD_ap, divD_ap, powD_ap, tupK_ok, lstK_ok, methK_ok, tupG_ok, eqS_t, eqS_f, neS_t, neS_f, eqI_ap, neI_ap, inT_nil, inT_hit, inT_miss, ne_eq, not_false_eq_true, f__law_asked, b__law_asked, v3, v36, hw, h0, c, sz (by decide : 2 ≤ 100), sz (by decide : 3 ≤ 100), sz (by decide : 1 ≤ 100)]; rfl,
      .node (by decide) rfl (allCons (.inr (.node (by decide) rfl (allCons (.inr (.node (by decide) rfl (allCons .int (allCons (.inr a1) allNil)))) (allCons (.inr a2) allNil)))) (allCons (.inr (.node (by decide) rfl (allCons (.inr a2) (allCons (.inr a1) allNil)))) allNil))⟩
def parK (i j : Nat) (env : EnvD) (xs : List VL.D) (s : Sto) : R Fl := match xs with
  | [x, y] => .ok (.nx ((env.set i (some x)).set j (some y))) s
  | _ => .bad
theorem parS_ap {i j : Nat} {fa : AF} {env : EnvD} {st : Sto} : parS i j fa env st = (fa env st).bind (parK i j env) := rfl
theorem parK_ap {i j : Nat} {env : EnvD} {x y : VL.D} {s : Sto} : parK i j env [x, y] s = .ok (.nx ((env.set i (some x)).set j (some y))) s := rfl
theorem mul_l {a : Int} (h : Sm 64 a) (b : Int) : VL.MulOk a b := of_decide_eq_true (mul_okL h)
def four : List Str := ["pour", "both", "either", "less"]
def tri : List Str := ["join", "left", "notin"]
def sums : List Str := ["sum", "least", "most"]
def seven : List Str := ["join", "left", "notin", "pour", "both", "either", "less"]
def eight : List Str := ["sieve", "once", "cols", "count", "first", "sum", "least", "most"]
def sixteen : List Str := ["sieve", "cols", "once", "count", "sum", "least", "most", "first", "join", "left", "notin", "pour", "both", "either", "less", "rounds"]
def prD (p : Int × Int) : VL.D := .tup [.int p.1, .int p.2]
def orD (p : Int × Bool) : VL.D := .tup [.int p.1, .bl p.2]
abbrev NmP := Str → Int → Prop
def more (N : NmP) (n : Str) (x : Int) : NmP := fun m w => (m = n ∧ w = x) ∨ (m ≠ n ∧ N m w)
/-- a view over known names: its width, its size, how deep -/
inductive Vw : NmP → VL.D → Int → Int → Nat → Prop
  | name {N : NmP} {n : Str} {w : Int} : N n w → Vw N (.tup [.str "name", .str n]) w 1 0
  | sieve {N : NmP} {a e : VL.D} {x s : Int} {d : Nat} : Vw N a x s d → Ex x 4 e → Vw N (.tup [.str "sieve", a, e]) x (1 + s + tsz e) (1 + d)
  | once {N : NmP} {a : VL.D} {x s : Int} {d : Nat} : Vw N a x s d → Vw N (.tup [.str "once", a]) x (1 + s) (1 + d)
  | cols {N : NmP} {a : VL.D} {es : List VL.D} {x s : Int} {d : Nat} : Vw N a x s d → (∀ e ∈ es, Ex x 4 e) → es.length ≤ 12 → Vw N (.tup [.str "cols", a, .tup es]) es.length (1 + s + (es.map tsz).sum) (1 + d)
  | count {N : NmP} {a : VL.D} {by_ : List Int} {x s : Int} {d : Nat} : Vw N a x s d → (∀ p ∈ by_, p < x) → by_.length ≤ 11 → Vw N (.tup [.str "count", a, .tup (by_.map .int)]) (by_.length + 1) (1 + s + by_.length) (1 + d)
  | sums {N : NmP} {a : VL.D} {w : Str} {p : Int} {by_ : List Int} {x s : Int} {d : Nat} : w ∈ sums → Vw N a x s d → (∀ p ∈ by_, p < x) → p < x → by_.length ≤ 11 → Vw N (.tup [.str w, a, .int p, .tup (by_.map .int)]) (by_.length + 1) (1 + s + by_.length) (1 + d)
  | first {N : NmP} {a : VL.D} {k : Int} {by_ : List Int} {os : List (Int × Bool)} {x s : Int} {d : Nat} : Vw N a x s d → (∀ p ∈ by_, p < x) → (∀ p ∈ os, p.1 < x) → by_.length ≤ 11 → os.length ≤ 12 → Vw N (.tup [.str "first", a, .int k, .tup (by_.map .int), .tup (os.map orD)]) x (1 + s + by_.length + os.length) (1 + d)
  | same {N : NmP} {w : Str} {a b : VL.D} {x s t : Int} {da db : Nat} : w ∈ four → Vw N a x s da → Vw N b x t db → Vw N (.tup [.str w, a, b]) x (1 + s + t) (1 + max da db)
  | pairs {N : NmP} {w : Str} {a b : VL.D} {ps : List (Int × Int)} {x y s t : Int} {da db : Nat} : w ∈ tri → Vw N a x s da → Vw N b y t db → ps.length ≤ 12 → (∀ p ∈ ps, p.1 < x) → (∀ p ∈ ps, p.2 < y) → Vw N (.tup [.str w, a, b, .tup (ps.map prD)]) (if w = "notin" then x else x + y) (1 + s + t + ps.length) (1 + max da db)
  | up {N : NmP} {v : VL.D} {w s : Int} {d : Nat} : Vw N v w s d → Vw N v w s (d + 1)
  | rounds {N : NmP} {n : Str} {k : Int} {a b : VL.D} {x s t : Int} {da db : Nat} : 1 ≤ k → k ≤ 6 → Vw N a x s da → Vw (more N n x) b x t db → Vw N (.tup [.str "rounds", .str n, .int k, a, b]) x (s + k * (2 + t)) (1 + max da db)
theorem more_mono {N M : NmP} (h : ∀ n w, N n w → M n w) (n : Str) (x : Int) : ∀ m w, more N n x m w → more M n x m w := fun m w k => k.imp id fun z => ⟨z.1, h m w z.2⟩
theorem Vw.mono {N M : NmP} {v : VL.D} {w s : Int} {d : Nat} (h : Vw N v w s d) : (∀ n w, N n w → M n w) → Vw M v w s d := by
  induction h generalizing M with
  | name h => exact fun k => .name (k _ _ h)
  | sieve _ he ih => exact fun k => .sieve (ih k) he
  | once _ ih => exact fun k => .once (ih k)
  | cols _ he hl ih => exact fun k => .cols (ih k) he hl
  | count _ he hl ih => exact fun k => .count (ih k) he hl
  | sums hw _ he hp hl ih => exact fun k => .sums hw (ih k) he hp hl
  | first _ h1 h2 h3 h4 ih => exact fun k => .first (ih k) h1 h2 h3 h4
  | same hw _ _ i1 i2 => exact fun k => .same hw (i1 k) (i2 k)
  | pairs hw _ _ hl h1 h2 i1 i2 => exact fun k => .pairs hw (i1 k) (i2 k) hl h1 h2
  | up _ ih => exact fun k => .up (ih k)
  | rounds h1 h2 _ _ i1 i2 => exact fun k => .rounds h1 h2 (i1 k) (i2 (more_mono k _ _))
theorem Vw.ups {N : NmP} {v : VL.D} {w s : Int} {d e : Nat} (h : Vw N v w s d) (k : d ≤ e) : Vw N v w s e := by
  induction k with
  | refl => exact h
  | step _ ih => exact .up ih
/-- an entry: view, width, size, signs, depth -/
def En (N : NmP) (w : Int) (dp : Nat) (e : VL.D) : Prop := ∃ v s g q, e = .tup [v, .int w, .int s, .int g, .int q] ∧ q = (dp : Int) ∧ 1 ≤ w ∧ w ≤ 12 ∧ Vw N v w s dp
theorem En.mono {N M : NmP} {x : Int} {da : Nat} {a : VL.D} (h : En N x da a) (k : ∀ n w, N n w → M n w) : En M x da a := by
  obtain ⟨v, s, g, q, h1, h2, h3, h4, h5⟩ := h
  exact ⟨v, s, g, q, h1, h2, h3, h4, h5.mono k⟩
end Law

namespace Law
open PySem L2 VL
/-! mixed2: the second mixing; digits -/
def mixed (c : Int) : Int := c * 69621 % 2147483629 + 2147483629 * (c % 10 ^ 30)
theorem mixed_ok {c : Int} {st : Sto} : f__law_mixed [.int c] st = .ok (.int (mixed c)) st := by
  have p1 : decide ((0 : Int) ≤ 30 ∧ (30 : Int) ≤ 1000000 ∧ (10 : Int).natAbs < 2 ^ 64) = true := by decide
  have m1 : decide ((0 : Int) < 10 ^ 30) = true := by decide
  have m2 : decide ((0 : Int) < 2147483629) = true := by decide
  have e : ((10 : Int) ^ (30 : Int).toNat) = 10 ^ 30 := rfl
  have q1 : decide (MulOk c 69621) = true := mul_okR (by decide)
  have q2 : decide (MulOk 2147483629 (c % 10 ^ 30)) = true := mul_okL (by decide)
  simp -implicitDefEqProofs only [varF_ap, cF_ap, opF_ap, opK_ap, bF_ap, boolK_ap, andT_ap, andK_ap, orT_ap, orK_ap, notT_ap, notK_ap, yesT_ap, andV_ap, andVK_ap, orV_ap, orVK_ap, notV_ap, notVK_ap, ifF_ap, ifFK_ap, nilA_ap, consA_ap, consK_ap, consJ_ap, tupA_ap, tupK_ap, lstA_ap, lstK_ap, newO_ap, dicF_ap, callF_ap, un1_ap, methF_ap, methK_ap, nonO_ap, someO_ap, someK_ap, slF_ap, slK_ap, slJ_ap, itF_ap, itA_ap, nilS_ap, bkS_ap, ctS_ap, seqS_ap, seqK_nx, seqK_rt, seqK_bk, seqK_ct, dropS_ap, dropK_ap, retS_ap, retK_ap, retN_ap, ifS_ap, ifK_ap, setS_ap, setK_ap, asgS_ap, asgK_ap, asgJ_ap, nameG_ap, nilG_ap, consG_ap, consGK_ap, tupG_ap, fnF_ap, fnK_nx, fnK_rt, forS_ap, forK_ap, intD_ap, negD_ap, addI_ap, varK_ap, startE, yes2, isN, List.map_cons, List.map_nil, List.length_cons, List.length_nil, List.replicate, List.append_nil, List.cons_append, List.nil_append, List.getElem?_cons_zero, List.getElem?_cons_succ, List.set_cons_zero, List.set_cons_succ, R.bind_ok, R.bind_ex, R.bind_bad, R.noex_ok, if_true, if_false, Bool.false_eq_true, Bool.true_eq_false, ite_true, ite_false, reduceIte, Nat.reduceAdd, Nat.reduceSub, Nat.zero_add, Nat.sub_self, Nat.sub_zero, decide_true, decide_false, Bool.not_true, Bool.not_false, f__law_mixed, b__law_mixed, p1, e, m1, m2, q1, q2]
  rfl
theorem mixed_nonneg (c : Int) : 0 ≤ mixed c := by
  unfold mixed
  have h1 := Int.emod_nonneg (c * 69621) (show (2147483629 : Int) ≠ 0 by decide)
  have h2 := Int.emod_nonneg c (show (10 ^ 30 : Int) ≠ 0 by decide)
  have h3 := Int.mul_nonneg (show (0 : Int) ≤ 2147483629 by decide) h2
  omega
def digs (top : Int) : Nat → Int → List Int
  | 0, _ => []
  | k + 1, n => n % top :: digs top k (n / top)
def dshift (top : Int) : Nat → Int → Int
  | 0, n => n
  | k + 1, n => dshift top k n / top
theorem dshift_s (top : Int) (k : Nat) (n : Int) : dshift top (k + 1) n = dshift top k n / top := rfl
theorem dshift_succ (top : Int) : ∀ k n, dshift top (k + 1) n = dshift top k (n / top)
  | 0, _ => rfl
  | k + 1, n => by
    show dshift top (k + 1) n / top = dshift top k (n / top) / top
    rw [dshift_succ top k n]
theorem digs_succ (top : Int) : ∀ k n, digs top (k + 1) n = digs top k n ++ [dshift top k n % top]
  | 0, n => rfl
  | k + 1, n => by
    rw [digs, digs_succ top k, ← dshift_succ]
    rfl
theorem digs_len (top : Int) : ∀ k n, (digs top k n).length = k
  | 0, _ => rfl
  | k + 1, n => by rw [digs, List.length_cons, digs_len top k]
theorem digs_bd {top : Int} (h : 0 < top) : ∀ k n, ∀ d ∈ digs top k n, 0 ≤ d ∧ d < top
  | 0, _, d, hd => by cases hd
  | k + 1, n, d, hd => by
    rw [digs] at hd
    rcases List.mem_cons.mp hd with hd | hd
    · rw [hd]; exact ⟨Int.emod_nonneg _ (by omega), Int.emod_lt_of_pos _ h⟩
    · exact digs_bd h k _ d hd
def digsD (top : Int) (k : Nat) (n : Int) : List VL.D := (digs top k n).map .int
theorem digsD_len (top : Int) (k : Nat) (n : Int) : (digsD top k n).length = k := by rw [digsD, List.length_map, digs_len]
theorem digits_turn {m top : Int} {w x : VL.D} {st : Sto} {acc : List VL.D} (hz : acc.length < sizeLine) (ht : 0 < top) (ht2 : top.natAbs.log2 < 9000) :
    l0__law_digits [some (.int m), some w, some (.int top), some (.ref st.length), some x] (st ++ [.lst acc]) = .ok (.nx [some (.int (m / top)), some w, some (.int top), some (.ref st.length), some x]) (st ++ [.lst (acc ++ [.int (m % top)])]) := by
  have v9 : decide ((0 : Int) < top ∧ top.natAbs.log2 < 9000) = true := decide_eq_true ⟨ht, ht2⟩
  have m9 : decide ((0 : Int) < top) = true := decide_eq_true ht
  have t : tyD "list" (VL.D.ref st.length) (st ++ [.lst acc]) := tyD_list listAt_last
  have a : appD (.ref st.length) [.int (m % top)] (st ++ [.lst acc]) = .ok .non (st ++ [.lst (acc ++ [.int (m % top)])]) := by
    rw [appD_ok get_last hz, set_last]
  unfold l0__law_digits
  simp -implicitDefEqProofs only [varF_ap, cF_ap, opF_ap, opK_ap, bF_ap, boolK_ap, andT_ap, andK_ap, orT_ap, orK_ap, notT_ap, notK_ap, yesT_ap, andV_ap, andVK_ap, orV_ap, orVK_ap, notV_ap, notVK_ap, ifF_ap, ifFK_ap, nilA_ap, consA_ap, consK_ap, consJ_ap, tupA_ap, tupK_ap, lstA_ap, lstK_ap, newO_ap, dicF_ap, callF_ap, un1_ap, methF_ap, methK_ap, nonO_ap, someO_ap, someK_ap, slF_ap, slK_ap, slJ_ap, itF_ap, itA_ap, nilS_ap, bkS_ap, ctS_ap, seqS_ap, seqK_nx, seqK_rt, seqK_bk, seqK_ct, dropS_ap, dropK_ap, retS_ap, retK_ap, retN_ap, ifS_ap, ifK_ap, setS_ap, setK_ap, asgS_ap, asgK_ap, asgJ_ap, nameG_ap, nilG_ap, consG_ap, consGK_ap, tupG_ap, fnF_ap, fnK_nx, fnK_rt, forS_ap, forK_ap, intD_ap, negD_ap, addI_ap, varK_ap, startE, yes2, isN, List.map_cons, List.map_nil, List.length_cons, List.length_nil, List.replicate, List.append_nil, List.cons_append, List.nil_append, List.getElem?_cons_zero, List.getElem?_cons_succ, List.set_cons_zero, List.set_cons_succ, R.bind_ok, R.bind_ex, R.bind_bad, R.noex_ok, if_true, if_false, Bool.false_eq_true, Bool.true_eq_false, ite_true, ite_false, reduceIte, Nat.reduceAdd, Nat.reduceSub, Nat.zero_add, Nat.sub_self, Nat.sub_zero, decide_true, decide_false, Bool.not_true, Bool.not_false, methF, m9, v9, t, a]
theorem digits_ok {n top : Int} {k : Nat} {st : Sto} (ht : 0 < top) (ht2 : top.natAbs.log2 < 9000) (hk : k ≤ 10000) : f__law_digits [.int n, .int k, .int top] st = .ok (.ref st.length) (st ++ [.lst (digsD top k n)]) := by
  have r1 : rng1D [.int (k : Int)] (st ++ [.lst []]) = .ok (intsD 0 1 k, []) (st ++ [.lst []]) := rng1_ok (by omega)
  obtain ⟨e', s', h1, z, rfl, rfl⟩ := forL_inv (c := []) (gf := nameG 4) (b := l0__law_digits) (ds := intsD 0 1 k) (env := [some (.int n), some (.int k), some (.int top), some (.ref st.length), none]) (st := st ++ [.lst []])
    (fun i env s => ∃ z, env = [some (.int (dshift top i n)), some (.int k), some (.int top), some (.ref st.length), z] ∧ s = st ++ [.lst (digsD top i n)]) ⟨none, rfl, rfl⟩ (fun _ _ _ _ => ChkOk.nil) (fun i x env s hx ⟨z, he, hs⟩ => by
      subst he hs
      have hi := (List.getElem?_eq_some_iff.mp hx).1
      rw [intsD_len] at hi
      refine ⟨_, _, _, _, rfl, digits_turn (by rw [digsD_len, sizeLine_eq']; omega) ht ht2, some x, by rw [dshift_s], ?_⟩
      unfold digsD
      rw [digs_succ, List.map_append]
      rfl)
  rw [intsD_len] at h1
  have h0 : (0 : Nat) ≤ sizeLine := Nat.zero_le _
  simp -implicitDefEqProofs only [varF_ap, cF_ap, opF_ap, opK_ap, bF_ap, boolK_ap, andT_ap, andK_ap, orT_ap, orK_ap, notT_ap, notK_ap, yesT_ap, andV_ap, andVK_ap, orV_ap, orVK_ap, notV_ap, notVK_ap, ifF_ap, ifFK_ap, nilA_ap, consA_ap, consK_ap, consJ_ap, tupA_ap, tupK_ap, lstA_ap, lstK_ap, newO_ap, dicF_ap, callF_ap, un1_ap, methF_ap, methK_ap, nonO_ap, someO_ap, someK_ap, slF_ap, slK_ap, slJ_ap, itF_ap, itA_ap, nilS_ap, bkS_ap, ctS_ap, seqS_ap, seqK_nx, seqK_rt, seqK_bk, seqK_ct, dropS_ap, dropK_ap, retS_ap, retK_ap, retN_ap, ifS_ap, ifK_ap, setS_ap, setK_ap, asgS_ap, asgK_ap, asgJ_ap, nameG_ap, nilG_ap, consG_ap, consGK_ap, tupG_ap, fnF_ap, fnK_nx, fnK_rt, forS_ap, forK_ap, intD_ap, negD_ap, addI_ap, varK_ap, startE, yes2, isN, List.map_cons, List.map_nil, List.length_cons, List.length_nil, List.replicate, List.append_nil, List.cons_append, List.nil_append, List.getElem?_cons_zero, List.getElem?_cons_succ, List.set_cons_zero, List.set_cons_succ, R.bind_ok, R.bind_ex, R.bind_bad, R.noex_ok, if_true, if_false, Bool.false_eq_true, Bool.true_eq_false, ite_true, ite_false, reduceIte, Nat.reduceAdd, Nat.reduceSub, Nat.zero_add, Nat.sub_self, Nat.sub_zero, decide_true, decide_false, Bool.not_true, Bool.not_false, f__law_digits, b__law_digits, forS, r1, h0, h1]
end Law

namespace Law
open PySem L2 VL
/-! entries made -/
section
variable {N : NmP} {a b e : VL.D} {x y : Int} {da db : Nat}
theorem ints_mem {lo c : Int} {n : Nat} {d : VL.D} (h : d ∈ intsD lo c n) : ∃ i, i < n ∧ d = .int (lo + (i : Nat) * c) := by
  obtain ⟨i, hi⟩ := List.getElem?_of_mem h
  exact ⟨i, intsD_get hi⟩
theorem sum_ones {f : VL.D → Int} : ∀ {l : List VL.D}, (∀ e ∈ l, f e = 1) → (l.map f).sum = l.length
  | [], _ => rfl
  | e :: l, h => by
    rw [List.map_cons, List.sum_cons, h e List.mem_cons_self, sum_ones fun e he => h e (List.mem_cons_of_mem _ he), List.length_cons]
    omega
theorem fitted_ok {st : Sto} (ha : En N x da a) (h1 : 1 ≤ y) (h2 : y ≤ 12) : ∃ e de S, f__law_fitted [a, .int y] st = .ok e S ∧ Le st S ∧ En N y de e ∧ da ≤ de := by
  obtain ⟨v, s, g, q, rfl, hq, hx1, hx2, h5⟩ := ha
  by_cases hxy : x = y
  · subst hxy
    exact ⟨_, da, st, by simp -implicitDefEqProofs +decide only [varF_ap, cF_ap, opF_ap, opK_ap, bF_ap, boolK_ap, andT_ap, andK_ap, orT_ap, orK_ap, notT_ap, notK_ap, yesT_ap, andV_ap, andVK_ap, orV_ap, orVK_ap, notV_ap, notVK_ap, ifF_ap, ifFK_ap, nilA_ap, consA_ap, consK_ap, consJ_ap, tupA_ap, lstA_ap, newO_ap, dicF_ap, callF_ap, un1_ap, methF_ap, nonO_ap, someO_ap, someK_ap, slF_ap, slK_ap, slJ_ap, itF_ap, itA_ap, nilS_ap, bkS_ap, ctS_ap, seqS_ap, seqK_nx, seqK_rt, seqK_bk, seqK_ct, dropS_ap, dropK_ap, retS_ap, retK_ap, retN_ap, ifS_ap, ifK_ap, setS_ap, setK_ap, asgS_ap, asgK_ap, asgJ_ap, nameG_ap, nilG_ap, consG_ap, consGK_ap, fnF_ap, fnK_nx, fnK_rt, forS_ap, forK_ap, negD_ap, addI_ap, varK_ap, startE, yes2, isN, List.map_cons, List.map_nil, List.length_cons, List.length_nil, List.replicate, List.append_nil, List.cons_append, List.nil_append, List.getElem?_cons_zero, List.getElem?_cons_succ, List.set_cons_zero, List.set_cons_succ, R.bind_ok, R.bind_ex, R.bind_bad, R.noex_ok, if_true, if_false, Bool.false_eq_true, Bool.true_eq_false, ite_true, ite_false, reduceIte, Nat.reduceAdd, Nat.reduceSub, Nat.zero_add, Nat.sub_self, Nat.sub_zero, decide_true, decide_false, Bool.not_true, Bool.not_false, subD_ap, ltD_ap, leD_ap, gtD_ap, geD_ap, mulD_ap, modD_ap, divD_ap, powD_ap, tupK_ok, lstK_ok, methK_ok, tupG_ok, eqS_t, eqS_f, neS_t, neS_f, eqI_ap, neI_ap, inT_nil, inT_hit, inT_miss, ne_eq, not_false_eq_true, f__law_fitted, b__law_fitted, jx1], Le.refl _, ⟨v, s, g, q, rfl, hq, hx1, hx2, h5⟩, Nat.le_refl _⟩
  · obtain ⟨n, rfl⟩ : ∃ n : Nat, y = n := ⟨y.toNat, by omega⟩
    have hw := l2w hx1 (by omega)
    have h0 : 0 < x := by omega
    have ne : decide (x = (n : Int)) = false := decide_eq_false hxy
    obtain ⟨j, e1⟩ := lcF_all (st := st) (s := st) (c := []) (ds := intsD 0 1 n) (it := itA rng1D (consA (varF 1) nilA)) (vs := [3]) (gf := nameG 3) (te := tupA (consA (cF (.str "at")) (consA (opF modD (varF 3) (opF ixD (varF 0) (cF (.int 1)))) nilA))) (env := [some (.tup [v, .int x, .int s, .int g, .int q]), some (.int (n : Int)), none, none])
      (fun d => match d with | .int k => .tup [.str "at", .int (k % x)] | _ => .non) (by simp -implicitDefEqProofs only [varF_ap, cF_ap, opF_ap, opK_ap, bF_ap, boolK_ap, andT_ap, andK_ap, orT_ap, orK_ap, notT_ap, notK_ap, yesT_ap, andV_ap, andVK_ap, orV_ap, orVK_ap, notV_ap, notVK_ap, ifF_ap, ifFK_ap, nilA_ap, consA_ap, consK_ap, consJ_ap, tupA_ap, tupK_ap, lstA_ap, lstK_ap, newO_ap, dicF_ap, callF_ap, un1_ap, methF_ap, methK_ap, nonO_ap, someO_ap, someK_ap, slF_ap, slK_ap, slJ_ap, itF_ap, itA_ap, nilS_ap, bkS_ap, ctS_ap, seqS_ap, seqK_nx, seqK_rt, seqK_bk, seqK_ct, dropS_ap, dropK_ap, retS_ap, retK_ap, retN_ap, ifS_ap, ifK_ap, setS_ap, setK_ap, asgS_ap, asgK_ap, asgJ_ap, nameG_ap, nilG_ap, consG_ap, consGK_ap, tupG_ap, fnF_ap, fnK_nx, fnK_rt, forS_ap, forK_ap, intD_ap, negD_ap, addI_ap, varK_ap, startE, yes2, isN, List.map_cons, List.map_nil, List.length_cons, List.length_nil, List.replicate, List.append_nil, List.cons_append, List.nil_append, List.getElem?_cons_zero, List.getElem?_cons_succ, List.set_cons_zero, List.set_cons_succ, R.bind_ok, R.bind_ex, R.bind_bad, R.noex_ok, if_true, if_false, Bool.false_eq_true, Bool.true_eq_false, ite_true, ite_false, reduceIte, Nat.reduceAdd, Nat.reduceSub, Nat.zero_add, Nat.sub_self, Nat.sub_zero, decide_true, decide_false, Bool.not_true, Bool.not_false, rng1_ok (w := n) (st := st) (by omega)]) chk_nil (by rw [intsD_len, sizeLine_eq']; omega) fun d hd S hS => by
        obtain ⟨i, hi, rfl⟩ := ints_mem hd
        exact ⟨_, [], rfl, by rw [List.append_nil]; simp -implicitDefEqProofs +decide only [varF_ap, cF_ap, opF_ap, opK_ap, bF_ap, boolK_ap, andT_ap, andK_ap, orT_ap, orK_ap, notT_ap, notK_ap, yesT_ap, andV_ap, andVK_ap, orV_ap, orVK_ap, notV_ap, notVK_ap, ifF_ap, ifFK_ap, nilA_ap, consA_ap, consK_ap, consJ_ap, tupA_ap, lstA_ap, newO_ap, dicF_ap, callF_ap, un1_ap, methF_ap, nonO_ap, someO_ap, someK_ap, slF_ap, slK_ap, slJ_ap, itF_ap, itA_ap, nilS_ap, bkS_ap, ctS_ap, seqS_ap, seqK_nx, seqK_rt, seqK_bk, seqK_ct, dropS_ap, dropK_ap, retS_ap, retK_ap, retN_ap, ifS_ap, ifK_ap, setS_ap, setK_ap, asgS_ap, asgK_ap, asgJ_ap, nameG_ap, nilG_ap, consG_ap, consGK_ap, fnF_ap, fnK_nx, fnK_rt, forS_ap, forK_ap, negD_ap, addI_ap, varK_ap, startE, yes2, isN, List.map_cons, List.map_nil, List.length_cons, List.length_nil, List.replicate, List.append_nil, List.cons_append, List.nil_append, List.getElem?_cons_zero, List.getElem?_cons_succ, List.set_cons_zero, List.set_cons_succ, R.bind_ok, R.bind_ex, R.bind_bad, R.noex_ok, if_true, if_false, Bool.false_eq_true, Bool.true_eq_false, ite_true, ite_false, reduceIte, Nat.reduceAdd, Nat.reduceSub, Nat.zero_add, Nat.sub_self, Nat.sub_zero, decide_true, decide_false, Bool.not_true, Bool.not_false, subD_ap, ltD_ap, leD_ap, gtD_ap, geD_ap, mulD_ap, modD_ap, divD_ap, powD_ap, tupK_ok, lstK_ok, methK_ok, tupG_ok, eqS_t, eqS_f, neS_t, neS_f, eqI_ap, neI_ap, inT_nil, inT_hit, inT_miss, ne_eq, not_false_eq_true, wipeE, jx1, h0, sz (by decide : 2 ≤ 100)]⟩
    obtain ⟨es, hes⟩ : ∃ es, es = (intsD 0 1 n).map (fun d => match d with | .int k => VL.D.tup [.str "at", .int (k % x)] | _ => .non) := ⟨_, rfl⟩
    have hl : es.length = n := by rw [hes, List.length_map, intsD_len]
    have hE : ∀ e ∈ es, Ex x 4 e ∧ tsz e = 1 := fun e he => by
      rw [hes] at he
      obtain ⟨d, hd, rfl⟩ := List.mem_map.mp he
      obtain ⟨i, _, rfl⟩ := ints_mem hd
      exact ⟨Ex.at (Int.emod_lt_of_pos _ h0), rfl⟩
    rw [← hes] at e1
    have q0 : q0__law_fitted [some (.tup [v, .int x, .int s, .int g, .int q]), some (.int (n : Int)), none, none] st = _ := e1
    have tp : tupleD [.ref st.length] (st ++ .lst es :: j) = .ok (.tup es) (st ++ .lst es :: j) := tupleD_list listAt_at
    have k1 := Vw.cols h5 (fun e he => (hE e he).1) (by omega)
    rw [sum_ones fun e he => (hE e he).2, hl] at k1
    have m4 := mul_l (a := 4) (by decide) (n : Int)
    refine ⟨.tup [.tup [.str "cols", v, .tup es], .int n, .int (1 + n + s), .int (24 + 4 * n + g), .int (1 + q)], 1 + da, st ++ .lst es :: j, ?_, Le.app _ _, ⟨_, _, _, _, rfl, by omega, by omega, by omega, by rw [show 1 + (n : Int) + s = 1 + s + n by omega]; exact k1⟩, by omega⟩
    simp -implicitDefEqProofs +decide only [varF_ap, cF_ap, opF_ap, opK_ap, bF_ap, boolK_ap, andT_ap, andK_ap, orT_ap, orK_ap, notT_ap, notK_ap, yesT_ap, andV_ap, andVK_ap, orV_ap, orVK_ap, notV_ap, notVK_ap, ifF_ap, ifFK_ap, nilA_ap, consA_ap, consK_ap, consJ_ap, tupA_ap, lstA_ap, newO_ap, dicF_ap, callF_ap, un1_ap, methF_ap, nonO_ap, someO_ap, someK_ap, slF_ap, slK_ap, slJ_ap, itF_ap, itA_ap, nilS_ap, bkS_ap, ctS_ap, seqS_ap, seqK_nx, seqK_rt, seqK_bk, seqK_ct, dropS_ap, dropK_ap, retS_ap, retK_ap, retN_ap, ifS_ap, ifK_ap, setS_ap, setK_ap, asgS_ap, asgK_ap, asgJ_ap, nameG_ap, nilG_ap, consG_ap, consGK_ap, fnF_ap, fnK_nx, fnK_rt, forS_ap, forK_ap, negD_ap, addI_ap, varK_ap, startE, yes2, isN, List.map_cons, List.map_nil, List.length_cons, List.length_nil, List.replicate, List.append_nil, List.cons_append, List.nil_append, List.getElem?_cons_zero, List.getElem?_cons_succ, List.set_cons_zero, List.set_cons_succ, R.bind_ok, R.bind_ex, R.bind_bad, R.noex_ok, if_true, if_false, Bool.false_eq_true, Bool.true_eq_false, ite_true, ite_false, reduceIte, Nat.reduceAdd, Nat.reduceSub, Nat.zero_add, Nat.sub_self, Nat.sub_zero, decide_true, decide_false, Bool.not_true, Bool.not_false, subD_ap, ltD_ap, leD_ap, gtD_ap, geD_ap, mulD_ap, modD_ap, divD_ap, powD_ap, tupK_ok, lstK_ok, methK_ok, tupG_ok, eqS_t, eqS_f, neS_t, neS_f, eqI_ap, neI_ap, inT_nil, inT_hit, inT_miss, ne_eq, not_false_eq_true, f__law_fitted, b__law_fitted, jx0, jx1, jx2, jx3, jx4, ne, q0, tp, m4, sz (by decide : 3 ≤ 100), sz (by decide : 5 ≤ 100)]
theorem once_ok {st : Sto} (ha : En N x da a) : ∃ e, f__law_once [a] st = .ok e st ∧ En N x (1 + da) e := by
  obtain ⟨v, s, g, q, rfl, hq, hx1, hx2, h5⟩ := ha
  exact ⟨.tup [.tup [.str "once", v], .int x, .int (1 + s), .int (24 + g), .int (1 + q)], by simp -implicitDefEqProofs +decide only [varF_ap, cF_ap, opF_ap, opK_ap, bF_ap, boolK_ap, andT_ap, andK_ap, orT_ap, orK_ap, notT_ap, notK_ap, yesT_ap, andV_ap, andVK_ap, orV_ap, orVK_ap, notV_ap, notVK_ap, ifF_ap, ifFK_ap, nilA_ap, consA_ap, consK_ap, consJ_ap, tupA_ap, lstA_ap, newO_ap, dicF_ap, callF_ap, un1_ap, methF_ap, nonO_ap, someO_ap, someK_ap, slF_ap, slK_ap, slJ_ap, itF_ap, itA_ap, nilS_ap, bkS_ap, ctS_ap, seqS_ap, seqK_nx, seqK_rt, seqK_bk, seqK_ct, dropS_ap, dropK_ap, retS_ap, retK_ap, retN_ap, ifS_ap, ifK_ap, setS_ap, setK_ap, asgS_ap, asgK_ap, asgJ_ap, nameG_ap, nilG_ap, consG_ap, consGK_ap, fnF_ap, fnK_nx, fnK_rt, forS_ap, forK_ap, negD_ap, addI_ap, varK_ap, startE, yes2, isN, List.map_cons, List.map_nil, List.length_cons, List.length_nil, List.replicate, List.append_nil, List.cons_append, List.nil_append, List.getElem?_cons_zero, List.getElem?_cons_succ, List.set_cons_zero, List.set_cons_succ, R.bind_ok, R.bind_ex, R.bind_bad, R.noex_ok, if_true, if_false, Bool.false_eq_true, Bool.true_eq_false, ite_true, ite_false, reduceIte, Nat.reduceAdd, Nat.reduceSub, Nat.zero_add, Nat.sub_self, Nat.sub_zero, decide_true, decide_false, Bool.not_true, Bool.not_false, subD_ap, ltD_ap, leD_ap, gtD_ap, geD_ap, mulD_ap, modD_ap, divD_ap, powD_ap, tupK_ok, lstK_ok, methK_ok, tupG_ok, eqS_t, eqS_f, neS_t, neS_f, eqI_ap, neI_ap, inT_nil, inT_hit, inT_miss, ne_eq, not_false_eq_true, f__law_once, b__law_once, jx0, jx1, jx2, jx3, jx4, sz (by decide : 2 ≤ 100), sz (by decide : 5 ≤ 100)], _, _, _, _, rfl, by omega, hx1, hx2, .once h5⟩
theorem two_ok {w : Str} {n : Int} {st : Sto} (hw : w ∈ seven) (ha : En N x da a) (hb : En N y db b) : ∃ z dz e S, f__law_two [.int n, .str w, a, b] st = .ok e S ∧ Le st S ∧ En N z dz e ∧ 1 ≤ dz ∧ (w ∈ (["pour", "both", "either", "less", "notin"] : List Str) → z = x) := by
  by_cases h4 : w ∈ four
  · obtain ⟨v, s, g, q, rfl, hq, hx1, hx2, h5⟩ := ha
    obtain ⟨b', db', S, f1, l1, hb'⟩ := fitted_ok (st := st) hb hx1 hx2
    obtain ⟨u, t, i, r, rfl, hr, _, _, k5⟩ := hb'.1
    have m8 := mul_l (a := 8) (by decide) 0
    refine ⟨x, 1 + max da db', .tup [.tup [.str w, v, u], .int x, .int (1 + 0 + s + t), .int (24 + 8 * 0 + g + i), .int (1 + max q r)], S, ?_, l1, ⟨_, _, _, _, rfl, by omega, hx1, hx2, by rw [show (1 : Int) + 0 + s + t = 1 + s + t by omega]; exact .same h4 h5 k5⟩, by omega, fun _ => rfl⟩
    simp only [four, List.mem_cons, List.not_mem_nil, or_false] at h4
    rcases h4 with rfl | rfl | rfl | rfl <;> simp -implicitDefEqProofs +decide only [varF_ap, cF_ap, opF_ap, opK_ap, bF_ap, boolK_ap, andT_ap, andK_ap, orT_ap, orK_ap, notT_ap, notK_ap, yesT_ap, andV_ap, andVK_ap, orV_ap, orVK_ap, notV_ap, notVK_ap, ifF_ap, ifFK_ap, nilA_ap, consA_ap, consK_ap, consJ_ap, tupA_ap, lstA_ap, newO_ap, dicF_ap, callF_ap, un1_ap, methF_ap, nonO_ap, someO_ap, someK_ap, slF_ap, slK_ap, slJ_ap, itF_ap, itA_ap, nilS_ap, bkS_ap, ctS_ap, seqS_ap, seqK_nx, seqK_rt, seqK_bk, seqK_ct, dropS_ap, dropK_ap, retS_ap, retK_ap, retN_ap, ifS_ap, ifK_ap, setS_ap, setK_ap, asgS_ap, asgK_ap, asgJ_ap, nameG_ap, nilG_ap, consG_ap, consGK_ap, fnF_ap, fnK_nx, fnK_rt, forS_ap, forK_ap, negD_ap, addI_ap, varK_ap, startE, yes2, isN, List.map_cons, List.map_nil, List.length_cons, List.length_nil, List.replicate, List.append_nil, List.cons_append, List.nil_append, List.getElem?_cons_zero, List.getElem?_cons_succ, List.set_cons_zero, List.set_cons_succ, R.bind_ok, R.bind_ex, R.bind_bad, R.noex_ok, if_true, if_false, Bool.false_eq_true, Bool.true_eq_false, ite_true, ite_false, reduceIte, Nat.reduceAdd, Nat.reduceSub, Nat.zero_add, Nat.sub_self, Nat.sub_zero, decide_true, decide_false, Bool.not_true, Bool.not_false, subD_ap, ltD_ap, leD_ap, gtD_ap, geD_ap, mulD_ap, modD_ap, divD_ap, powD_ap, tupK_ok, lstK_ok, methK_ok, tupG_ok, eqS_t, eqS_f, neS_t, neS_f, eqI_ap, neI_ap, inT_nil, inT_hit, inT_miss, ne_eq, not_false_eq_true, f__law_two, b__law_two, jx0, jx1, jx2, jx3, jx4, f1, m8, maxD_ok, sz (by decide : 4 ≤ 100), sz (by decide : 3 ≤ 100), sz (by decide : 5 ≤ 100)]
  · have h3 : w ∈ tri := by
      simp only [seven, four, tri, List.mem_cons, List.not_mem_nil, or_false] at *
      grind
    obtain ⟨v, s, g, q, rfl, hq, hx1, hx2, h5⟩ := ha
    obtain ⟨u, t, i, r, rfl, hr, hy1, hy2, k5⟩ := hb
    obtain ⟨m, hm⟩ : ∃ m : Nat, n % 13 = m := ⟨(n % 13).toNat, by omega⟩
    have hm2 : m ≤ 12 := by omega
    have v13 : (13 : Int).natAbs.log2 < 9000 := by decide +kernel
    have v17 : (17 : Int).natAbs.log2 < 9000 := by decide +kernel
    have d1 := digits_ok (n := n / 13) (top := x) (k := m) (st := st) (by omega) (l2w hx1 (by omega)) (by omega)
    have d2 := digits_ok (n := n / 17) (top := y) (k := m) (st := st ++ [.lst (digsD x m (n / 13))]) (by omega) (l2w hy1 (by omega)) (by omega)
    obtain ⟨S1, hS1⟩ : ∃ S, S = st ++ [VL.O.lst (digsD x m (n / 13))] := ⟨_, rfl⟩
    obtain ⟨S2, hS2⟩ : ∃ S, S = S1 ++ [VL.O.lst (digsD y m (n / 17))] := ⟨_, rfl⟩
    rw [← hS1] at d1 d2
    rw [← hS2] at d2
    obtain ⟨ps, hps⟩ : ∃ ps, ps = (digs x m (n / 13)).zip (digs y m (n / 17)) := ⟨_, rfl⟩
    have hl : ps.length = m := by rw [hps, List.length_zip, digs_len, digs_len, Nat.min_self]
    have pd : ((digsD x m (n / 13)).zip (digsD y m (n / 17))).map pairD = ps.map prD := by
      rw [hps, digsD, digsD, List.zip_map, List.map_map]; rfl
    have hp1 : ∀ p ∈ ps, p.1 < x := fun p hp => (digs_bd (by omega) _ _ _ (List.of_mem_zip (hps ▸ hp)).1).2
    have hp2 : ∀ p ∈ ps, p.2 < y := fun p hp => (digs_bd (by omega) _ _ _ (List.of_mem_zip (hps ▸ hp)).2).2
    have g1 : listAt S2 st.length = some (digsD x m (n / 13)) := by rw [hS2]; exact listAt_app (hS1 ▸ listAt_last)
    have g2 : listAt S2 S1.length = some (digsD y m (n / 17)) := by rw [hS2]; exact listAt_last
    have lz : ∀ w' : Str, lzF (consA (varF 7) (consA (callF f__law_digits (consA (opF divD (varF 0) (cF (.int 17))) (consA (varF 5) (consA (opF ixD (varF 3) (cF (.int 1))) nilA)))) nilA)) [some (.int n), some (.str w'), some (.tup [v, .int x, .int s, .int g, .int q]), some (.tup [u, .int y, .int t, .int i, .int r]), some (.int x), some (.int m), none, some (.ref st.length)] S1 = .ok (.ref S2.length) (S2 ++ [.lst (ps.map prD)]) := fun w' => by
      unfold lzF
      simp -implicitDefEqProofs +decide only [varF_ap, cF_ap, opF_ap, opK_ap, bF_ap, boolK_ap, andT_ap, andK_ap, orT_ap, orK_ap, notT_ap, notK_ap, yesT_ap, andV_ap, andVK_ap, orV_ap, orVK_ap, notV_ap, notVK_ap, ifF_ap, ifFK_ap, nilA_ap, consA_ap, consK_ap, consJ_ap, tupA_ap, lstA_ap, newO_ap, dicF_ap, callF_ap, un1_ap, methF_ap, nonO_ap, someO_ap, someK_ap, slF_ap, slK_ap, slJ_ap, itF_ap, itA_ap, nilS_ap, bkS_ap, ctS_ap, seqS_ap, seqK_nx, seqK_rt, seqK_bk, seqK_ct, dropS_ap, dropK_ap, retS_ap, retK_ap, retN_ap, ifS_ap, ifK_ap, setS_ap, setK_ap, asgS_ap, asgK_ap, asgJ_ap, nameG_ap, nilG_ap, consG_ap, consGK_ap, fnF_ap, fnK_nx, fnK_rt, forS_ap, forK_ap, negD_ap, addI_ap, varK_ap, startE, yes2, isN, List.map_cons, List.map_nil, List.length_cons, List.length_nil, List.replicate, List.append_nil, List.cons_append, List.nil_append, List.getElem?_cons_zero, List.getElem?_cons_succ, List.set_cons_zero, List.set_cons_succ, R.bind_ok, R.bind_ex, R.bind_bad, R.noex_ok, if_true, if_false, Bool.false_eq_true, Bool.true_eq_false, ite_true, ite_false, reduceIte, Nat.reduceAdd, Nat.reduceSub, Nat.zero_add, Nat.sub_self, Nat.sub_zero, decide_true, decide_false, Bool.not_true, Bool.not_false, subD_ap, ltD_ap, leD_ap, gtD_ap, geD_ap, mulD_ap, modD_ap, divD_ap, powD_ap, tupK_ok, lstK_ok, methK_ok, tupG_ok, eqS_t, eqS_f, neS_t, neS_f, eqI_ap, neI_ap, inT_nil, inT_hit, inT_miss, ne_eq, not_false_eq_true, jx1, v17, d2]
      simp only [g1, g2, pd]
      rw [if_pos (by rw [digsD_len, digsD_len, sizeLine_eq']; omega)]
    have tp : tupleD [.ref S2.length] (S2 ++ [.lst (ps.map prD)]) = .ok (.tup (ps.map prD)) (S2 ++ [.lst (ps.map prD)]) := tupleD_list listAt_last
    have L : Le st (S2 ++ [.lst (ps.map prD)]) := ((hS1 ▸ Le.app st _ : Le st S1).trans (hS2 ▸ Le.app S1 _)).trans (Le.app S2 _)
    have m8 := mul_l (a := 8) (by decide) (m : Int)
    have fin : ∀ w' : Str, w' ∈ tri → (w' ≠ "notin" → x + y ≤ 12) → En N (if w' = "notin" then x else x + y) (1 + max da db) (.tup [.tup [.str w', v, u, .tup (ps.map prD)], .int (if w' = "notin" then x else x + y), .int (1 + m + s + t), .int (24 + 8 * m + g + i), .int (1 + max q r)]) := fun w' hw' hxy => by
      have b1 : 1 ≤ (if w' = "notin" then x else x + y) := by split <;> omega
      have b2 : (if w' = "notin" then x else x + y) ≤ 12 := by
        split
        · omega
        · exact hxy ‹_›
      exact ⟨_, _, _, _, rfl, by omega, b1, b2, by rw [show (1 : Int) + m + s + t = 1 + s + t + ps.length by rw [hl]; omega]; exact .pairs hw' h5 k5 (by omega) hp1 hp2⟩
    by_cases ht : x + y > 12
    · have gt : decide (x + y > 12) = true := decide_eq_true ht
      refine ⟨x, _, _, _, ?_, L, fin "notin" (by decide) (fun h => absurd rfl h), by omega, fun _ => rfl⟩
      simp only [tri, List.mem_cons, List.not_mem_nil, or_false] at h3
      rcases h3 with rfl | rfl | rfl <;> simp -implicitDefEqProofs +decide only [varF_ap, cF_ap, opF_ap, opK_ap, bF_ap, boolK_ap, andT_ap, andK_ap, orT_ap, orK_ap, notT_ap, notK_ap, yesT_ap, andV_ap, andVK_ap, orV_ap, orVK_ap, notV_ap, notVK_ap, ifF_ap, ifFK_ap, nilA_ap, consA_ap, consK_ap, consJ_ap, tupA_ap, lstA_ap, newO_ap, dicF_ap, callF_ap, un1_ap, methF_ap, nonO_ap, someO_ap, someK_ap, slF_ap, slK_ap, slJ_ap, itF_ap, itA_ap, nilS_ap, bkS_ap, ctS_ap, seqS_ap, seqK_nx, seqK_rt, seqK_bk, seqK_ct, dropS_ap, dropK_ap, retS_ap, retK_ap, retN_ap, ifS_ap, ifK_ap, setS_ap, setK_ap, asgS_ap, asgK_ap, asgJ_ap, nameG_ap, nilG_ap, consG_ap, consGK_ap, fnF_ap, fnK_nx, fnK_rt, forS_ap, forK_ap, negD_ap, addI_ap, varK_ap, startE, yes2, isN, List.map_cons, List.map_nil, List.length_cons, List.length_nil, List.replicate, List.append_nil, List.cons_append, List.nil_append, List.getElem?_cons_zero, List.getElem?_cons_succ, List.set_cons_zero, List.set_cons_succ, R.bind_ok, R.bind_ex, R.bind_bad, R.noex_ok, if_true, if_false, Bool.false_eq_true, Bool.true_eq_false, ite_true, ite_false, reduceIte, Nat.reduceAdd, Nat.reduceSub, Nat.zero_add, Nat.sub_self, Nat.sub_zero, decide_true, decide_false, Bool.not_true, Bool.not_false, subD_ap, ltD_ap, leD_ap, gtD_ap, geD_ap, mulD_ap, modD_ap, divD_ap, powD_ap, tupK_ok, lstK_ok, methK_ok, tupG_ok, eqS_t, eqS_f, neS_t, neS_f, eqI_ap, neI_ap, inT_nil, inT_hit, inT_miss, ne_eq, not_false_eq_true, f__law_two, b__law_two, jx0, jx1, jx2, jx3, jx4, gt, hm, v13, d1, lz, tp, m8, maxD_ok, sz (by decide : 4 ≤ 100), sz (by decide : 3 ≤ 100), sz (by decide : 5 ≤ 100)]
    · have gt : decide (x + y > 12) = false := decide_eq_false ht
      refine ⟨_, _, _, _, ?_, L, fin w h3 (fun _ => by omega), by omega, fun h => if_pos (by
        simp only [four, tri, List.mem_cons, List.not_mem_nil, or_false] at *
        grind)⟩
      simp only [tri, List.mem_cons, List.not_mem_nil, or_false] at h3
      rcases h3 with rfl | rfl | rfl <;> simp -implicitDefEqProofs +decide only [varF_ap, cF_ap, opF_ap, opK_ap, bF_ap, boolK_ap, andT_ap, andK_ap, orT_ap, orK_ap, notT_ap, notK_ap, yesT_ap, andV_ap, andVK_ap, orV_ap, orVK_ap, notV_ap, notVK_ap, ifF_ap, ifFK_ap, nilA_ap, consA_ap, consK_ap, consJ_ap, tupA_ap, lstA_ap, newO_ap, dicF_ap, callF_ap, un1_ap, methF_ap, nonO_ap, someO_ap, someK_ap, slF_ap, slK_ap, slJ_ap, itF_ap, itA_ap, nilS_ap, bkS_ap, ctS_ap, seqS_ap, seqK_nx, seqK_rt, seqK_bk, seqK_ct, dropS_ap, dropK_ap, retS_ap, retK_ap, retN_ap, ifS_ap, ifK_ap, setS_ap, setK_ap, asgS_ap, asgK_ap, asgJ_ap, nameG_ap, nilG_ap, consG_ap, consGK_ap, fnF_ap, fnK_nx, fnK_rt, forS_ap, forK_ap, negD_ap, addI_ap, varK_ap, startE, yes2, isN, List.map_cons, List.map_nil, List.length_cons, List.length_nil, List.replicate, List.append_nil, List.cons_append, List.nil_append, List.getElem?_cons_zero, List.getElem?_cons_succ, List.set_cons_zero, List.set_cons_succ, R.bind_ok, R.bind_ex, R.bind_bad, R.noex_ok, if_true, if_false, Bool.false_eq_true, Bool.true_eq_false, ite_true, ite_false, reduceIte, Nat.reduceAdd, Nat.reduceSub, Nat.zero_add, Nat.sub_self, Nat.sub_zero, decide_true, decide_false, Bool.not_true, Bool.not_false, subD_ap, ltD_ap, leD_ap, gtD_ap, geD_ap, mulD_ap, modD_ap, divD_ap, powD_ap, tupK_ok, lstK_ok, methK_ok, tupG_ok, eqS_t, eqS_f, neS_t, neS_f, eqI_ap, neI_ap, inT_nil, inT_hit, inT_miss, ne_eq, not_false_eq_true, f__law_two, b__law_two, jx0, jx1, jx2, jx3, jx4, gt, hm, v13, d1, lz, tp, m8, maxD_ok, sz (by decide : 4 ≤ 100), sz (by decide : 3 ≤ 100), sz (by decide : 5 ≤ 100)]
/-- what grouped and the others of one give: view, width, more -/
def Tri (N : NmP) (s : Int) (da : Nat) (e : VL.D) : Prop := ∃ v w m, e = .tup [v, .int w, .int m] ∧ 1 ≤ w ∧ w ≤ 12 ∧ Vw N v w (1 + s + m) (1 + da)
theorem grouped_ok {w : Str} {n : Int} {v : VL.D} {s g q : Int} {st : Sto} (hw : w = "count" ∨ w = "first" ∨ w ∈ sums) (hx1 : 1 ≤ x) (hx2 : x ≤ 12) (h5 : Vw N v x s da) :
    ∃ e S, f__law_grouped [.int n, .str w, .tup [v, .int x, .int s, .int g, .int q]] st = .ok e S ∧ Le st S ∧ Tri N s da e := by
  obtain ⟨m, hm⟩ : ∃ m : Nat, n % 12 = m := ⟨(n % 12).toNat, by omega⟩
  have hm2 : m ≤ 11 := by omega
  have v12 : (12 : Int).natAbs.log2 < 9000 := by decide +kernel
  have v144 : (144 : Int).natAbs.log2 < 9000 := by decide +kernel
  have hw0 := l2w hx1 (by omega)
  have h0 : 0 < x := by omega
  have d1 := digits_ok (n := n / 144) (top := x) (k := m) (st := st) h0 hw0 (by omega)
  obtain ⟨ds, hds⟩ : ∃ ds, ds = digs x m (n / 144) := ⟨_, rfl⟩
  have hl : ds.length = m := by rw [hds, digs_len]
  have hb : ∀ p ∈ ds, p < x := fun p hp => (digs_bd h0 _ _ _ (hds ▸ hp)).2
  have hD : digsD x m (n / 144) = ds.map .int := by rw [hds]; rfl
  rw [hD] at d1
  have tp : tupleD [.ref st.length] (st ++ [.lst (ds.map .int)]) = .ok (.tup (ds.map .int)) (st ++ [.lst (ds.map .int)]) := tupleD_list listAt_last
  have hlm : (ds.map VL.D.int).length = m := by rw [List.length_map, hl]
  rcases hw with rfl | rfl | hw
  · refine ⟨.tup [.tup [.str "count", v, .tup (ds.map .int)], .int (m + 1), .int m], st ++ [.lst (ds.map .int)], ?_, Le.app _ _, _, _, _, rfl, by omega, by omega, by rw [← hl]; exact .count h5 hb (by omega)⟩
    simp -implicitDefEqProofs +decide only [varF_ap, cF_ap, opF_ap, opK_ap, bF_ap, boolK_ap, andT_ap, andK_ap, orT_ap, orK_ap, notT_ap, notK_ap, yesT_ap, andV_ap, andVK_ap, orV_ap, orVK_ap, notV_ap, notVK_ap, ifF_ap, ifFK_ap, nilA_ap, consA_ap, consK_ap, consJ_ap, tupA_ap, lstA_ap, newO_ap, dicF_ap, callF_ap, un1_ap, methF_ap, nonO_ap, someO_ap, someK_ap, slF_ap, slK_ap, slJ_ap, itF_ap, itA_ap, nilS_ap, bkS_ap, ctS_ap, seqS_ap, seqK_nx, seqK_rt, seqK_bk, seqK_ct, dropS_ap, dropK_ap, retS_ap, retK_ap, retN_ap, ifS_ap, ifK_ap, setS_ap, setK_ap, asgS_ap, asgK_ap, asgJ_ap, nameG_ap, nilG_ap, consG_ap, consGK_ap, fnF_ap, fnK_nx, fnK_rt, forS_ap, forK_ap, negD_ap, addI_ap, varK_ap, startE, yes2, isN, List.map_cons, List.map_nil, List.length_cons, List.length_nil, List.replicate, List.append_nil, List.cons_append, List.nil_append, List.getElem?_cons_zero, List.getElem?_cons_succ, List.set_cons_zero, List.set_cons_succ, R.bind_ok, R.bind_ex, R.bind_bad, R.noex_ok, if_true, if_false, Bool.false_eq_true, Bool.true_eq_false, ite_true, ite_false, reduceIte, Nat.reduceAdd, Nat.reduceSub, Nat.zero_add, Nat.sub_self, Nat.sub_zero, decide_true, decide_false, Bool.not_true, Bool.not_false, subD_ap, ltD_ap, leD_ap, gtD_ap, geD_ap, mulD_ap, modD_ap, divD_ap, powD_ap, tupK_ok, lstK_ok, methK_ok, tupG_ok, eqS_t, eqS_f, neS_t, neS_f, eqI_ap, neI_ap, inT_nil, inT_hit, inT_miss, ne_eq, not_false_eq_true, f__law_grouped, b__law_grouped, jx0, jx1, hm, v12, v144, d1, tp, lenD_tup, hlm, sz (by decide : 3 ≤ 100)]
  · obtain ⟨j, e1⟩ := lcF_all (st := st ++ [.lst (ds.map .int)]) (s := st ++ [.lst (ds.map .int)]) (c := []) (ds := (ds.map VL.D.int).reverse) (it := itF (un1 backD (varF 4))) (vs := [6]) (gf := nameG 6) (te := tupA (consA (varF 6) (consA (opF eqD (opF modD (opF addD (varF 6) (opF divD (varF 0) (cF (.int 12)))) (cF (.int 2))) (cF (.int 0))) nilA))) (env := [some (.int n), some (.str "first"), some (.tup [v, .int x, .int s, .int g, .int q]), some (.int x), some (.tup (ds.map .int)), none, none])
      (fun d => match d with | .int k => orD (k, decide ((k + n / 12) % 2 = 0)) | _ => .non) (by simp -implicitDefEqProofs only [varF_ap, cF_ap, opF_ap, opK_ap, bF_ap, boolK_ap, andT_ap, andK_ap, orT_ap, orK_ap, notT_ap, notK_ap, yesT_ap, andV_ap, andVK_ap, orV_ap, orVK_ap, notV_ap, notVK_ap, ifF_ap, ifFK_ap, nilA_ap, consA_ap, consK_ap, consJ_ap, tupA_ap, tupK_ap, lstA_ap, lstK_ap, newO_ap, dicF_ap, callF_ap, un1_ap, methF_ap, methK_ap, nonO_ap, someO_ap, someK_ap, slF_ap, slK_ap, slJ_ap, itF_ap, itA_ap, nilS_ap, bkS_ap, ctS_ap, seqS_ap, seqK_nx, seqK_rt, seqK_bk, seqK_ct, dropS_ap, dropK_ap, retS_ap, retK_ap, retN_ap, ifS_ap, ifK_ap, setS_ap, setK_ap, asgS_ap, asgK_ap, asgJ_ap, nameG_ap, nilG_ap, consG_ap, consGK_ap, tupG_ap, fnF_ap, fnK_nx, fnK_rt, forS_ap, forK_ap, intD_ap, negD_ap, addI_ap, varK_ap, startE, yes2, isN, List.map_cons, List.map_nil, List.length_cons, List.length_nil, List.replicate, List.append_nil, List.cons_append, List.nil_append, List.getElem?_cons_zero, List.getElem?_cons_succ, List.set_cons_zero, List.set_cons_succ, R.bind_ok, R.bind_ex, R.bind_bad, R.noex_ok, if_true, if_false, Bool.false_eq_true, Bool.true_eq_false, ite_true, ite_false, reduceIte, Nat.reduceAdd, Nat.reduceSub, Nat.zero_add, Nat.sub_self, Nat.sub_zero, decide_true, decide_false, Bool.not_true, Bool.not_false, backD, itD_tup]) chk_nil (by rw [List.length_reverse, List.length_map, sizeLine_eq']; omega) fun d hd S hS => by
        rw [← List.map_reverse] at hd
        obtain ⟨k, hk, rfl⟩ := List.mem_map.mp hd
        exact ⟨_, [], rfl, by rw [List.append_nil]; simp -implicitDefEqProofs +decide only [varF_ap, cF_ap, opF_ap, opK_ap, bF_ap, boolK_ap, andT_ap, andK_ap, orT_ap, orK_ap, notT_ap, notK_ap, yesT_ap, andV_ap, andVK_ap, orV_ap, orVK_ap, notV_ap, notVK_ap, ifF_ap, ifFK_ap, nilA_ap, consA_ap, consK_ap, consJ_ap, tupA_ap, lstA_ap, newO_ap, dicF_ap, callF_ap, un1_ap, methF_ap, nonO_ap, someO_ap, someK_ap, slF_ap, slK_ap, slJ_ap, itF_ap, itA_ap, nilS_ap, bkS_ap, ctS_ap, seqS_ap, seqK_nx, seqK_rt, seqK_bk, seqK_ct, dropS_ap, dropK_ap, retS_ap, retK_ap, retN_ap, ifS_ap, ifK_ap, setS_ap, setK_ap, asgS_ap, asgK_ap, asgJ_ap, nameG_ap, nilG_ap, consG_ap, consGK_ap, fnF_ap, fnK_nx, fnK_rt, forS_ap, forK_ap, negD_ap, addI_ap, varK_ap, startE, yes2, isN, List.map_cons, List.map_nil, List.length_cons, List.length_nil, List.replicate, List.append_nil, List.cons_append, List.nil_append, List.getElem?_cons_zero, List.getElem?_cons_succ, List.set_cons_zero, List.set_cons_succ, R.bind_ok, R.bind_ex, R.bind_bad, R.noex_ok, if_true, if_false, Bool.false_eq_true, Bool.true_eq_false, ite_true, ite_false, reduceIte, Nat.reduceAdd, Nat.reduceSub, Nat.zero_add, Nat.sub_self, Nat.sub_zero, decide_true, decide_false, Bool.not_true, Bool.not_false, subD_ap, ltD_ap, leD_ap, gtD_ap, geD_ap, mulD_ap, modD_ap, divD_ap, powD_ap, tupK_ok, lstK_ok, methK_ok, tupG_ok, eqS_t, eqS_f, neS_t, neS_f, eqI_ap, neI_ap, inT_nil, inT_hit, inT_miss, ne_eq, not_false_eq_true, wipeE, v12, orD, sz (by decide : 2 ≤ 100)]⟩
    have m1 : (ds.map VL.D.int).reverse.map (fun d => match d with | .int k => orD (k, decide ((k + n / 12) % 2 = 0)) | _ => VL.D.non) = (ds.reverse.map fun k => (k, decide ((k + n / 12) % 2 = 0))).map orD := by
      rw [← List.map_reverse, List.map_map, List.map_map]; rfl
    rw [m1] at e1
    obtain ⟨k, hk⟩ : ∃ k : Nat, n / 12 % 13 = k := ⟨(n / 12 % 13).toNat, by omega⟩
    obtain ⟨os, hos⟩ : ∃ os, os = (ds.reverse.map fun k => (k, decide ((k + n / 12) % 2 = 0))).take k := ⟨_, rfl⟩
    obtain ⟨S1, hS1⟩ : ∃ S, S = (st ++ [.lst (ds.map .int)]) ++ .lst ((ds.reverse.map fun k => (k, decide ((k + n / 12) % 2 = 0))).map orD) :: j := ⟨_, rfl⟩
    rw [← hS1] at e1
    have q0 : q0__law_grouped [some (.int n), some (.str "first"), some (.tup [v, .int x, .int s, .int g, .int q]), some (.int x), some (.tup (ds.map .int)), none, none] (st ++ [.lst (ds.map .int)]) = _ := e1
    have sl : slD (.ref (st ++ [VL.O.lst (ds.map .int)]).length) none (some (k : Int)) S1 = .ok (.ref S1.length) (S1 ++ [.lst (os.map orD)]) := by
      rw [slD_list (hS1 ▸ listAt_at), cutD_to, hos, List.map_take]
    have tp2 : tupleD [.ref S1.length] (S1 ++ [.lst (os.map orD)]) = .ok (.tup (os.map orD)) (S1 ++ [.lst (os.map orD)]) := tupleD_list listAt_last
    have ho : ∀ p ∈ os, p.1 < x := fun p hp => by
      rw [hos] at hp
      obtain ⟨c, hc, rfl⟩ := List.mem_map.mp (List.mem_of_mem_take hp)
      exact hb c (List.mem_reverse.mp hc)
    have hlo : os.length ≤ 12 := by rw [hos, List.length_take, List.length_map, List.length_reverse]; omega
    refine ⟨.tup [.tup [.str "first", v, .int (n / 12 % 61), .tup (ds.map .int), .tup (os.map orD)], .int x, .int (m + os.length)], S1 ++ [.lst (os.map orD)], ?_, (Le.app st [.lst (ds.map .int)]).trans ((hS1 ▸ Le.app _ _ : Le (st ++ [VL.O.lst (ds.map .int)]) S1).trans (Le.app _ _)), _, _, _, rfl, hx1, hx2, ?_⟩
    · simp -implicitDefEqProofs +decide only [varF_ap, cF_ap, opF_ap, opK_ap, bF_ap, boolK_ap, andT_ap, andK_ap, orT_ap, orK_ap, notT_ap, notK_ap, yesT_ap, andV_ap, andVK_ap, orV_ap, orVK_ap, notV_ap, notVK_ap, ifF_ap, ifFK_ap, nilA_ap, consA_ap, consK_ap, consJ_ap, tupA_ap, lstA_ap, newO_ap, dicF_ap, callF_ap, un1_ap, methF_ap, nonO_ap, someO_ap, someK_ap, slF_ap, slK_ap, slJ_ap, itF_ap, itA_ap, nilS_ap, bkS_ap, ctS_ap, seqS_ap, seqK_nx, seqK_rt, seqK_bk, seqK_ct, dropS_ap, dropK_ap, retS_ap, retK_ap, retN_ap, ifS_ap, ifK_ap, setS_ap, setK_ap, asgS_ap, asgK_ap, asgJ_ap, nameG_ap, nilG_ap, consG_ap, consGK_ap, fnF_ap, fnK_nx, fnK_rt, forS_ap, forK_ap, negD_ap, addI_ap, varK_ap, startE, yes2, isN, List.map_cons, List.map_nil, List.length_cons, List.length_nil, List.replicate, List.append_nil, List.cons_append, List.nil_append, List.getElem?_cons_zero, List.getElem?_cons_succ, List.set_cons_zero, List.set_cons_succ, R.bind_ok, R.bind_ex, R.bind_bad, R.noex_ok, if_true, if_false, Bool.false_eq_true, Bool.true_eq_false, ite_true, ite_false, reduceIte, Nat.reduceAdd, Nat.reduceSub, Nat.zero_add, Nat.sub_self, Nat.sub_zero, decide_true, decide_false, Bool.not_true, Bool.not_false, subD_ap, ltD_ap, leD_ap, gtD_ap, geD_ap, mulD_ap, modD_ap, divD_ap, powD_ap, tupK_ok, lstK_ok, methK_ok, tupG_ok, eqS_t, eqS_f, neS_t, neS_f, eqI_ap, neI_ap, inT_nil, inT_hit, inT_miss, ne_eq, not_false_eq_true, f__law_grouped, b__law_grouped, jx0, jx1, hm, hk, v12, v144, d1, tp, q0, sl, tp2, lenD_tup, hlm, List.length_map, sz (by decide : 3 ≤ 100), sz (by decide : 5 ≤ 100)]
    · have := Vw.first (k := n / 12 % 61) h5 hb ho (by omega) hlo
      rw [hl] at this
      rw [show 1 + s + ((m : Int) + os.length) = 1 + s + m + os.length by omega]
      exact this
  · refine ⟨.tup [.tup [.str w, v, .int (n / 12 % x), .tup (ds.map .int)], .int (m + 1), .int m], st ++ [.lst (ds.map .int)], ?_, Le.app _ _, _, _, _, rfl, by omega, by omega, by rw [← hl]; exact .sums hw h5 hb (Int.emod_lt_of_pos _ h0) (by omega)⟩
    simp only [sums, List.mem_cons, List.not_mem_nil, or_false] at hw
    rcases hw with rfl | rfl | rfl <;> simp -implicitDefEqProofs +decide only [varF_ap, cF_ap, opF_ap, opK_ap, bF_ap, boolK_ap, andT_ap, andK_ap, orT_ap, orK_ap, notT_ap, notK_ap, yesT_ap, andV_ap, andVK_ap, orV_ap, orVK_ap, notV_ap, notVK_ap, ifF_ap, ifFK_ap, nilA_ap, consA_ap, consK_ap, consJ_ap, tupA_ap, lstA_ap, newO_ap, dicF_ap, callF_ap, un1_ap, methF_ap, nonO_ap, someO_ap, someK_ap, slF_ap, slK_ap, slJ_ap, itF_ap, itA_ap, nilS_ap, bkS_ap, ctS_ap, seqS_ap, seqK_nx, seqK_rt, seqK_bk, seqK_ct, dropS_ap, dropK_ap, retS_ap, retK_ap, retN_ap, ifS_ap, ifK_ap, setS_ap, setK_ap, asgS_ap, asgK_ap, asgJ_ap, nameG_ap, nilG_ap, consG_ap, consGK_ap, fnF_ap, fnK_nx, fnK_rt, forS_ap, forK_ap, negD_ap, addI_ap, varK_ap, startE, yes2, isN, List.map_cons, List.map_nil, List.length_cons, List.length_nil, List.replicate, List.append_nil, List.cons_append, List.nil_append, List.getElem?_cons_zero, List.getElem?_cons_succ, List.set_cons_zero, List.set_cons_succ, R.bind_ok, R.bind_ex, R.bind_bad, R.noex_ok, if_true, if_false, Bool.false_eq_true, Bool.true_eq_false, ite_true, ite_false, reduceIte, Nat.reduceAdd, Nat.reduceSub, Nat.zero_add, Nat.sub_self, Nat.sub_zero, decide_true, decide_false, Bool.not_true, Bool.not_false, subD_ap, ltD_ap, leD_ap, gtD_ap, geD_ap, mulD_ap, modD_ap, divD_ap, powD_ap, tupK_ok, lstK_ok, methK_ok, tupG_ok, eqS_t, eqS_f, neS_t, neS_f, eqI_ap, neI_ap, inT_nil, inT_hit, inT_miss, ne_eq, not_false_eq_true, f__law_grouped, b__law_grouped, jx0, jx1, hm, v12, v144, hw0, h0, d1, tp, lenD_tup, hlm, sz (by decide : 3 ≤ 100), sz (by decide : 4 ≤ 100)]
theorem one_ok {w : Str} {n : Int} {st : Sto} (hw : w ∈ eight) (ha : En N x da a) : ∃ z dz e S, f__law_one [.int n, .str w, a] st = .ok e S ∧ Le st S ∧ En N z dz e := by
  obtain ⟨v, s, g, q, rfl, hq, hx1, hx2, h5⟩ := ha
  have gr : w = "count" ∨ w = "first" ∨ w ∈ sums → w ≠ "sieve" → w ≠ "once" → w ≠ "cols" → ∃ z dz e S, f__law_one [.int n, .str w, .tup [v, .int x, .int s, .int g, .int q]] st = .ok e S ∧ Le st S ∧ En N z dz e := fun h n1 n2 n3 => by
    obtain ⟨e, S, h1, l1, u, z, m, rfl, hz1, hz2, k5⟩ := grouped_ok (n := n) (g := g) (q := q) (st := st) h hx1 hx2 h5
    have m4 := mul_l (a := 4) (by decide) m
    refine ⟨z, 1 + da, .tup [u, .int z, .int (1 + m + s), .int (24 + 4 * m + g), .int (1 + q)], S, ?_, l1, _, _, _, _, rfl, by omega, hz1, hz2, by rw [show 1 + m + s = 1 + s + m by omega]; exact k5⟩
    simp -implicitDefEqProofs +decide only [varF_ap, cF_ap, opF_ap, opK_ap, bF_ap, boolK_ap, andT_ap, andK_ap, orT_ap, orK_ap, notT_ap, notK_ap, yesT_ap, andV_ap, andVK_ap, orV_ap, orVK_ap, notV_ap, notVK_ap, ifF_ap, ifFK_ap, nilA_ap, consA_ap, consK_ap, consJ_ap, tupA_ap, lstA_ap, newO_ap, dicF_ap, callF_ap, un1_ap, methF_ap, nonO_ap, someO_ap, someK_ap, slF_ap, slK_ap, slJ_ap, itF_ap, itA_ap, nilS_ap, bkS_ap, ctS_ap, seqS_ap, seqK_nx, seqK_rt, seqK_bk, seqK_ct, dropS_ap, dropK_ap, retS_ap, retK_ap, retN_ap, ifS_ap, ifK_ap, setS_ap, setK_ap, asgS_ap, asgK_ap, asgJ_ap, nameG_ap, nilG_ap, consG_ap, consGK_ap, fnF_ap, fnK_nx, fnK_rt, forS_ap, forK_ap, negD_ap, addI_ap, varK_ap, startE, yes2, isN, List.map_cons, List.map_nil, List.length_cons, List.length_nil, List.replicate, List.append_nil, List.cons_append, List.nil_append, List.getElem?_cons_zero, List.getElem?_cons_succ, List.set_cons_zero, List.set_cons_succ, R.bind_ok, R.bind_ex, R.bind_bad, R.noex_ok, if_true, if_false, Bool.false_eq_true, Bool.true_eq_false, ite_true, ite_false, reduceIte, Nat.reduceAdd, Nat.reduceSub, Nat.zero_add, Nat.sub_self, Nat.sub_zero, decide_true, decide_false, Bool.not_true, Bool.not_false, subD_ap, ltD_ap, leD_ap, gtD_ap, geD_ap, mulD_ap, modD_ap, divD_ap, powD_ap, tupK_ok, lstK_ok, methK_ok, tupG_ok, eqS_t, eqS_f, neS_t, neS_f, eqI_ap, neI_ap, inT_nil, inT_hit, inT_miss, ne_eq, not_false_eq_true, f__law_one, b__law_one, jx0, jx1, jx2, jx3, jx4, n1, n2, n3, h1, m4, sz (by decide : 5 ≤ 100)]
  simp only [eight, List.mem_cons, List.not_mem_nil, or_false] at hw
  rcases hw with rfl | rfl | rfl | rfl | rfl | rfl | rfl | rfl
  · obtain ⟨e, h1, hE⟩ := asked_ok (n := n) hx1 hx2
    refine ⟨x, 1 + da, .tup [.tup [.str "sieve", v, e], .int x, .int (1 + tsz e + s), .int (84 + g), .int (1 + q)], st, ?_, Le.refl _, _, _, _, _, rfl, by omega, hx1, hx2, by rw [show 1 + tsz e + s = 1 + s + tsz e by omega]; exact .sieve h5 hE⟩
    simp -implicitDefEqProofs +decide only [varF_ap, cF_ap, opF_ap, opK_ap, bF_ap, boolK_ap, andT_ap, andK_ap, orT_ap, orK_ap, notT_ap, notK_ap, yesT_ap, andV_ap, andVK_ap, orV_ap, orVK_ap, notV_ap, notVK_ap, ifF_ap, ifFK_ap, nilA_ap, consA_ap, consK_ap, consJ_ap, tupA_ap, lstA_ap, newO_ap, dicF_ap, callF_ap, un1_ap, methF_ap, nonO_ap, someO_ap, someK_ap, slF_ap, slK_ap, slJ_ap, itF_ap, itA_ap, nilS_ap, bkS_ap, ctS_ap, seqS_ap, seqK_nx, seqK_rt, seqK_bk, seqK_ct, dropS_ap, dropK_ap, retS_ap, retK_ap, retN_ap, ifS_ap, ifK_ap, setS_ap, setK_ap, asgS_ap, asgK_ap, asgJ_ap, nameG_ap, nilG_ap, consG_ap, consGK_ap, fnF_ap, fnK_nx, fnK_rt, forS_ap, forK_ap, negD_ap, addI_ap, varK_ap, startE, yes2, isN, List.map_cons, List.map_nil, List.length_cons, List.length_nil, List.replicate, List.append_nil, List.cons_append, List.nil_append, List.getElem?_cons_zero, List.getElem?_cons_succ, List.set_cons_zero, List.set_cons_succ, R.bind_ok, R.bind_ex, R.bind_bad, R.noex_ok, if_true, if_false, Bool.false_eq_true, Bool.true_eq_false, ite_true, ite_false, reduceIte, Nat.reduceAdd, Nat.reduceSub, Nat.zero_add, Nat.sub_self, Nat.sub_zero, decide_true, decide_false, Bool.not_true, Bool.not_false, subD_ap, ltD_ap, leD_ap, gtD_ap, geD_ap, mulD_ap, modD_ap, divD_ap, powD_ap, tupK_ok, lstK_ok, methK_ok, tupG_ok, eqS_t, eqS_f, neS_t, neS_f, eqI_ap, neI_ap, inT_nil, inT_hit, inT_miss, ne_eq, not_false_eq_true, f__law_one, b__law_one, jx0, jx1, jx2, jx3, jx4, h1 st, sz (by decide : 3 ≤ 100), sz (by decide : 5 ≤ 100)]
  · refine ⟨x, 1 + da, .tup [.tup [.str "once", v], .int x, .int (1 + 0 + s), .int (24 + g), .int (1 + q)], st, ?_, Le.refl _, _, _, _, _, rfl, by omega, hx1, hx2, by rw [show (1 : Int) + 0 + s = 1 + s by omega]; exact .once h5⟩
    simp -implicitDefEqProofs +decide only [varF_ap, cF_ap, opF_ap, opK_ap, bF_ap, boolK_ap, andT_ap, andK_ap, orT_ap, orK_ap, notT_ap, notK_ap, yesT_ap, andV_ap, andVK_ap, orV_ap, orVK_ap, notV_ap, notVK_ap, ifF_ap, ifFK_ap, nilA_ap, consA_ap, consK_ap, consJ_ap, tupA_ap, lstA_ap, newO_ap, dicF_ap, callF_ap, un1_ap, methF_ap, nonO_ap, someO_ap, someK_ap, slF_ap, slK_ap, slJ_ap, itF_ap, itA_ap, nilS_ap, bkS_ap, ctS_ap, seqS_ap, seqK_nx, seqK_rt, seqK_bk, seqK_ct, dropS_ap, dropK_ap, retS_ap, retK_ap, retN_ap, ifS_ap, ifK_ap, setS_ap, setK_ap, asgS_ap, asgK_ap, asgJ_ap, nameG_ap, nilG_ap, consG_ap, consGK_ap, fnF_ap, fnK_nx, fnK_rt, forS_ap, forK_ap, negD_ap, addI_ap, varK_ap, startE, yes2, isN, List.map_cons, List.map_nil, List.length_cons, List.length_nil, List.replicate, List.append_nil, List.cons_append, List.nil_append, List.getElem?_cons_zero, List.getElem?_cons_succ, List.set_cons_zero, List.set_cons_succ, R.bind_ok, R.bind_ex, R.bind_bad, R.noex_ok, if_true, if_false, Bool.false_eq_true, Bool.true_eq_false, ite_true, ite_false, reduceIte, Nat.reduceAdd, Nat.reduceSub, Nat.zero_add, Nat.sub_self, Nat.sub_zero, decide_true, decide_false, Bool.not_true, Bool.not_false, subD_ap, ltD_ap, leD_ap, gtD_ap, geD_ap, mulD_ap, modD_ap, divD_ap, powD_ap, tupK_ok, lstK_ok, methK_ok, tupG_ok, eqS_t, eqS_f, neS_t, neS_f, eqI_ap, neI_ap, inT_nil, inT_hit, inT_miss, ne_eq, not_false_eq_true, f__law_one, b__law_one, jx0, jx1, jx2, jx3, jx4, sz (by decide : 2 ≤ 100), sz (by decide : 5 ≤ 100)]
  · obtain ⟨m, hm⟩ : ∃ m : Nat, 1 + n % 12 = m := ⟨(1 + n % 12).toNat, by omega⟩
    have hm1 : 1 ≤ m := by omega
    have hm2 : m ≤ 12 := by omega
    obtain ⟨l, hl, ⟨j, e1⟩, _⟩ := lcF_any (st := st) (s := st) (c := []) (ds := intsD 0 1 m) (it := itA rng1D (consA (opF addD (cF (.int 1)) (opF modD (varF 0) (cF (.int 12)))) nilA)) (vs := [9]) (gf := nameG 9) (te := callF f__law_term (consA (opF divD (varF 0) (opF addD (opF mulD (cF (.int 5)) (varF 9)) (cF (.int 1)))) (consA (varF 3) nilA))) (env := [some (.int n), some (.str "cols"), some (.tup [v, .int x, .int s, .int g, .int q]), some (.int x), some (.int 0), some (.int 24), none, none, none, none, none])
      (A := {e : VL.D // Ex x 4 e}) (fun e => .tup [e.1, .int (tsz e.1)]) (fun _ _ => True) (by simp -implicitDefEqProofs +decide only [varF_ap, cF_ap, opF_ap, opK_ap, bF_ap, boolK_ap, andT_ap, andK_ap, orT_ap, orK_ap, notT_ap, notK_ap, yesT_ap, andV_ap, andVK_ap, orV_ap, orVK_ap, notV_ap, notVK_ap, ifF_ap, ifFK_ap, nilA_ap, consA_ap, consK_ap, consJ_ap, tupA_ap, lstA_ap, newO_ap, dicF_ap, callF_ap, un1_ap, methF_ap, nonO_ap, someO_ap, someK_ap, slF_ap, slK_ap, slJ_ap, itF_ap, itA_ap, nilS_ap, bkS_ap, ctS_ap, seqS_ap, seqK_nx, seqK_rt, seqK_bk, seqK_ct, dropS_ap, dropK_ap, retS_ap, retK_ap, retN_ap, ifS_ap, ifK_ap, setS_ap, setK_ap, asgS_ap, asgK_ap, asgJ_ap, nameG_ap, nilG_ap, consG_ap, consGK_ap, fnF_ap, fnK_nx, fnK_rt, forS_ap, forK_ap, negD_ap, addI_ap, varK_ap, startE, yes2, isN, List.map_cons, List.map_nil, List.length_cons, List.length_nil, List.replicate, List.append_nil, List.cons_append, List.nil_append, List.getElem?_cons_zero, List.getElem?_cons_succ, List.set_cons_zero, List.set_cons_succ, R.bind_ok, R.bind_ex, R.bind_bad, R.noex_ok, if_true, if_false, Bool.false_eq_true, Bool.true_eq_false, ite_true, ite_false, reduceIte, Nat.reduceAdd, Nat.reduceSub, Nat.zero_add, Nat.sub_self, Nat.sub_zero, decide_true, decide_false, Bool.not_true, Bool.not_false, subD_ap, ltD_ap, leD_ap, gtD_ap, geD_ap, mulD_ap, modD_ap, divD_ap, powD_ap, tupK_ok, lstK_ok, methK_ok, tupG_ok, eqS_t, eqS_f, neS_t, neS_f, eqI_ap, neI_ap, inT_nil, inT_hit, inT_miss, ne_eq, not_false_eq_true, hm, rng1_ok (w := m) (st := st) (by omega)]) chk_nil (by rw [intsD_len, sizeLine_eq']; omega) fun d hd => by
        obtain ⟨i, hi, rfl⟩ := ints_mem hd
        obtain ⟨e, he, hE⟩ := term_ok (n := n / (5 * (0 + (i : Nat) * 1) + 1)) hx1 hx2
        have m5 := mul_l (a := 5) (by decide) (0 + (i : Nat) * 1)
        have lg := l2w (w := 5 * (0 + (i : Nat) * 1) + 1) (by omega) (by omega)
        have lp : (0 : Int) < 5 * (0 + (i : Nat) * 1) + 1 := by omega
        exact ⟨⟨e, hE⟩, trivial, fun S hS => ⟨_, [], rfl, by rw [List.append_nil]; simp -implicitDefEqProofs +decide only [varF_ap, cF_ap, opF_ap, opK_ap, bF_ap, boolK_ap, andT_ap, andK_ap, orT_ap, orK_ap, notT_ap, notK_ap, yesT_ap, andV_ap, andVK_ap, orV_ap, orVK_ap, notV_ap, notVK_ap, ifF_ap, ifFK_ap, nilA_ap, consA_ap, consK_ap, consJ_ap, tupA_ap, lstA_ap, newO_ap, dicF_ap, callF_ap, un1_ap, methF_ap, nonO_ap, someO_ap, someK_ap, slF_ap, slK_ap, slJ_ap, itF_ap, itA_ap, nilS_ap, bkS_ap, ctS_ap, seqS_ap, seqK_nx, seqK_rt, seqK_bk, seqK_ct, dropS_ap, dropK_ap, retS_ap, retK_ap, retN_ap, ifS_ap, ifK_ap, setS_ap, setK_ap, asgS_ap, asgK_ap, asgJ_ap, nameG_ap, nilG_ap, consG_ap, consGK_ap, fnF_ap, fnK_nx, fnK_rt, forS_ap, forK_ap, negD_ap, addI_ap, varK_ap, startE, yes2, isN, List.map_cons, List.map_nil, List.length_cons, List.length_nil, List.replicate, List.append_nil, List.cons_append, List.nil_append, List.getElem?_cons_zero, List.getElem?_cons_succ, List.set_cons_zero, List.set_cons_succ, R.bind_ok, R.bind_ex, R.bind_bad, R.noex_ok, if_true, if_false, Bool.false_eq_true, Bool.true_eq_false, ite_true, ite_false, reduceIte, Nat.reduceAdd, Nat.reduceSub, Nat.zero_add, Nat.sub_self, Nat.sub_zero, decide_true, decide_false, Bool.not_true, Bool.not_false, subD_ap, ltD_ap, leD_ap, gtD_ap, geD_ap, mulD_ap, modD_ap, divD_ap, powD_ap, tupK_ok, lstK_ok, methK_ok, tupG_ok, eqS_t, eqS_f, neS_t, neS_f, eqI_ap, neI_ap, inT_nil, inT_hit, inT_miss, ne_eq, not_false_eq_true, wipeE, m5, lg, lp, he S]⟩⟩
    rw [intsD_len] at hl
    obtain ⟨ts, hts⟩ : ∃ ts, ts = l.map fun e => VL.D.tup [e.1, .int (tsz e.1)] := ⟨_, rfl⟩
    obtain ⟨es, hes⟩ : ∃ es : List VL.D, es = l.map (·.1) := ⟨_, rfl⟩
    have hel : es.length = m := by rw [hes, List.length_map, hl]
    have htl : ts.length = m := by rw [hts, List.length_map, hl]
    have hE : ∀ e ∈ es, Ex x 4 e := fun e he => by
      rw [hes] at he
      obtain ⟨d, _, rfl⟩ := List.mem_map.mp he
      exact d.2
    rw [← hts] at e1
    obtain ⟨S1, hS1⟩ : ∃ S, S = st ++ VL.O.lst ts :: j := ⟨_, rfl⟩
    rw [← hS1] at e1
    have g1 : listAt S1 st.length = some ts := hS1 ▸ listAt_at
    have q0 : q0__law_one [some (.int n), some (.str "cols"), some (.tup [v, .int x, .int s, .int g, .int q]), some (.int x), some (.int 0), some (.int 24), none, none, none, none, none] st = _ := e1
    obtain ⟨j2, e2⟩ := lcF_all (st := S1) (s := S1) (c := chkAt S1 st.length) (ds := ts) (it := itF (varF 8)) (vs := [10]) (gf := nameG 10) (te := opF ixD (varF 10) (cF (.int 1))) (env := [some (.int n), some (.str "cols"), some (.tup [v, .int x, .int s, .int g, .int q]), some (.int x), some (.int 0), some (.int 24), none, none, some (.ref st.length), none, none])
      (fun d => match d with | .tup [_, .int i] => .int i | _ => .non) (by simp -implicitDefEqProofs only [varF_ap, cF_ap, opF_ap, opK_ap, bF_ap, boolK_ap, andT_ap, andK_ap, orT_ap, orK_ap, notT_ap, notK_ap, yesT_ap, andV_ap, andVK_ap, orV_ap, orVK_ap, notV_ap, notVK_ap, ifF_ap, ifFK_ap, nilA_ap, consA_ap, consK_ap, consJ_ap, tupA_ap, tupK_ap, lstA_ap, lstK_ap, newO_ap, dicF_ap, callF_ap, un1_ap, methF_ap, methK_ap, nonO_ap, someO_ap, someK_ap, slF_ap, slK_ap, slJ_ap, itF_ap, itA_ap, nilS_ap, bkS_ap, ctS_ap, seqS_ap, seqK_nx, seqK_rt, seqK_bk, seqK_ct, dropS_ap, dropK_ap, retS_ap, retK_ap, retN_ap, ifS_ap, ifK_ap, setS_ap, setK_ap, asgS_ap, asgK_ap, asgJ_ap, nameG_ap, nilG_ap, consG_ap, consGK_ap, tupG_ap, fnF_ap, fnK_nx, fnK_rt, forS_ap, forK_ap, intD_ap, negD_ap, addI_ap, varK_ap, startE, yes2, isN, List.map_cons, List.map_nil, List.length_cons, List.length_nil, List.replicate, List.append_nil, List.cons_append, List.nil_append, List.getElem?_cons_zero, List.getElem?_cons_succ, List.set_cons_zero, List.set_cons_succ, R.bind_ok, R.bind_ex, R.bind_bad, R.noex_ok, if_true, if_false, Bool.false_eq_true, Bool.true_eq_false, ite_true, ite_false, reduceIte, Nat.reduceAdd, Nat.reduceSub, Nat.zero_add, Nat.sub_self, Nat.sub_zero, decide_true, decide_false, Bool.not_true, Bool.not_false, itD_list g1]) chk_at (by rw [htl, sizeLine_eq']; omega) fun d hd S hS => by
        rw [hts] at hd
        obtain ⟨p, hp, rfl⟩ := List.mem_map.mp hd
        exact ⟨_, [], rfl, by rw [List.append_nil]; simp -implicitDefEqProofs only [varF_ap, cF_ap, opF_ap, opK_ap, bF_ap, boolK_ap, andT_ap, andK_ap, orT_ap, orK_ap, notT_ap, notK_ap, yesT_ap, andV_ap, andVK_ap, orV_ap, orVK_ap, notV_ap, notVK_ap, ifF_ap, ifFK_ap, nilA_ap, consA_ap, consK_ap, consJ_ap, tupA_ap, tupK_ap, lstA_ap, lstK_ap, newO_ap, dicF_ap, callF_ap, un1_ap, methF_ap, methK_ap, nonO_ap, someO_ap, someK_ap, slF_ap, slK_ap, slJ_ap, itF_ap, itA_ap, nilS_ap, bkS_ap, ctS_ap, seqS_ap, seqK_nx, seqK_rt, seqK_bk, seqK_ct, dropS_ap, dropK_ap, retS_ap, retK_ap, retN_ap, ifS_ap, ifK_ap, setS_ap, setK_ap, asgS_ap, asgK_ap, asgJ_ap, nameG_ap, nilG_ap, consG_ap, consGK_ap, tupG_ap, fnF_ap, fnK_nx, fnK_rt, forS_ap, forK_ap, intD_ap, negD_ap, addI_ap, varK_ap, startE, yes2, isN, List.map_cons, List.map_nil, List.length_cons, List.length_nil, List.replicate, List.append_nil, List.cons_append, List.nil_append, List.getElem?_cons_zero, List.getElem?_cons_succ, List.set_cons_zero, List.set_cons_succ, R.bind_ok, R.bind_ex, R.bind_bad, R.noex_ok, if_true, if_false, Bool.false_eq_true, Bool.true_eq_false, ite_true, ite_false, reduceIte, Nat.reduceAdd, Nat.reduceSub, Nat.zero_add, Nat.sub_self, Nat.sub_zero, decide_true, decide_false, Bool.not_true, Bool.not_false, wipeE, jx1]⟩
    have m1 : ts.map (fun d => match d with | .tup [_, .int i] => VL.D.int i | _ => .non) = (es.map tsz).map .int := by
      rw [hts, hes, List.map_map, List.map_map, List.map_map]; rfl
    rw [m1] at e2
    obtain ⟨S2, hS2⟩ : ∃ S, S = S1 ++ VL.O.lst ((es.map tsz).map .int) :: j2 := ⟨_, rfl⟩
    rw [← hS2] at e2
    have q1 : q1__law_one [some (.int n), some (.str "cols"), some (.tup [v, .int x, .int s, .int g, .int q]), some (.int x), some (.int 0), some (.int 24), none, none, some (.ref st.length), none, none] S1 = _ := e2
    have sm : sumD [.ref S1.length] S2 = .ok (.int (es.map tsz).sum) S2 := by
      have hi : listAt S2 S1.length = some ((es.map tsz).map VL.D.int) := hS2 ▸ listAt_at
      simp only [sumD, hi, Option.bind_some, ints_map]
    have l2 : Le S1 S2 := hS2 ▸ Le.app _ _
    have g2 : listAt S2 st.length = some ts := l2.listAt g1
    have ln : lenD [.ref st.length] S2 = .ok (.int m) S2 := by rw [lenD_list g2, htl]
    have m48 := mul_l (a := 48) (by decide) (m : Int)
    obtain ⟨j3, e3⟩ := lcF_all (st := S2) (s := S2) (c := chkAt S2 st.length) (ds := ts) (it := itF (varF 8)) (vs := [10]) (gf := nameG 10) (te := opF ixD (varF 10) (cF (.int 0))) (env := [some (.int n), some (.str "cols"), some (.tup [v, .int x, .int s, .int g, .int q]), some (.int m), some (.int (es.map tsz).sum), some (.int (24 + 48 * m)), none, none, some (.ref st.length), none, none])
      (fun d => match d with | .tup [e, .int i] => e | _ => .non) (by simp -implicitDefEqProofs only [varF_ap, cF_ap, opF_ap, opK_ap, bF_ap, boolK_ap, andT_ap, andK_ap, orT_ap, orK_ap, notT_ap, notK_ap, yesT_ap, andV_ap, andVK_ap, orV_ap, orVK_ap, notV_ap, notVK_ap, ifF_ap, ifFK_ap, nilA_ap, consA_ap, consK_ap, consJ_ap, tupA_ap, tupK_ap, lstA_ap, lstK_ap, newO_ap, dicF_ap, callF_ap, un1_ap, methF_ap, methK_ap, nonO_ap, someO_ap, someK_ap, slF_ap, slK_ap, slJ_ap, itF_ap, itA_ap, nilS_ap, bkS_ap, ctS_ap, seqS_ap, seqK_nx, seqK_rt, seqK_bk, seqK_ct, dropS_ap, dropK_ap, retS_ap, retK_ap, retN_ap, ifS_ap, ifK_ap, setS_ap, setK_ap, asgS_ap, asgK_ap, asgJ_ap, nameG_ap, nilG_ap, consG_ap, consGK_ap, tupG_ap, fnF_ap, fnK_nx, fnK_rt, forS_ap, forK_ap, intD_ap, negD_ap, addI_ap, varK_ap, startE, yes2, isN, List.map_cons, List.map_nil, List.length_cons, List.length_nil, List.replicate, List.append_nil, List.cons_append, List.nil_append, List.getElem?_cons_zero, List.getElem?_cons_succ, List.set_cons_zero, List.set_cons_succ, R.bind_ok, R.bind_ex, R.bind_bad, R.noex_ok, if_true, if_false, Bool.false_eq_true, Bool.true_eq_false, ite_true, ite_false, reduceIte, Nat.reduceAdd, Nat.reduceSub, Nat.zero_add, Nat.sub_self, Nat.sub_zero, decide_true, decide_false, Bool.not_true, Bool.not_false, itD_list g2]) chk_at (by rw [htl, sizeLine_eq']; omega) fun d hd S hS => by
        rw [hts] at hd
        obtain ⟨p, hp, rfl⟩ := List.mem_map.mp hd
        exact ⟨_, [], rfl, by rw [List.append_nil]; simp -implicitDefEqProofs only [varF_ap, cF_ap, opF_ap, opK_ap, bF_ap, boolK_ap, andT_ap, andK_ap, orT_ap, orK_ap, notT_ap, notK_ap, yesT_ap, andV_ap, andVK_ap, orV_ap, orVK_ap, notV_ap, notVK_ap, ifF_ap, ifFK_ap, nilA_ap, consA_ap, consK_ap, consJ_ap, tupA_ap, tupK_ap, lstA_ap, lstK_ap, newO_ap, dicF_ap, callF_ap, un1_ap, methF_ap, methK_ap, nonO_ap, someO_ap, someK_ap, slF_ap, slK_ap, slJ_ap, itF_ap, itA_ap, nilS_ap, bkS_ap, ctS_ap, seqS_ap, seqK_nx, seqK_rt, seqK_bk, seqK_ct, dropS_ap, dropK_ap, retS_ap, retK_ap, retN_ap, ifS_ap, ifK_ap, setS_ap, setK_ap, asgS_ap, asgK_ap, asgJ_ap, nameG_ap, nilG_ap, consG_ap, consGK_ap, tupG_ap, fnF_ap, fnK_nx, fnK_rt, forS_ap, forK_ap, intD_ap, negD_ap, addI_ap, varK_ap, startE, yes2, isN, List.map_cons, List.map_nil, List.length_cons, List.length_nil, List.replicate, List.append_nil, List.cons_append, List.nil_append, List.getElem?_cons_zero, List.getElem?_cons_succ, List.set_cons_zero, List.set_cons_succ, R.bind_ok, R.bind_ex, R.bind_bad, R.noex_ok, if_true, if_false, Bool.false_eq_true, Bool.true_eq_false, ite_true, ite_false, reduceIte, Nat.reduceAdd, Nat.reduceSub, Nat.zero_add, Nat.sub_self, Nat.sub_zero, decide_true, decide_false, Bool.not_true, Bool.not_false, wipeE, jx0]⟩
    have m2 : ts.map (fun d => match d with | .tup [e, .int i] => e | _ => VL.D.non) = es := by
      rw [hts, hes, List.map_map]; rfl
    rw [m2] at e3
    have q2 : q2__law_one [some (.int n), some (.str "cols"), some (.tup [v, .int x, .int s, .int g, .int q]), some (.int m), some (.int (es.map tsz).sum), some (.int (24 + 48 * m)), none, none, some (.ref st.length), none, none] S2 = _ := e3
    have tp : tupleD [.ref S2.length] (S2 ++ .lst es :: j3) = .ok (.tup es) (S2 ++ .lst es :: j3) := tupleD_list listAt_at
    have k1 := Vw.cols h5 hE (by omega)
    rw [hel] at k1
    refine ⟨m, 1 + da, .tup [.tup [.str "cols", v, .tup es], .int m, .int (1 + (es.map tsz).sum + s), .int (24 + 48 * m + g), .int (1 + q)], S2 ++ .lst es :: j3, ?_, ((hS1 ▸ Le.app _ _ : Le st S1).trans l2).trans (Le.app _ _), _, _, _, _, rfl, by omega, by omega, by omega, by rw [show 1 + (es.map tsz).sum + s = 1 + s + (es.map tsz).sum by omega]; exact k1⟩
    simp -implicitDefEqProofs +decide only [varF_ap, cF_ap, opF_ap, opK_ap, bF_ap, boolK_ap, andT_ap, andK_ap, orT_ap, orK_ap, notT_ap, notK_ap, yesT_ap, andV_ap, andVK_ap, orV_ap, orVK_ap, notV_ap, notVK_ap, ifF_ap, ifFK_ap, nilA_ap, consA_ap, consK_ap, consJ_ap, tupA_ap, lstA_ap, newO_ap, dicF_ap, callF_ap, un1_ap, methF_ap, nonO_ap, someO_ap, someK_ap, slF_ap, slK_ap, slJ_ap, itF_ap, itA_ap, nilS_ap, bkS_ap, ctS_ap, seqS_ap, seqK_nx, seqK_rt, seqK_bk, seqK_ct, dropS_ap, dropK_ap, retS_ap, retK_ap, retN_ap, ifS_ap, ifK_ap, setS_ap, setK_ap, asgS_ap, asgK_ap, asgJ_ap, nameG_ap, nilG_ap, consG_ap, consGK_ap, fnF_ap, fnK_nx, fnK_rt, forS_ap, forK_ap, negD_ap, addI_ap, varK_ap, startE, yes2, isN, List.map_cons, List.map_nil, List.length_cons, List.length_nil, List.replicate, List.append_nil, List.cons_append, List.nil_append, List.getElem?_cons_zero, List.getElem?_cons_succ, List.set_cons_zero, List.set_cons_succ, R.bind_ok, R.bind_ex, R.bind_bad, R.noex_ok, if_true, if_false, Bool.false_eq_true, Bool.true_eq_false, ite_true, ite_false, reduceIte, Nat.reduceAdd, Nat.reduceSub, Nat.zero_add, Nat.sub_self, Nat.sub_zero, decide_true, decide_false, Bool.not_true, Bool.not_false, subD_ap, ltD_ap, leD_ap, gtD_ap, geD_ap, mulD_ap, modD_ap, divD_ap, powD_ap, tupK_ok, lstK_ok, methK_ok, tupG_ok, eqS_t, eqS_f, neS_t, neS_f, eqI_ap, neI_ap, inT_nil, inT_hit, inT_miss, ne_eq, not_false_eq_true, f__law_one, b__law_one, jx0, jx1, jx2, jx3, jx4, q0, q1, sm, ln, m48, q2, tp, sz (by decide : 3 ≤ 100), sz (by decide : 5 ≤ 100)]
  · exact gr (.inl rfl) (by decide) (by decide) (by decide)
  · exact gr (.inr (.inl rfl)) (by decide) (by decide) (by decide)
  · exact gr (.inr (.inr (by decide))) (by decide) (by decide) (by decide)
  · exact gr (.inr (.inr (by decide))) (by decide) (by decide) (by decide)
  · exact gr (.inr (.inr (by decide))) (by decide) (by decide) (by decide)
end
end Law

namespace Law
open PySem L2 VL
/-! names -/
def lets : List Nat := (List.range 26).map (97 + ·)
theorem lets_eq : (Str.ofString "abcdefghijklmnopqrstuvwxyz").cps.toList = lets := by decide +kernel
theorem lets_mem {c : Nat} : c ∈ lets ↔ 97 ≤ c ∧ c < 123 := by
  unfold lets
  rw [List.mem_map]
  constructor
  · rintro ⟨i, hi, rfl⟩
    rw [List.mem_range] at hi
    omega
  · rintro ⟨h1, h2⟩
    exact ⟨c - 97, List.mem_range.mpr (by omega), by omega⟩
theorem letter_at {i : Nat} {st : Sto} (h : i < 26) : ixD (.str "abcdefghijklmnopqrstuvwxyz") (.int (i : Nat)) st = .ok (.str ⟨#[97 + i]⟩) st := by
  have hl : (Str.ofString "abcdefghijklmnopqrstuvwxyz").length ≤ sizeLine := by decide +kernel
  have e : L2.atI (Str.ofString "abcdefghijklmnopqrstuvwxyz").cps.toList (i : Nat) = some (97 + i) := by
    rw [lets_eq]
    refine atI_nat ?_
    unfold lets
    rw [List.getElem?_map, List.getElem?_range h]; rfl
  simp only [ixD]
  rw [if_pos hl, e]
theorem join_cs : ∀ {cs : List Nat}, Txt.join "" (cs.map fun c => (⟨#[c]⟩ : Str)) = ⟨cs.toArray⟩ := by
  intro cs
  show Builtin.Str.glued (PySem.Str.ofString "") _ = _
  rw [StrLaws.glued_eq_join]
  have e0 : (PySem.Str.ofString "").cps = #[] := by decide +kernel
  induction cs with
  | nil => rfl
  | cons c r ih =>
    cases r with
    | nil => rfl
    | cons d r =>
      show (⟨#[c]⟩ : Str) ++ PySem.Str.ofString "" ++ PySem.Str.join (PySem.Str.ofString "") ((d :: r).map fun c => (⟨#[c]⟩ : Str)) = _
      rw [ih]
      show (⟨(#[c] ++ (PySem.Str.ofString "").cps) ++ (d :: r).toArray⟩ : Str) = _
      rw [e0]
      simp
theorem join_ok {S : Sto} {r : Nat} {cs : List Nat} (h : listAt S r = some (cs.map fun c => .str ⟨#[c]⟩)) (hl : cs.length ≤ 1000) : joinD (.str "") [.ref r] S = .ok (.str ⟨cs.toArray⟩) S := by
  have h' : listAt S r = some ((cs.map fun c => (⟨#[c]⟩ : Str)).map .str) := by rw [h, List.map_map]; rfl
  have hs : ((cs.map fun c => (⟨#[c]⟩ : Str)).map (·.length)).sum = cs.length := by
    clear h h' hl
    induction cs with
    | nil => rfl
    | cons c r ih =>
      rw [List.map_cons, List.map_cons, List.sum_cons, ih, List.length_cons]
      show 1 + r.length = _
      omega
  have h0 : (Str.ofString "").length = 0 := by decide +kernel
  simp only [joinD, h', Option.bind_some, strs_map]
  rw [if_pos (by rw [hs, h0, Nat.mul_zero]; omega), join_cs]
def Nm (m : Nat) (s : Str) : Prop := s.cps.toList.length = m ∧ ∀ c ∈ s.cps.toList, 97 ≤ c ∧ c < 123
theorem Nm.len {m : Nat} {s : Str} (h : Nm m s) : s.length = m := by rw [← h.1]; exact Array.length_toList.symm
theorem names_ok {c : Int} {st : Sto} : ∃ r ns m S, f__law_names [.int c] st = .ok (.ref r) S ∧ Le st S ∧ S[r]? = some (.lst ((ns : List Str).map .str)) ∧ ns.length = 4 ∧ 1 ≤ m ∧ m ≤ 5 ∧ ∀ s ∈ ns, Nm m s := by
  obtain ⟨m, hm⟩ : ∃ m : Nat, 1 + mixed c % 5 = m := ⟨(1 + mixed c % 5).toNat, by omega⟩
  have hm1 : 1 ≤ m := by omega
  have hm2 : m ≤ 5 := by omega
  have v25 : (25 : Int).natAbs.log2 < 9000 := by decide +kernel
  have v5 : (5 : Int).natAbs.log2 < 9000 := by decide +kernel
  have mx := mixed_ok (c := c) (st := st)
  have d1 := digits_ok (n := mixed c / 25) (top := 26) (k := m) (st := st) (by decide) (by decide +kernel) (by omega)
  obtain ⟨S1, hS1⟩ : ∃ S, S = st ++ [VL.O.lst (digsD 26 m (mixed c / 25))] := ⟨_, rfl⟩
  rw [← hS1] at d1
  have L1 : Le st S1 := hS1 ▸ Le.app _ _
  have g1 : listAt S1 st.length = some (digsD 26 m (mixed c / 25)) := hS1 ▸ listAt_last
  have ln : ∀ S, Le S1 S → lenD [.ref st.length] S = .ok (.int m) S := fun S h => by rw [lenD_list (h.listAt g1), digsD_len]
  obtain ⟨at_, hat⟩ : ∃ a : Int, a = mixed c / 5 % 5 % m := ⟨_, rfl⟩
  have m0 : (0 : Int) < m := by omega
  have r4 : rng1D [.int 4] (S1 ++ [.lst []]) = .ok (intsD 0 1 4, []) (S1 ++ [.lst []]) := rng1_ok (w := 4) (by decide)
  obtain ⟨e', S, hf, z, xs, he, hS, hp, hl, hn⟩ := forL_inv (c := []) (gf := nameG 6) (b := l0__law_names) (ds := intsD 0 1 4) (env := [some (.int c), some (.str "abcdefghijklmnopqrstuvwxyz"), some (.int (mixed c)), some (.ref st.length), some (.int at_), some (.ref S1.length), none, none]) (st := S1 ++ [.lst []])
    (fun i env S => ∃ z xs, env = [some (.int c), some (.str "abcdefghijklmnopqrstuvwxyz"), some (.int (mixed c)), some (.ref st.length), some (.int at_), some (.ref S1.length), z, none] ∧ Le S1 S ∧ S[S1.length]? = some (.lst ((xs : List Str).map .str)) ∧ xs.length = i ∧ ∀ s ∈ xs, Nm m s)
    ⟨none, [], rfl, Le.app _ _, get_last, rfl, by simp⟩ (fun _ _ _ _ => ChkOk.nil) fun i x env S hi ⟨z, xs, he, hS, hp, hl, hn⟩ => by
      subst he
      obtain ⟨hi4, rfl⟩ := intsD_get hi
      have hr : rng1D [.int m] S = .ok (intsD 0 1 m, []) S := rng1_ok (by omega)
      obtain ⟨l, hll, ⟨j, e1⟩, _⟩ := lcF_any (st := S) (s := S) (c := []) (ds := intsD 0 1 m) (it := itA rng1D (consA (callF lenD (consA (varF 3) nilA)) nilA)) (vs := [7]) (gf := nameG 7) (te := opF ixD (varF 1) (opF modD (opF addD (opF ixD (varF 3) (varF 7)) (opF mulD (varF 6) (callF int1D (consA (opF eqD (varF 7) (varF 4)) nilA)))) (cF (.int 26)))) (env := [some (.int c), some (.str "abcdefghijklmnopqrstuvwxyz"), some (.int (mixed c)), some (.ref st.length), some (.int at_), some (.ref S1.length), some (.int (0 + (i : Nat) * 1)), none])
        (A := {c : Nat // 97 ≤ c ∧ c < 123}) (fun c => .str ⟨#[c.1]⟩) (fun _ _ => True) (by simp -implicitDefEqProofs +decide only [varF_ap, cF_ap, opF_ap, opK_ap, bF_ap, boolK_ap, andT_ap, andK_ap, orT_ap, orK_ap, notT_ap, notK_ap, yesT_ap, andV_ap, andVK_ap, orV_ap, orVK_ap, notV_ap, notVK_ap, ifF_ap, ifFK_ap, nilA_ap, consA_ap, consK_ap, consJ_ap, tupA_ap, lstA_ap, newO_ap, dicF_ap, callF_ap, un1_ap, methF_ap, nonO_ap, someO_ap, someK_ap, slF_ap, slK_ap, slJ_ap, itF_ap, itA_ap, nilS_ap, bkS_ap, ctS_ap, seqS_ap, seqK_nx, seqK_rt, seqK_bk, seqK_ct, dropS_ap, dropK_ap, retS_ap, retK_ap, retN_ap, ifS_ap, ifK_ap, setS_ap, setK_ap, asgS_ap, asgK_ap, asgJ_ap, nameG_ap, nilG_ap, consG_ap, consGK_ap, fnF_ap, fnK_nx, fnK_rt, forS_ap, forK_ap, negD_ap, addI_ap, varK_ap, startE, yes2, isN, List.map_cons, List.map_nil, List.length_cons, List.length_nil, List.replicate, List.append_nil, List.cons_append, List.nil_append, List.getElem?_cons_zero, List.getElem?_cons_succ, List.set_cons_zero, List.set_cons_succ, R.bind_ok, R.bind_ex, R.bind_bad, R.noex_ok, if_true, if_false, Bool.false_eq_true, Bool.true_eq_false, ite_true, ite_false, reduceIte, Nat.reduceAdd, Nat.reduceSub, Nat.zero_add, Nat.sub_self, Nat.sub_zero, decide_true, decide_false, Bool.not_true, Bool.not_false, subD_ap, ltD_ap, leD_ap, gtD_ap, geD_ap, mulD_ap, modD_ap, divD_ap, powD_ap, tupK_ok, lstK_ok, methK_ok, tupG_ok, eqS_t, eqS_f, neS_t, neS_f, eqI_ap, neI_ap, inT_nil, inT_hit, inT_miss, ne_eq, not_false_eq_true, ln S hS, hr]) chk_nil (by rw [intsD_len, sizeLine_eq']; omega) fun d hd => by
          obtain ⟨k, hk, rfl⟩ := ints_mem hd
          obtain ⟨b, hb⟩ : ∃ b, (digs 26 m (mixed c / 25))[k]? = some b := ⟨_, List.getElem?_eq_getElem (by rw [digs_len]; exact hk)⟩
          have hb2 : (digsD 26 m (mixed c / 25))[k]? = some (.int b) := by rw [digsD, List.getElem?_map, hb]; rfl
          have q : ∀ t, VL.MulOk (0 + (i : Nat) * 1) t := mul_l (Sm.of (by omega) (show _ < (5 : Int) by omega) (by decide))
          have tf : ∀ (b : Bool) S, int1D [.bl b] S = .ok (.int (if b = true then 1 else 0)) S := fun b S => by cases b <;> rfl
          obtain ⟨u, hu⟩ : ∃ u : Int, u = (if decide (0 + (k : Int) * 1 = at_) = true then 1 else 0) := ⟨_, rfl⟩
          obtain ⟨p, hpp⟩ : ∃ p : Nat, (b + (0 + (i : Nat) * 1) * u) % 26 = p := ⟨((b + (0 + (i : Nat) * 1) * u) % 26).toNat, by omega⟩
          have hp26 : p < 26 := by omega
          have ib : ∀ S', Le S S' → ixD (.ref st.length) (.int (0 + (k : Int) * 1)) S' = .ok (.int b) S' := fun S' h => by
            rw [show (0 : Int) + (k : Int) * 1 = (k : Nat) by omega]
            exact ixD_list ((hS.trans h).listAt g1) hb2
          refine ⟨⟨97 + p, by omega, by omega⟩, trivial, fun S' hS' => ⟨_, [], rfl, ?_⟩⟩
          rw [List.append_nil]
          simp -implicitDefEqProofs +decide only [varF_ap, cF_ap, opF_ap, opK_ap, bF_ap, boolK_ap, andT_ap, andK_ap, orT_ap, orK_ap, notT_ap, notK_ap, yesT_ap, andV_ap, andVK_ap, orV_ap, orVK_ap, notV_ap, notVK_ap, ifF_ap, ifFK_ap, nilA_ap, consA_ap, consK_ap, consJ_ap, tupA_ap, lstA_ap, newO_ap, dicF_ap, callF_ap, un1_ap, methF_ap, nonO_ap, someO_ap, someK_ap, slF_ap, slK_ap, slJ_ap, itF_ap, itA_ap, nilS_ap, bkS_ap, ctS_ap, seqS_ap, seqK_nx, seqK_rt, seqK_bk, seqK_ct, dropS_ap, dropK_ap, retS_ap, retK_ap, retN_ap, ifS_ap, ifK_ap, setS_ap, setK_ap, asgS_ap, asgK_ap, asgJ_ap, nameG_ap, nilG_ap, consG_ap, consGK_ap, fnF_ap, fnK_nx, fnK_rt, forS_ap, forK_ap, negD_ap, addI_ap, varK_ap, startE, yes2, isN, List.map_cons, List.map_nil, List.length_cons, List.length_nil, List.replicate, List.append_nil, List.cons_append, List.nil_append, List.getElem?_cons_zero, List.getElem?_cons_succ, List.set_cons_zero, List.set_cons_succ, R.bind_ok, R.bind_ex, R.bind_bad, R.noex_ok, if_true, if_false, Bool.false_eq_true, Bool.true_eq_false, ite_true, ite_false, reduceIte, Nat.reduceAdd, Nat.reduceSub, Nat.zero_add, Nat.sub_self, Nat.sub_zero, decide_true, decide_false, Bool.not_true, Bool.not_false, subD_ap, ltD_ap, leD_ap, gtD_ap, geD_ap, mulD_ap, modD_ap, divD_ap, powD_ap, tupK_ok, lstK_ok, methK_ok, tupG_ok, eqS_t, eqS_f, neS_t, neS_f, eqI_ap, neI_ap, inT_nil, inT_hit, inT_miss, ne_eq, not_false_eq_true, wipeE, ib S' hS', tf, ← hu, q]
          rw [hpp]
          exact letter_at hp26
      obtain ⟨cs, hcs⟩ : ∃ cs, cs = l.map (·.1) := ⟨_, rfl⟩
      have hm1 : l.map (fun c => VL.D.str ⟨#[c.1]⟩) = cs.map fun c => .str ⟨#[c]⟩ := by rw [hcs, List.map_map]; rfl
      rw [hm1] at e1
      rw [intsD_len] at hll
      have hcl : cs.length = m := by rw [hcs, List.length_map, hll]
      have q0 : q0__law_names [some (.int c), some (.str "abcdefghijklmnopqrstuvwxyz"), some (.int (mixed c)), some (.ref st.length), some (.int at_), some (.ref S1.length), some (.int (0 + (i : Nat) * 1)), none] S = _ := e1
      have jn := join_ok (S := S ++ .lst (cs.map fun c => .str ⟨#[c]⟩) :: j) listAt_at (by omega : cs.length ≤ 1000)
      have hp2 : (S ++ VL.O.lst (cs.map fun c => .str ⟨#[c]⟩) :: j)[S1.length]? = some (.lst (xs.map .str)) := get_app hp
      have ap := appD_ok (d := .str ⟨cs.toArray⟩) hp2 (by rw [List.length_map, sizeLine_eq']; omega)
      have ty : tyD "list" (VL.D.ref S1.length) S := tyD_list (by unfold listAt; rw [hp])
      have ty2 : tyD "str" (VL.D.str "") S := rfl
      refine ⟨_, _, [some (.int c), some (.str "abcdefghijklmnopqrstuvwxyz"), some (.int (mixed c)), some (.ref st.length), some (.int at_), some (.ref S1.length), some (.int (0 + (i : Nat) * 1)), none], (S ++ VL.O.lst (cs.map fun c => .str ⟨#[c]⟩) :: j).set S1.length (.lst (xs.map .str ++ [.str ⟨cs.toArray⟩])), rfl, by simp -implicitDefEqProofs +decide only [varF_ap, cF_ap, opF_ap, opK_ap, bF_ap, boolK_ap, andT_ap, andK_ap, orT_ap, orK_ap, notT_ap, notK_ap, yesT_ap, andV_ap, andVK_ap, orV_ap, orVK_ap, notV_ap, notVK_ap, ifF_ap, ifFK_ap, nilA_ap, consA_ap, consK_ap, consJ_ap, tupA_ap, lstA_ap, newO_ap, dicF_ap, callF_ap, un1_ap, methF_ap, nonO_ap, someO_ap, someK_ap, slF_ap, slK_ap, slJ_ap, itF_ap, itA_ap, nilS_ap, bkS_ap, ctS_ap, seqS_ap, seqK_nx, seqK_rt, seqK_bk, seqK_ct, dropS_ap, dropK_ap, retS_ap, retK_ap, retN_ap, ifS_ap, ifK_ap, setS_ap, setK_ap, asgS_ap, asgK_ap, asgJ_ap, nameG_ap, nilG_ap, consG_ap, consGK_ap, fnF_ap, fnK_nx, fnK_rt, forS_ap, forK_ap, negD_ap, addI_ap, varK_ap, startE, yes2, isN, List.map_cons, List.map_nil, List.length_cons, List.length_nil, List.replicate, List.append_nil, List.cons_append, List.nil_append, List.getElem?_cons_zero, List.getElem?_cons_succ, List.set_cons_zero, List.set_cons_succ, R.bind_ok, R.bind_ex, R.bind_bad, R.noex_ok, if_true, if_false, Bool.false_eq_true, Bool.true_eq_false, ite_true, ite_false, reduceIte, Nat.reduceAdd, Nat.reduceSub, Nat.zero_add, Nat.sub_self, Nat.sub_zero, decide_true, decide_false, Bool.not_true, Bool.not_false, subD_ap, ltD_ap, leD_ap, gtD_ap, geD_ap, mulD_ap, modD_ap, divD_ap, powD_ap, tupK_ok, lstK_ok, methK_ok, tupG_ok, eqS_t, eqS_f, neS_t, neS_f, eqI_ap, neI_ap, inT_nil, inT_hit, inT_miss, ne_eq, not_false_eq_true, l0__law_names, ty, ty2, q0, jn, ap], _, xs ++ [⟨cs.toArray⟩], rfl, (hS.trans (Le.app _ _)).set (Nat.le_refl _), ?_, by rw [List.length_append, hl]; rfl, fun s hs => ?_⟩
      · rw [List.getElem?_set_self (List.getElem?_eq_some_iff.mp hp2).1, List.map_append]; rfl
      · rcases List.mem_append.mp hs with hs | hs
        · exact hn s hs
        · obtain rfl := List.mem_singleton.mp hs
          refine ⟨by rw [List.toList_toArray]; exact hcl, fun c hc => ?_⟩
          rw [List.toList_toArray, hcs] at hc
          obtain ⟨d, _, rfl⟩ := List.mem_map.mp hc
          exact d.2
  rw [intsD_len] at hl
  refine ⟨S1.length, xs, m, S, ?_, L1.trans hS, hp, hl, hm1, hm2, hn⟩
  subst he
  simp -implicitDefEqProofs +decide only [varF_ap, cF_ap, opF_ap, opK_ap, bF_ap, boolK_ap, andT_ap, andK_ap, orT_ap, orK_ap, notT_ap, notK_ap, yesT_ap, andV_ap, andVK_ap, orV_ap, orVK_ap, notV_ap, notVK_ap, ifF_ap, ifFK_ap, nilA_ap, consA_ap, consK_ap, consJ_ap, tupA_ap, lstA_ap, newO_ap, dicF_ap, callF_ap, un1_ap, methF_ap, nonO_ap, someO_ap, someK_ap, slF_ap, slK_ap, slJ_ap, itF_ap, itA_ap, nilS_ap, bkS_ap, ctS_ap, seqS_ap, seqK_nx, seqK_rt, seqK_bk, seqK_ct, dropS_ap, dropK_ap, retS_ap, retK_ap, retN_ap, ifS_ap, ifK_ap, setS_ap, setK_ap, asgS_ap, asgK_ap, asgJ_ap, nameG_ap, nilG_ap, consG_ap, consGK_ap, fnF_ap, fnK_nx, fnK_rt, forS_ap, forK_ap, negD_ap, addI_ap, varK_ap, startE, yes2, isN, List.map_cons, List.map_nil, List.length_cons, List.length_nil, List.replicate, List.append_nil, List.cons_append, List.nil_append, List.getElem?_cons_zero, List.getElem?_cons_succ, List.set_cons_zero, List.set_cons_succ, R.bind_ok, R.bind_ex, R.bind_bad, R.noex_ok, if_true, if_false, Bool.false_eq_true, Bool.true_eq_false, ite_true, ite_false, reduceIte, Nat.reduceAdd, Nat.reduceSub, Nat.zero_add, Nat.sub_self, Nat.sub_zero, decide_true, decide_false, Bool.not_true, Bool.not_false, subD_ap, ltD_ap, leD_ap, gtD_ap, geD_ap, mulD_ap, modD_ap, divD_ap, powD_ap, tupK_ok, lstK_ok, methK_ok, tupG_ok, eqS_t, eqS_f, neS_t, neS_f, eqI_ap, neI_ap, inT_nil, inT_hit, inT_miss, ne_eq, not_false_eq_true, f__law_names, b__law_names, mx, v25, v5, hm, d1, ln S1 (Le.refl _), m0, ← hat, r4, hf, sz (by decide : 0 ≤ 100)]
def fr (n0 : Str) (k : Nat) : Str := n0 ++ ⟨#[97 + k % 26]⟩ ++ ⟨#[97 + k / 26 % 26]⟩
theorem addS {a b : Str} {st : Sto} (h : a.length + b.length ≤ 1000) : addD (.str a) (.str b) st = .ok (.str (a ++ b)) st := by
  simp only [addD]; rw [if_pos (by rw [sizeLine_eq']; omega)]
theorem fresh_ok {S : Sto} {r : Nat} {n0 : Str} {ns : List Str} {k : Nat} (h : listAt S r = some ((n0 :: ns).map .str)) (hl : n0.length ≤ 900) : f__law_fresh [.ref r, .int k] S = .ok (.str (fr n0 k)) S := by
  have v26 : (26 : Int).natAbs.log2 < 9000 := by decide +kernel
  have i0 : ixD (.ref r) (.int 0) S = .ok (.str n0) S := ixD_list (k := 0) h rfl
  have i1 : ixD (.str "abcdefghijklmnopqrstuvwxyz") (.int ((k : Int) % 26)) S = .ok (.str ⟨#[97 + k % 26]⟩) S := by
    rw [show (k : Int) % 26 = ((k % 26 : Nat) : Int) by omega]; exact letter_at (by omega)
  have i2 : ixD (.str "abcdefghijklmnopqrstuvwxyz") (.int ((k : Int) / 26 % 26)) S = .ok (.str ⟨#[97 + k / 26 % 26]⟩) S := by
    rw [show (k : Int) / 26 % 26 = ((k / 26 % 26 : Nat) : Int) by omega]; exact letter_at (by omega)
  have a1 : addD (.str n0) (.str ⟨#[97 + k % 26]⟩) S = .ok (.str (n0 ++ ⟨#[97 + k % 26]⟩)) S := addS (by show n0.length + 1 ≤ _; omega)
  have a2 : addD (.str (n0 ++ ⟨#[97 + k % 26]⟩)) (.str ⟨#[97 + k / 26 % 26]⟩) S = .ok (.str (fr n0 k)) S := addS (by rw [Str.length_append]; show n0.length + 1 + 1 ≤ _; omega)
  simp -implicitDefEqProofs +decide only [varF_ap, cF_ap, opF_ap, opK_ap, bF_ap, boolK_ap, andT_ap, andK_ap, orT_ap, orK_ap, notT_ap, notK_ap, yesT_ap, andV_ap, andVK_ap, orV_ap, orVK_ap, notV_ap, notVK_ap, ifF_ap, ifFK_ap, nilA_ap, consA_ap, consK_ap, consJ_ap, tupA_ap, lstA_ap, newO_ap, dicF_ap, callF_ap, un1_ap, methF_ap, nonO_ap, someO_ap, someK_ap, slF_ap, slK_ap, slJ_ap, itF_ap, itA_ap, nilS_ap, bkS_ap, ctS_ap, seqS_ap, seqK_nx, seqK_rt, seqK_bk, seqK_ct, dropS_ap, dropK_ap, retS_ap, retK_ap, retN_ap, ifS_ap, ifK_ap, setS_ap, setK_ap, asgS_ap, asgK_ap, asgJ_ap, nameG_ap, nilG_ap, consG_ap, consGK_ap, fnF_ap, fnK_nx, fnK_rt, forS_ap, forK_ap, negD_ap, addI_ap, varK_ap, startE, yes2, isN, List.map_cons, List.map_nil, List.length_cons, List.length_nil, List.replicate, List.append_nil, List.cons_append, List.nil_append, List.getElem?_cons_zero, List.getElem?_cons_succ, List.set_cons_zero, List.set_cons_succ, R.bind_ok, R.bind_ex, R.bind_bad, R.noex_ok, if_true, if_false, Bool.false_eq_true, Bool.true_eq_false, ite_true, ite_false, reduceIte, Nat.reduceAdd, Nat.reduceSub, Nat.zero_add, Nat.sub_self, Nat.sub_zero, decide_true, decide_false, Bool.not_true, Bool.not_false, subD_ap, ltD_ap, leD_ap, gtD_ap, geD_ap, mulD_ap, modD_ap, divD_ap, powD_ap, tupK_ok, lstK_ok, methK_ok, tupG_ok, eqS_t, eqS_f, neS_t, neS_f, eqI_ap, neI_ap, inT_nil, inT_hit, inT_miss, ne_eq, not_false_eq_true, f__law_fresh, b__law_fresh, v26, i0, i1, i2, a1, a2]
theorem fr_len {n0 : Str} {k : Nat} : (fr n0 k).length = n0.length + 2 := by
  unfold fr
  rw [Str.length_append, Str.length_append]; rfl
theorem fri_len {n0 : Str} {k : Nat} : (fr n0 k ++ "i").length = n0.length + 3 := by
  rw [Str.length_append, fr_len]
  have : (Str.ofString "i").length = 1 := by decide +kernel
  rw [this]
theorem fr_inj {n0 : Str} {j k : Nat} (hj : j < 676) (hk : k < 676) (h : fr n0 j = fr n0 k) : j = k := by
  have h2 : (fr n0 j).cps.toList = (fr n0 k).cps.toList := by rw [h]
  unfold fr at h2
  simp only [Str.cps_append, Array.toList_append, List.append_assoc] at h2
  have h3 := List.append_cancel_left h2
  simp only [List.cons_append, List.nil_append, List.cons.injEq, and_true] at h3
  omega
theorem fri_inj {n0 : Str} {j k : Nat} (hj : j < 676) (hk : k < 676) (h : fr n0 j ++ "i" = fr n0 k ++ "i") : j = k := by
  refine fr_inj (n0 := n0) hj hk ?_
  have h2 : (fr n0 j ++ "i").cps.toList = (fr n0 k ++ "i").cps.toList := by rw [h]
  simp only [Str.cps_append, Array.toList_append] at h2
  have h3 := List.append_cancel_right h2
  cases hx : fr n0 j with | mk a => cases hy : fr n0 k with | mk b =>
  rw [hx, hy] at h3
  cases a; cases b; cases h3; rfl
theorem ne_len {a b : Str} (h : a.length ≠ b.length) : a ≠ b := fun e => h (e ▸ rfl)
end Law

namespace Law
open PySem L2 VL
theorem dget_snoc_ne {W : List (VL.D × VL.D)} {j k : Str} {v : VL.D} (h : j ≠ k) : dget (W ++ [(.str j, v)]) (.str k) = dget W (.str k) := by
  unfold dget
  rw [List.find?_append]
  have : keyQ (.str j) (.str k) = false := by simp [keyQ, h]
  simp [this]
theorem dget_snoc_eq {W : List (VL.D × VL.D)} {k : Str} {v : VL.D} (h : dget W (.str k) = none) : dget (W ++ [(.str k, v)]) (.str k) = some v := by
  unfold dget at *
  rw [Option.map_eq_none_iff] at h
  rw [List.find?_append, h]
  have : keyQ (.str k) (.str k) = true := by simp [keyQ]
  simp [this]
/-! dicts built -/
theorem keyQ_s {a b : Str} : keyQ (.str a) (.str b) = decide (a = b) := rfl
theorem keyQ_eq {d : VL.D} {k : Str} (h : keyQ d (.str k) = true) : d = .str k := by
  cases d <;> simp [keyQ] at h
  rw [h]
theorem dget_dput {W : List (VL.D × VL.D)} {k k' : Str} {v : VL.D} : dget (dput W (.str k) v) (.str k') = if k = k' then some v else dget W (.str k') := by
  unfold dput
  by_cases h : (W.any fun p => keyQ p.1 (.str k)) = true
  · rw [if_pos h]
    unfold dget
    induction W with
    | nil => cases h
    | cons p W ih =>
      rw [List.map_cons, List.find?_cons, List.find?_cons]
      by_cases hp : keyQ p.1 (.str k) = true
      · have e := keyQ_eq hp
        rw [if_pos hp]
        show Option.map _ (match keyQ p.1 (.str k') with | true => some (p.1, v) | false => _) = _
        rw [e, keyQ_s]
        by_cases hk : k = k'
        · rw [decide_eq_true hk, if_pos hk]; rfl
        · rw [decide_eq_false hk, if_neg hk]
          show Option.map (·.2) (List.find? (fun p : VL.D × VL.D => keyQ p.1 (.str k')) (W.map fun p => if keyQ p.1 (.str k) = true then (p.1, v) else p)) = Option.map (·.2) (List.find? (fun p : VL.D × VL.D => keyQ p.1 (.str k')) W)
          clear ih h hp e
          induction W with
          | nil => rfl
          | cons p W ih =>
            rw [List.map_cons, List.find?_cons, List.find?_cons]
            by_cases hp : keyQ p.1 (.str k) = true
            · have e := keyQ_eq hp
              rw [if_pos hp, e, keyQ_s, decide_eq_false hk]
              exact ih
            · rw [if_neg hp]
              split
              · rfl
              · exact ih
      · rw [if_neg hp]
        have h' : (W.any fun p => keyQ p.1 (.str k)) = true := by
          rw [List.any_cons, Bool.or_eq_true] at h
          exact h.resolve_left hp
        have ih := ih h'
        by_cases hq : keyQ p.1 (.str k') = true
        · rw [hq]
          by_cases hk : k = k'
          · exact absurd (hk ▸ hq) hp
          · rw [if_neg hk]
        · rw [Bool.eq_false_iff.mpr hq]
          exact ih
  · rw [if_neg h]
    have h0 : dget W (.str k) = none := by
      unfold dget
      rw [Option.map_eq_none_iff, List.find?_eq_none]
      rw [Bool.not_eq_true, List.any_eq_false] at h
      exact h
    by_cases hk : k = k'
    · subst hk
      rw [if_pos rfl, dget_snoc_eq h0]
    · rw [if_neg hk, dget_snoc_ne hk]
structure DicI (ns : List Str) (i : Nat) (hi : Int) (W : List (VL.D × VL.D)) : Prop where
  ok : keysOk W = true
  len : W.length ≤ i
  nd : (W.map (·.1)).Nodup
  fl : ∀ p ∈ W, flD p.2 = true
  has : ∀ k, (dget W (.str k)).isSome = true → k ∈ ns
  val : ∀ j s, j < i → ns[j]? = some s → ∃ v : Int, dget W (.str s) = some (.int v) ∧ 1 ≤ v ∧ v ≤ hi
theorem DicI.nil {ns : List Str} {hi : Int} : DicI ns 0 hi [] := ⟨rfl, Nat.le_refl _, List.nodup_nil, fun p h => (by cases h), fun k h => (by cases h), fun j s h => (by omega)⟩
theorem DicI.put {ns : List Str} {i : Nat} {hi v : Int} {s : Str} {W : List (VL.D × VL.D)} (h : DicI ns i hi W) (hs : ns[i]? = some s) (h1 : 1 ≤ v) (h2 : v ≤ hi) : DicI ns (i + 1) hi (dput W (.str s) (.int v)) := by
  have hm := List.mem_of_getElem? hs
  refine ⟨?_, ?_, ?_, ?_, fun k hk => ?_, fun j t hj ht => ?_⟩
  · have := h.ok
    unfold keysOk at this ⊢
    unfold dput
    split
    · rw [List.all_map]
      rw [List.all_eq_true] at this ⊢
      intro p hp
      show isKD (if keyQ p.1 (.str s) = true then (p.1, VL.D.int v) else p).1 = true
      split <;> exact this p hp
    · rw [List.all_append, this]; rfl
  · unfold dput
    have := h.len
    split
    · rw [List.length_map]; omega
    · rw [List.length_append]; show W.length + 1 ≤ _; omega
  · unfold dput
    split
    · have e : (W.map fun p => if keyQ p.1 (.str s) = true then (p.1, VL.D.int v) else p).map (·.1) = W.map (·.1) := by
        rw [List.map_map]
        refine List.map_congr_left fun p _ => ?_
        show (if keyQ p.1 (.str s) = true then (p.1, VL.D.int v) else p).1 = p.1
        split <;> rfl
      rw [e]; exact h.nd
    · rename_i hn
      rw [List.map_append, List.nodup_append]
      refine ⟨h.nd, by simp, fun a ha b hb e => ?_⟩
      obtain ⟨p, hp, rfl⟩ := List.mem_map.mp ha
      have e2 : b = .str s := by simpa using hb
      apply hn
      rw [List.any_eq_true]
      refine ⟨p, hp, ?_⟩
      rw [e, e2, keyQ_s, decide_eq_true rfl]
  · intro p hp
    unfold dput at hp
    split at hp
    · obtain ⟨q, hq, rfl⟩ := List.mem_map.mp hp
      split
      · rfl
      · exact h.fl q hq
    · rcases List.mem_append.mp hp with hp | hp
      · exact h.fl p hp
      · obtain rfl := List.mem_singleton.mp hp; rfl
  · rw [dget_dput] at hk
    split at hk
    · rename_i e; exact e ▸ hm
    · exact h.has k hk
  · rw [dget_dput]
    by_cases e : s = t
    · rw [if_pos e]; exact ⟨v, rfl, h1, h2⟩
    · rw [if_neg e]
      rcases Nat.lt_succ_iff_lt_or_eq.mp hj with hj | hj
      · exact h.val j t hj ht
      · subst hj
        rw [hs] at ht; cases ht
        exact absurd rfl e
theorem keys_ne {n0 : Str} {ns : List Str} {m k : Nat} (hn : ∀ s ∈ ns, Nm m s) (h0 : n0 ∈ ns) : (∀ s ∈ ns, fr n0 k ≠ s) ∧ ∀ s ∈ ns, fr n0 k ++ "i" ≠ s :=
  ⟨fun s hs => ne_len (by rw [fr_len, (hn s hs).len, (hn n0 h0).len]; omega), fun s hs => ne_len (by rw [fri_len, (hn s hs).len, (hn n0 h0).len]; omega)⟩
theorem DicI.none {ns : List Str} {i : Nat} {hi : Int} {W : List (VL.D × VL.D)} {k : Str} (h : DicI ns i hi W) (hk : ∀ s ∈ ns, k ≠ s) : dget W (.str k) = .none := by
  cases e : dget W (.str k) with
  | none => rfl
  | some d => exact absurd rfl (hk k (h.has k (by rw [e]; rfl)))
end Law

namespace Law
open PySem L2 VL
/-! rounds; the next entry -/
section
variable {N : NmP} {a b e : VL.D} {x y : Int} {da db : Nat}
def rwords : List Str := ["pour", "both", "either", "less", "notin", "left"]
theorem rounds_ok {n : Int} {nm : Str} {st : Sto} (ha : En N x da a) (hb : En N y db b) (hne : nm ≠ nm ++ "i") (hnl : nm.length ≤ 100) (h0 : ∀ w, ¬ N nm w) (h1 : ∀ w, ¬ N (nm ++ "i") w) :
    ∃ dz e S, f__law_rounds [.int n, a, b, .str nm] st = .ok e S ∧ Le st S ∧ En N x dz e := by
  obtain ⟨v, s, g, q, rfl, hq, hx1, hx2, h5⟩ := ha
  obtain ⟨M, hM⟩ : ∃ M : NmP, M = more N nm x := ⟨_, rfl⟩
  have NM : ∀ m w, N m w → M m w := fun m w h => by rw [hM]; exact .inr ⟨fun e => h0 w (e ▸ h), h⟩
  obtain ⟨fb, dfb, S1, f1, l1, hfb, _⟩ := fitted_ok (st := st) hb hx1 hx2
  have hF : En M x dfb fb := hfb.mono NM
  have hl : ∀ {M : NmP} {w : Int}, M nm w → Vw M (.tup [.str "name", .str nm]) w 1 0 := fun h => .name h
  have hL : En M x 0 (.tup [.tup [.str "name", .str nm], .int x, .int 1, .int 9, .int 0]) := ⟨_, _, _, _, rfl, rfl, hx1, hx2, hl (by rw [hM]; exact .inl ⟨rfl, rfl⟩)⟩
  obtain ⟨L, hLd⟩ : ∃ L, L = VL.D.tup [.tup [.str "name", .str nm], .int x, .int 1, .int 9, .int 0] := ⟨_, rfl⟩
  have hL' := hL
  rw [← hLd] at hL'
  obtain ⟨v0, hv0⟩ : ∃ v0, v0 = VL.D.tup [v, .int x, .int s, .int g, .int q] := ⟨_, rfl⟩
  have pre : ∃ A B dA dB, En M x dA A ∧ En M x dB B ∧ ∀ K : SF, seqS (setS 4 (tupA (consA (tupA (consA (cF (.str "name")) (consA (varF 3) nilA))) (consA (opF ixD (varF 1) (cF (.int 1))) (consA (cF (.int 1)) (consA (cF (.int 9)) (consA (cF (.int 0)) nilA)))))))
    (seqS (parS 5 6 (consA (varF 4) (consA (callF f__law_fitted (consA (varF 2) (consA (opF ixD (varF 1) (cF (.int 1))) nilA))) nilA)))
    (seqS (ifS (bF (opF eqD (opF modD (varF 0) (cF (.int 4))) (cF (.int 1)))) (parS 5 6 (consA (varF 6) (consA (varF 4) nilA))) nilS)
    (seqS (ifS (bF (opF eqD (opF modD (varF 0) (cF (.int 4))) (cF (.int 2)))) (setS 6 (varF 4)) nilS) K))) [some (.int n), some v0, some b, some (.str nm), none, none, none, none, none, none, none] st = K [some (.int n), some v0, some b, some (.str nm), some L, some A, some B, none, none, none, none] S1 := by
    have ix : ixD v0 (.int 1) st = .ok (.int x) st := by rw [hv0]; exact jx1
    have hc : n % 4 = 1 ∨ n % 4 = 2 ∨ (n % 4 ≠ 1 ∧ n % 4 ≠ 2) := by omega
    rcases hc with c | c | ⟨c, c'⟩
    · exact ⟨fb, L, _, _, hF, hL', fun K => by simp -implicitDefEqProofs +decide only [varF_ap, cF_ap, opF_ap, opK_ap, bF_ap, boolK_ap, andT_ap, andK_ap, orT_ap, orK_ap, notT_ap, notK_ap, yesT_ap, andV_ap, andVK_ap, orV_ap, orVK_ap, notV_ap, notVK_ap, ifF_ap, ifFK_ap, nilA_ap, consA_ap, consK_ap, consJ_ap, tupA_ap, lstA_ap, newO_ap, dicF_ap, callF_ap, un1_ap, methF_ap, nonO_ap, someO_ap, someK_ap, slF_ap, slK_ap, slJ_ap, itF_ap, itA_ap, nilS_ap, bkS_ap, ctS_ap, seqS_ap, seqK_nx, seqK_rt, seqK_bk, seqK_ct, dropS_ap, dropK_ap, retS_ap, retK_ap, retN_ap, ifS_ap, ifK_ap, setS_ap, setK_ap, asgS_ap, asgK_ap, asgJ_ap, nameG_ap, nilG_ap, consG_ap, consGK_ap, fnF_ap, fnK_nx, fnK_rt, forS_ap, forK_ap, negD_ap, addI_ap, varK_ap, startE, yes2, isN, List.map_cons, List.map_nil, List.length_cons, List.length_nil, List.replicate, List.append_nil, List.cons_append, List.nil_append, List.getElem?_cons_zero, List.getElem?_cons_succ, List.set_cons_zero, List.set_cons_succ, R.bind_ok, R.bind_ex, R.bind_bad, R.noex_ok, if_true, if_false, Bool.false_eq_true, Bool.true_eq_false, ite_true, ite_false, reduceIte, Nat.reduceAdd, Nat.reduceSub, Nat.zero_add, Nat.sub_self, Nat.sub_zero, decide_true, decide_false, Bool.not_true, Bool.not_false, subD_ap, ltD_ap, leD_ap, gtD_ap, geD_ap, mulD_ap, modD_ap, divD_ap, powD_ap, tupK_ok, lstK_ok, methK_ok, tupG_ok, eqS_t, eqS_f, neS_t, neS_f, eqI_ap, neI_ap, inT_nil, inT_hit, inT_miss, ne_eq, not_false_eq_true, parS_ap, parK_ap, ix, f1, c, hLd, sz (by decide : 2 ≤ 100), sz (by decide : 5 ≤ 100)]⟩
    · exact ⟨L, L, _, _, hL', hL', fun K => by simp -implicitDefEqProofs +decide only [varF_ap, cF_ap, opF_ap, opK_ap, bF_ap, boolK_ap, andT_ap, andK_ap, orT_ap, orK_ap, notT_ap, notK_ap, yesT_ap, andV_ap, andVK_ap, orV_ap, orVK_ap, notV_ap, notVK_ap, ifF_ap, ifFK_ap, nilA_ap, consA_ap, consK_ap, consJ_ap, tupA_ap, lstA_ap, newO_ap, dicF_ap, callF_ap, un1_ap, methF_ap, nonO_ap, someO_ap, someK_ap, slF_ap, slK_ap, slJ_ap, itF_ap, itA_ap, nilS_ap, bkS_ap, ctS_ap, seqS_ap, seqK_nx, seqK_rt, seqK_bk, seqK_ct, dropS_ap, dropK_ap, retS_ap, retK_ap, retN_ap, ifS_ap, ifK_ap, setS_ap, setK_ap, asgS_ap, asgK_ap, asgJ_ap, nameG_ap, nilG_ap, consG_ap, consGK_ap, fnF_ap, fnK_nx, fnK_rt, forS_ap, forK_ap, negD_ap, addI_ap, varK_ap, startE, yes2, isN, List.map_cons, List.map_nil, List.length_cons, List.length_nil, List.replicate, List.append_nil, List.cons_append, List.nil_append, List.getElem?_cons_zero, List.getElem?_cons_succ, List.set_cons_zero, List.set_cons_succ, R.bind_ok, R.bind_ex, R.bind_bad, R.noex_ok, if_true, if_false, Bool.false_eq_true, Bool.true_eq_false, ite_true, ite_false, reduceIte, Nat.reduceAdd, Nat.reduceSub, Nat.zero_add, Nat.sub_self, Nat.sub_zero, decide_true, decide_false, Bool.not_true, Bool.not_false, subD_ap, ltD_ap, leD_ap, gtD_ap, geD_ap, mulD_ap, modD_ap, divD_ap, powD_ap, tupK_ok, lstK_ok, methK_ok, tupG_ok, eqS_t, eqS_f, neS_t, neS_f, eqI_ap, neI_ap, inT_nil, inT_hit, inT_miss, ne_eq, not_false_eq_true, parS_ap, parK_ap, ix, f1, c, hLd, sz (by decide : 2 ≤ 100), sz (by decide : 5 ≤ 100)]⟩
    · exact ⟨L, fb, _, _, hL', hF, fun K => by simp -implicitDefEqProofs +decide only [varF_ap, cF_ap, opF_ap, opK_ap, bF_ap, boolK_ap, andT_ap, andK_ap, orT_ap, orK_ap, notT_ap, notK_ap, yesT_ap, andV_ap, andVK_ap, orV_ap, orVK_ap, notV_ap, notVK_ap, ifF_ap, ifFK_ap, nilA_ap, consA_ap, consK_ap, consJ_ap, tupA_ap, lstA_ap, newO_ap, dicF_ap, callF_ap, un1_ap, methF_ap, nonO_ap, someO_ap, someK_ap, slF_ap, slK_ap, slJ_ap, itF_ap, itA_ap, nilS_ap, bkS_ap, ctS_ap, seqS_ap, seqK_nx, seqK_rt, seqK_bk, seqK_ct, dropS_ap, dropK_ap, retS_ap, retK_ap, retN_ap, ifS_ap, ifK_ap, setS_ap, setK_ap, asgS_ap, asgK_ap, asgJ_ap, nameG_ap, nilG_ap, consG_ap, consGK_ap, fnF_ap, fnK_nx, fnK_rt, forS_ap, forK_ap, negD_ap, addI_ap, varK_ap, startE, yes2, isN, List.map_cons, List.map_nil, List.length_cons, List.length_nil, List.replicate, List.append_nil, List.cons_append, List.nil_append, List.getElem?_cons_zero, List.getElem?_cons_succ, List.set_cons_zero, List.set_cons_succ, R.bind_ok, R.bind_ex, R.bind_bad, R.noex_ok, if_true, if_false, Bool.false_eq_true, Bool.true_eq_false, ite_true, ite_false, reduceIte, Nat.reduceAdd, Nat.reduceSub, Nat.zero_add, Nat.sub_self, Nat.sub_zero, decide_true, decide_false, Bool.not_true, Bool.not_false, subD_ap, ltD_ap, leD_ap, gtD_ap, geD_ap, mulD_ap, modD_ap, divD_ap, powD_ap, tupK_ok, lstK_ok, methK_ok, tupG_ok, eqS_t, eqS_f, neS_t, neS_f, eqI_ap, neI_ap, inT_nil, inT_hit, inT_miss, ne_eq, not_false_eq_true, parS_ap, parK_ap, ix, f1, c, c', hLd, sz (by decide : 2 ≤ 100), sz (by decide : 5 ≤ 100)]⟩
  obtain ⟨A, B, dA, dB, hA, hB, pre⟩ := pre
  obtain ⟨k, hk5⟩ : ∃ k : Nat, n / 4 % 6 = k := ⟨(n / 4 % 6).toNat, by omega⟩
  obtain ⟨w, hw⟩ : ∃ w, rwords[k]? = some w := ⟨_, List.getElem?_eq_getElem (by show k < 6; omega)⟩
  have wm : w ∈ rwords := List.mem_of_getElem? hw
  have iw : ∀ S : Sto, ixD (.ref S.length) (.int (k : Int)) (S ++ [.lst [.str "pour", .str "both", .str "either", .str "less", .str "notin", .str "left"]]) = .ok (.str w) (S ++ [.lst [.str "pour", .str "both", .str "either", .str "less", .str "notin", .str "left"]]) := fun S => ixD_list listAt_last (by
    show (rwords.map VL.D.str)[k]? = _
    rw [List.getElem?_map, hw]; rfl)
  have ws : w ∈ seven := by
    simp only [rwords, seven, List.mem_cons, List.not_mem_nil, or_false] at *
    grind
  obtain ⟨z, dz0, e0, S2, t1, l2, hE0, hdz0, hzx⟩ := two_ok (n := n / 24) (st := S1 ++ [.lst [.str "pour", .str "both", .str "either", .str "less", .str "notin", .str "left"]]) ws hA hB
  obtain ⟨e, dz, S3, t2, l3, hE, hd⟩ := fitted_ok (st := S2) hE0 hx1 hx2
  have hdz : 1 ≤ dz := by omega
  have v20 : (24 : Int).natAbs.log2 < 9000 := by decide +kernel
  have v4 : (4 : Int).natAbs.log2 < 9000 := by decide +kernel
  have v7 : (7 : Int).natAbs.log2 < 9000 := by decide +kernel
  have v65 : (65 : Int).natAbs.log2 < 9000 := by decide +kernel
  have LL : Le st S3 := ((l1.trans (Le.app _ _)).trans l2).trans l3
  have ixv : ∀ S, ixD v0 (.int 1) S = .ok (.int x) S := fun S => by rw [hv0]; exact jx1
  obtain ⟨many, hmany⟩ : ∃ m, m = 1 + n / 65 % 6 := ⟨_, rfl⟩
  have sm : Sm 64 many := Sm.of (by omega) (show many < 7 by omega) (by decide)
  -- the inner view, whatever it be, put into the rounds
  have fin : ∀ u t i r di, r = ((di : Nat) : Int) → Vw M u x t di → En N x (1 + max da di) (.tup [.tup [.str "rounds", .str nm, .int many, v, u], .int x, .int (s + many * (2 + t)), .int (24 + g + i), .int (1 + max q r)]) := fun u t i r di hr hu =>
    ⟨_, _, _, _, rfl, by omega, hx1, hx2, .rounds (by omega) (by omega) h5 (hM ▸ hu)⟩
  have hc : n / 7 % 3 = 1 ∨ n / 7 % 3 = 2 ∨ (n / 7 % 3 ≠ 1 ∧ n / 7 % 3 ≠ 2) := by omega
  have hb0 : f__law_rounds [.int n, .tup [v, .int x, .int s, .int g, .int q], b, .str nm] st = (b__law_rounds [some (.int n), some v0, some b, some (.str nm), none, none, none, none, none, none, none] st).bind fnK := by rw [hv0]; rfl
  have e14 : ∀ t, VL.MulOk many t := mul_l sm
  rcases hc with c | c | ⟨c, c'⟩
  · obtain ⟨e', o1, hO⟩ := once_ok (st := S3) hE
    obtain ⟨u, t, i, r, rfl, hr, _, _, k5⟩ := hO
    refine ⟨_, _, S3, ?_, LL, fin u t i r _ hr k5⟩
    rw [hb0]
    unfold b__law_rounds
    rw [pre]
    simp -implicitDefEqProofs +decide only [varF_ap, cF_ap, opF_ap, opK_ap, bF_ap, boolK_ap, andT_ap, andK_ap, orT_ap, orK_ap, notT_ap, notK_ap, yesT_ap, andV_ap, andVK_ap, orV_ap, orVK_ap, notV_ap, notVK_ap, ifF_ap, ifFK_ap, nilA_ap, consA_ap, consK_ap, consJ_ap, tupA_ap, lstA_ap, newO_ap, dicF_ap, callF_ap, un1_ap, methF_ap, nonO_ap, someO_ap, someK_ap, slF_ap, slK_ap, slJ_ap, itF_ap, itA_ap, nilS_ap, bkS_ap, ctS_ap, seqS_ap, seqK_nx, seqK_rt, seqK_bk, seqK_ct, dropS_ap, dropK_ap, retS_ap, retK_ap, retN_ap, ifS_ap, ifK_ap, setS_ap, setK_ap, asgS_ap, asgK_ap, asgJ_ap, nameG_ap, nilG_ap, consG_ap, consGK_ap, fnF_ap, fnK_nx, fnK_rt, forS_ap, forK_ap, negD_ap, addI_ap, varK_ap, startE, yes2, isN, List.map_cons, List.map_nil, List.length_cons, List.length_nil, List.replicate, List.append_nil, List.cons_append, List.nil_append, List.getElem?_cons_zero, List.getElem?_cons_succ, List.set_cons_zero, List.set_cons_succ, R.bind_ok, R.bind_ex, R.bind_bad, R.noex_ok, if_true, if_false, Bool.false_eq_true, Bool.true_eq_false, ite_true, ite_false, reduceIte, Nat.reduceAdd, Nat.reduceSub, Nat.zero_add, Nat.sub_self, Nat.sub_zero, decide_true, decide_false, Bool.not_true, Bool.not_false, subD_ap, ltD_ap, leD_ap, gtD_ap, geD_ap, mulD_ap, modD_ap, divD_ap, powD_ap, tupK_ok, lstK_ok, methK_ok, tupG_ok, eqS_t, eqS_f, neS_t, neS_f, eqI_ap, neI_ap, inT_nil, inT_hit, inT_miss, ne_eq, not_false_eq_true, jx0, jx1, jx2, jx3, jx4, hk5, v4, v20, v7, v65, iw, t1, t2, ixv, c, o1, ← hmany, e14, maxD_ok, sz (by decide : 5 ≤ 100), sz (by decide : 6 ≤ 100)]
    subst hv0
    simp -implicitDefEqProofs +decide only [varF_ap, cF_ap, opF_ap, opK_ap, bF_ap, boolK_ap, andT_ap, andK_ap, orT_ap, orK_ap, notT_ap, notK_ap, yesT_ap, andV_ap, andVK_ap, orV_ap, orVK_ap, notV_ap, notVK_ap, ifF_ap, ifFK_ap, nilA_ap, consA_ap, consK_ap, consJ_ap, tupA_ap, lstA_ap, newO_ap, dicF_ap, callF_ap, un1_ap, methF_ap, nonO_ap, someO_ap, someK_ap, slF_ap, slK_ap, slJ_ap, itF_ap, itA_ap, nilS_ap, bkS_ap, ctS_ap, seqS_ap, seqK_nx, seqK_rt, seqK_bk, seqK_ct, dropS_ap, dropK_ap, retS_ap, retK_ap, retN_ap, ifS_ap, ifK_ap, setS_ap, setK_ap, asgS_ap, asgK_ap, asgJ_ap, nameG_ap, nilG_ap, consG_ap, consGK_ap, fnF_ap, fnK_nx, fnK_rt, forS_ap, forK_ap, negD_ap, addI_ap, varK_ap, startE, yes2, isN, List.map_cons, List.map_nil, List.length_cons, List.length_nil, List.replicate, List.append_nil, List.cons_append, List.nil_append, List.getElem?_cons_zero, List.getElem?_cons_succ, List.set_cons_zero, List.set_cons_succ, R.bind_ok, R.bind_ex, R.bind_bad, R.noex_ok, if_true, if_false, Bool.false_eq_true, Bool.true_eq_false, ite_true, ite_false, reduceIte, Nat.reduceAdd, Nat.reduceSub, Nat.zero_add, Nat.sub_self, Nat.sub_zero, decide_true, decide_false, Bool.not_true, Bool.not_false, subD_ap, ltD_ap, leD_ap, gtD_ap, geD_ap, mulD_ap, modD_ap, divD_ap, powD_ap, tupK_ok, lstK_ok, methK_ok, tupG_ok, eqS_t, eqS_f, neS_t, neS_f, eqI_ap, neI_ap, inT_nil, inT_hit, inT_miss, ne_eq, not_false_eq_true, jx0, jx1, jx2, jx3, jx4, e14, maxD_ok, sz (by decide : 5 ≤ 100)]
  · obtain ⟨u, t, i, r, rfl, hr, _, _, k5⟩ := hE
    have on : ∀ S, f__law_once [L] S = .ok (.tup [.tup [.str "once", .tup [.str "name", .str nm]], .int x, .int (1 + 1), .int (24 + 9), .int (1 + 0)]) S := fun S => by
      rw [hLd]; simp -implicitDefEqProofs +decide only [varF_ap, cF_ap, opF_ap, opK_ap, bF_ap, boolK_ap, andT_ap, andK_ap, orT_ap, orK_ap, notT_ap, notK_ap, yesT_ap, andV_ap, andVK_ap, orV_ap, orVK_ap, notV_ap, notVK_ap, ifF_ap, ifFK_ap, nilA_ap, consA_ap, consK_ap, consJ_ap, tupA_ap, lstA_ap, newO_ap, dicF_ap, callF_ap, un1_ap, methF_ap, nonO_ap, someO_ap, someK_ap, slF_ap, slK_ap, slJ_ap, itF_ap, itA_ap, nilS_ap, bkS_ap, ctS_ap, seqS_ap, seqK_nx, seqK_rt, seqK_bk, seqK_ct, dropS_ap, dropK_ap, retS_ap, retK_ap, retN_ap, ifS_ap, ifK_ap, setS_ap, setK_ap, asgS_ap, asgK_ap, asgJ_ap, nameG_ap, nilG_ap, consG_ap, consGK_ap, fnF_ap, fnK_nx, fnK_rt, forS_ap, forK_ap, negD_ap, addI_ap, varK_ap, startE, yes2, isN, List.map_cons, List.map_nil, List.length_cons, List.length_nil, List.replicate, List.append_nil, List.cons_append, List.nil_append, List.getElem?_cons_zero, List.getElem?_cons_succ, List.set_cons_zero, List.set_cons_succ, R.bind_ok, R.bind_ex, R.bind_bad, R.noex_ok, if_true, if_false, Bool.false_eq_true, Bool.true_eq_false, ite_true, ite_false, reduceIte, Nat.reduceAdd, Nat.reduceSub, Nat.zero_add, Nat.sub_self, Nat.sub_zero, decide_true, decide_false, Bool.not_true, Bool.not_false, subD_ap, ltD_ap, leD_ap, gtD_ap, geD_ap, mulD_ap, modD_ap, divD_ap, powD_ap, tupK_ok, lstK_ok, methK_ok, tupG_ok, eqS_t, eqS_f, neS_t, neS_f, eqI_ap, neI_ap, inT_nil, inT_hit, inT_miss, ne_eq, not_false_eq_true, f__law_once, b__law_once, jx0, jx1, jx2, jx3, jx4, sz (by decide : 2 ≤ 100), sz (by decide : 5 ≤ 100)]
    have ai : ∀ S, addD (.str nm) (.str "i") S = .ok (.str (nm ++ "i")) S := fun S => by
      simp only [addD]; rw [if_pos (by rw [sizeLine_eq']; show nm.length + 1 ≤ _; omega)]
    have m1 : (more M (nm ++ "i") x) nm x := .inr ⟨hne, by rw [hM]; exact .inl ⟨rfl, rfl⟩⟩
    have m2 : (more M (nm ++ "i") x) (nm ++ "i") x := .inl ⟨rfl, rfl⟩
    have le := Vw.same (w := "less") (by decide) (Vw.same (w := "either") (by decide) (Vw.name m1) (Vw.once (Vw.name m1))) (Vw.name m2)
    have lr := Vw.rounds (k := 2) (by decide) (by decide) k5 le
    have eq : t + 2 * (2 + (1 + (1 + 1 + (1 + 1)) + 1)) = t + 16 := by omega
    rw [eq] at lr
    refine ⟨_, _, S3, ?_, LL, fin _ (t + 16) (150 + i) (3 + r) (3 + dz) (by omega) (lr.ups (by omega))⟩
    rw [hb0]
    unfold b__law_rounds
    rw [pre]
    simp -implicitDefEqProofs +decide only [varF_ap, cF_ap, opF_ap, opK_ap, bF_ap, boolK_ap, andT_ap, andK_ap, orT_ap, orK_ap, notT_ap, notK_ap, yesT_ap, andV_ap, andVK_ap, orV_ap, orVK_ap, notV_ap, notVK_ap, ifF_ap, ifFK_ap, nilA_ap, consA_ap, consK_ap, consJ_ap, tupA_ap, lstA_ap, newO_ap, dicF_ap, callF_ap, un1_ap, methF_ap, nonO_ap, someO_ap, someK_ap, slF_ap, slK_ap, slJ_ap, itF_ap, itA_ap, nilS_ap, bkS_ap, ctS_ap, seqS_ap, seqK_nx, seqK_rt, seqK_bk, seqK_ct, dropS_ap, dropK_ap, retS_ap, retK_ap, retN_ap, ifS_ap, ifK_ap, setS_ap, setK_ap, asgS_ap, asgK_ap, asgJ_ap, nameG_ap, nilG_ap, consG_ap, consGK_ap, fnF_ap, fnK_nx, fnK_rt, forS_ap, forK_ap, negD_ap, addI_ap, varK_ap, startE, yes2, isN, List.map_cons, List.map_nil, List.length_cons, List.length_nil, List.replicate, List.append_nil, List.cons_append, List.nil_append, List.getElem?_cons_zero, List.getElem?_cons_succ, List.set_cons_zero, List.set_cons_succ, R.bind_ok, R.bind_ex, R.bind_bad, R.noex_ok, if_true, if_false, Bool.false_eq_true, Bool.true_eq_false, ite_true, ite_false, reduceIte, Nat.reduceAdd, Nat.reduceSub, Nat.zero_add, Nat.sub_self, Nat.sub_zero, decide_true, decide_false, Bool.not_true, Bool.not_false, subD_ap, ltD_ap, leD_ap, gtD_ap, geD_ap, mulD_ap, modD_ap, divD_ap, powD_ap, tupK_ok, lstK_ok, methK_ok, tupG_ok, eqS_t, eqS_f, neS_t, neS_f, eqI_ap, neI_ap, inT_nil, inT_hit, inT_miss, ne_eq, not_false_eq_true, jx0, jx1, jx2, jx3, jx4, hk5, v4, v20, v7, v65, iw, t1, t2, ixv, c, on, ai, ← hmany, e14, maxD_ok, sz (by decide : 5 ≤ 100), sz (by decide : 3 ≤ 100), sz (by decide : 2 ≤ 100), sz (by decide : 6 ≤ 100)]
    subst hv0
    simp -implicitDefEqProofs +decide only [varF_ap, cF_ap, opF_ap, opK_ap, bF_ap, boolK_ap, andT_ap, andK_ap, orT_ap, orK_ap, notT_ap, notK_ap, yesT_ap, andV_ap, andVK_ap, orV_ap, orVK_ap, notV_ap, notVK_ap, ifF_ap, ifFK_ap, nilA_ap, consA_ap, consK_ap, consJ_ap, tupA_ap, lstA_ap, newO_ap, dicF_ap, callF_ap, un1_ap, methF_ap, nonO_ap, someO_ap, someK_ap, slF_ap, slK_ap, slJ_ap, itF_ap, itA_ap, nilS_ap, bkS_ap, ctS_ap, seqS_ap, seqK_nx, seqK_rt, seqK_bk, seqK_ct, dropS_ap, dropK_ap, retS_ap, retK_ap, retN_ap, ifS_ap, ifK_ap, setS_ap, setK_ap, asgS_ap, asgK_ap, asgJ_ap, nameG_ap, nilG_ap, consG_ap, consGK_ap, fnF_ap, fnK_nx, fnK_rt, forS_ap, forK_ap, negD_ap, addI_ap, varK_ap, startE, yes2, isN, List.map_cons, List.map_nil, List.length_cons, List.length_nil, List.replicate, List.append_nil, List.cons_append, List.nil_append, List.getElem?_cons_zero, List.getElem?_cons_succ, List.set_cons_zero, List.set_cons_succ, R.bind_ok, R.bind_ex, R.bind_bad, R.noex_ok, if_true, if_false, Bool.false_eq_true, Bool.true_eq_false, ite_true, ite_false, reduceIte, Nat.reduceAdd, Nat.reduceSub, Nat.zero_add, Nat.sub_self, Nat.sub_zero, decide_true, decide_false, Bool.not_true, Bool.not_false, subD_ap, ltD_ap, leD_ap, gtD_ap, geD_ap, mulD_ap, modD_ap, divD_ap, powD_ap, tupK_ok, lstK_ok, methK_ok, tupG_ok, eqS_t, eqS_f, neS_t, neS_f, eqI_ap, neI_ap, inT_nil, inT_hit, inT_miss, ne_eq, not_false_eq_true, jx0, jx1, jx2, jx3, jx4, e14, maxD_ok, sz (by decide : 5 ≤ 100)]
  · obtain ⟨u, t, i, r, rfl, hr, _, _, k5⟩ := hE
    refine ⟨_, _, S3, ?_, LL, fin u t i r _ hr k5⟩
    rw [hb0]
    unfold b__law_rounds
    rw [pre]
    simp -implicitDefEqProofs +decide only [varF_ap, cF_ap, opF_ap, opK_ap, bF_ap, boolK_ap, andT_ap, andK_ap, orT_ap, orK_ap, notT_ap, notK_ap, yesT_ap, andV_ap, andVK_ap, orV_ap, orVK_ap, notV_ap, notVK_ap, ifF_ap, ifFK_ap, nilA_ap, consA_ap, consK_ap, consJ_ap, tupA_ap, lstA_ap, newO_ap, dicF_ap, callF_ap, un1_ap, methF_ap, nonO_ap, someO_ap, someK_ap, slF_ap, slK_ap, slJ_ap, itF_ap, itA_ap, nilS_ap, bkS_ap, ctS_ap, seqS_ap, seqK_nx, seqK_rt, seqK_bk, seqK_ct, dropS_ap, dropK_ap, retS_ap, retK_ap, retN_ap, ifS_ap, ifK_ap, setS_ap, setK_ap, asgS_ap, asgK_ap, asgJ_ap, nameG_ap, nilG_ap, consG_ap, consGK_ap, fnF_ap, fnK_nx, fnK_rt, forS_ap, forK_ap, negD_ap, addI_ap, varK_ap, startE, yes2, isN, List.map_cons, List.map_nil, List.length_cons, List.length_nil, List.replicate, List.append_nil, List.cons_append, List.nil_append, List.getElem?_cons_zero, List.getElem?_cons_succ, List.set_cons_zero, List.set_cons_succ, R.bind_ok, R.bind_ex, R.bind_bad, R.noex_ok, if_true, if_false, Bool.false_eq_true, Bool.true_eq_false, ite_true, ite_false, reduceIte, Nat.reduceAdd, Nat.reduceSub, Nat.zero_add, Nat.sub_self, Nat.sub_zero, decide_true, decide_false, Bool.not_true, Bool.not_false, subD_ap, ltD_ap, leD_ap, gtD_ap, geD_ap, mulD_ap, modD_ap, divD_ap, powD_ap, tupK_ok, lstK_ok, methK_ok, tupG_ok, eqS_t, eqS_f, neS_t, neS_f, eqI_ap, neI_ap, inT_nil, inT_hit, inT_miss, ne_eq, not_false_eq_true, jx0, jx1, jx2, jx3, jx4, hk5, v4, v20, v7, v65, iw, t1, t2, ixv, c, c', ← hmany, e14, maxD_ok, sz (by decide : 5 ≤ 100), sz (by decide : 6 ≤ 100)]
    subst hv0
    simp -implicitDefEqProofs +decide only [varF_ap, cF_ap, opF_ap, opK_ap, bF_ap, boolK_ap, andT_ap, andK_ap, orT_ap, orK_ap, notT_ap, notK_ap, yesT_ap, andV_ap, andVK_ap, orV_ap, orVK_ap, notV_ap, notVK_ap, ifF_ap, ifFK_ap, nilA_ap, consA_ap, consK_ap, consJ_ap, tupA_ap, lstA_ap, newO_ap, dicF_ap, callF_ap, un1_ap, methF_ap, nonO_ap, someO_ap, someK_ap, slF_ap, slK_ap, slJ_ap, itF_ap, itA_ap, nilS_ap, bkS_ap, ctS_ap, seqS_ap, seqK_nx, seqK_rt, seqK_bk, seqK_ct, dropS_ap, dropK_ap, retS_ap, retK_ap, retN_ap, ifS_ap, ifK_ap, setS_ap, setK_ap, asgS_ap, asgK_ap, asgJ_ap, nameG_ap, nilG_ap, consG_ap, consGK_ap, fnF_ap, fnK_nx, fnK_rt, forS_ap, forK_ap, negD_ap, addI_ap, varK_ap, startE, yes2, isN, List.map_cons, List.map_nil, List.length_cons, List.length_nil, List.replicate, List.append_nil, List.cons_append, List.nil_append, List.getElem?_cons_zero, List.getElem?_cons_succ, List.set_cons_zero, List.set_cons_succ, R.bind_ok, R.bind_ex, R.bind_bad, R.noex_ok, if_true, if_false, Bool.false_eq_true, Bool.true_eq_false, ite_true, ite_false, reduceIte, Nat.reduceAdd, Nat.reduceSub, Nat.zero_add, Nat.sub_self, Nat.sub_zero, decide_true, decide_false, Bool.not_true, Bool.not_false, subD_ap, ltD_ap, leD_ap, gtD_ap, geD_ap, mulD_ap, modD_ap, divD_ap, powD_ap, tupK_ok, lstK_ok, methK_ok, tupG_ok, eqS_t, eqS_f, neS_t, neS_f, eqI_ap, neI_ap, inT_nil, inT_hit, inT_miss, ne_eq, not_false_eq_true, jx0, jx1, jx2, jx3, jx4, e14, maxD_ok, sz (by decide : 5 ≤ 100)]
theorem next_ok {c n : Int} {nm : Str} {st : Sto} (hc2 : 2 ≤ c % 18) (ha : En N x da a) (hb : En N y db b) (hne : nm ≠ nm ++ "i") (hnl : nm.length ≤ 100) (h0 : ∀ w, ¬ N nm w) (h1 : ∀ w, ¬ N (nm ++ "i") w) :
    ∃ z dz e S, f__law_next [.int c, .int n, a, b, .str nm] st = .ok e S ∧ Le st S ∧ En N z dz e := by
  obtain ⟨k, hk16⟩ : ∃ k : Nat, c % 18 - 2 = k := ⟨(c % 18 - 2).toNat, by omega⟩
  obtain ⟨w, hw⟩ : ∃ w, sixteen[k]? = some w := ⟨_, List.getElem?_eq_getElem (by show k < 16; omega)⟩
  have wm : w ∈ sixteen := List.mem_of_getElem? hw
  have v18 : (18 : Int).natAbs.log2 < 9000 := by decide +kernel
  have iw : ∀ S : Sto, ixD (.ref S.length) (.int (k : Int)) (S ++ [.lst (sixteen.map .str)]) = .ok (.str w) (S ++ [.lst (sixteen.map .str)]) := fun S => ixD_list listAt_last (by
    rw [List.getElem?_map, hw]; rfl)
  simp only [sixteen, List.map_cons, List.map_nil] at iw
  -- the pair, swapped or not
  have go : ∀ (a b : VL.D) (x y : Int) (da db : Nat), En N x da a → En N y db b → ∀ K : VL.D → Sto → Prop, (∀ z dz e S, Le st S → En N z dz e → K e S) →
      (w = "rounds" → ∃ e S, f__law_rounds [.int n, a, b, .str nm] (st ++ [.lst (sixteen.map .str)]) = .ok e S ∧ K e S) ∧ (w ∈ seven → ∃ e S, f__law_two [.int n, .str w, a, b] (st ++ [.lst (sixteen.map .str)]) = .ok e S ∧ K e S) ∧ (w ∈ eight → ∃ e S, f__law_one [.int n, .str w, a] (st ++ [.lst (sixteen.map .str)]) = .ok e S ∧ K e S) := by
    intro a b x y da db ha hb K hK
    have l0 : Le st (st ++ [.lst (sixteen.map .str)]) := Le.app _ _
    refine ⟨fun _ => ?_, fun h => ?_, fun h => ?_⟩
    · obtain ⟨dz, e, S, q1, q2, q3⟩ := rounds_ok (n := n) (st := st ++ [.lst (sixteen.map .str)]) ha hb hne hnl h0 h1
      exact ⟨e, S, q1, hK _ _ _ _ (l0.trans q2) q3⟩
    · obtain ⟨z, dz, e, S, q1, q2, q3, _⟩ := two_ok (n := n) (st := st ++ [.lst (sixteen.map .str)]) h ha hb
      exact ⟨e, S, q1, hK _ _ _ _ (l0.trans q2) q3⟩
    · obtain ⟨z, dz, e, S, q1, q2, q3⟩ := one_ok (n := n) (st := st ++ [.lst (sixteen.map .str)]) h ha
      exact ⟨e, S, q1, hK _ _ _ _ (l0.trans q2) q3⟩
  have hs : c / 18 % 2 = 1 ∨ c / 18 % 2 = 0 := by omega
  have word : w = "rounds" ∨ (w ∈ seven ∧ w ≠ "rounds") ∨ (w ∈ eight ∧ w ≠ "rounds" ∧ ∀ u ∈ seven, w ≠ u) := by
    simp only [sixteen, List.mem_cons, List.not_mem_nil, or_false] at wm
    rcases wm with rfl | rfl | rfl | rfl | rfl | rfl | rfl | rfl | rfl | rfl | rfl | rfl | rfl | rfl | rfl | rfl <;> decide
  have sw : ∀ w : Str, w ∈ seven → ∀ S : Sto, inSq false (.str w) (.tup [.str "join", .str "left", .str "notin", .str "pour", .str "both", .str "either", .str "less"]) S = .ok (.bl true) S := fun w h S => by
    simp only [seven, List.mem_cons, List.not_mem_nil, or_false] at h
    rcases h with rfl | rfl | rfl | rfl | rfl | rfl | rfl <;> simp -implicitDefEqProofs +decide only [varF_ap, cF_ap, opF_ap, opK_ap, bF_ap, boolK_ap, andT_ap, andK_ap, orT_ap, orK_ap, notT_ap, notK_ap, yesT_ap, andV_ap, andVK_ap, orV_ap, orVK_ap, notV_ap, notVK_ap, ifF_ap, ifFK_ap, nilA_ap, consA_ap, consK_ap, consJ_ap, tupA_ap, lstA_ap, newO_ap, dicF_ap, callF_ap, un1_ap, methF_ap, nonO_ap, someO_ap, someK_ap, slF_ap, slK_ap, slJ_ap, itF_ap, itA_ap, nilS_ap, bkS_ap, ctS_ap, seqS_ap, seqK_nx, seqK_rt, seqK_bk, seqK_ct, dropS_ap, dropK_ap, retS_ap, retK_ap, retN_ap, ifS_ap, ifK_ap, setS_ap, setK_ap, asgS_ap, asgK_ap, asgJ_ap, nameG_ap, nilG_ap, consG_ap, consGK_ap, fnF_ap, fnK_nx, fnK_rt, forS_ap, forK_ap, negD_ap, addI_ap, varK_ap, startE, yes2, isN, List.map_cons, List.map_nil, List.length_cons, List.length_nil, List.replicate, List.append_nil, List.cons_append, List.nil_append, List.getElem?_cons_zero, List.getElem?_cons_succ, List.set_cons_zero, List.set_cons_succ, R.bind_ok, R.bind_ex, R.bind_bad, R.noex_ok, if_true, if_false, Bool.false_eq_true, Bool.true_eq_false, ite_true, ite_false, reduceIte, Nat.reduceAdd, Nat.reduceSub, Nat.zero_add, Nat.sub_self, Nat.sub_zero, decide_true, decide_false, Bool.not_true, Bool.not_false, subD_ap, ltD_ap, leD_ap, gtD_ap, geD_ap, mulD_ap, modD_ap, divD_ap, powD_ap, tupK_ok, lstK_ok, methK_ok, tupG_ok, eqS_t, eqS_f, neS_t, neS_f, eqI_ap, neI_ap, inT_nil, inT_hit, inT_miss, ne_eq, not_false_eq_true]
  have sn : (∀ u ∈ seven, w ≠ u) → ∀ S : Sto, inSq false (.str w) (.tup [.str "join", .str "left", .str "notin", .str "pour", .str "both", .str "either", .str "less"]) S = .ok (.bl false) S := fun h S => by
    simp only [seven, List.mem_cons, List.not_mem_nil, or_false, forall_eq_or_imp, forall_eq] at h
    obtain ⟨n1, n2, n3, n4, n5, n6, n7⟩ := h
    simp -implicitDefEqProofs +decide only [varF_ap, cF_ap, opF_ap, opK_ap, bF_ap, boolK_ap, andT_ap, andK_ap, orT_ap, orK_ap, notT_ap, notK_ap, yesT_ap, andV_ap, andVK_ap, orV_ap, orVK_ap, notV_ap, notVK_ap, ifF_ap, ifFK_ap, nilA_ap, consA_ap, consK_ap, consJ_ap, tupA_ap, lstA_ap, newO_ap, dicF_ap, callF_ap, un1_ap, methF_ap, nonO_ap, someO_ap, someK_ap, slF_ap, slK_ap, slJ_ap, itF_ap, itA_ap, nilS_ap, bkS_ap, ctS_ap, seqS_ap, seqK_nx, seqK_rt, seqK_bk, seqK_ct, dropS_ap, dropK_ap, retS_ap, retK_ap, retN_ap, ifS_ap, ifK_ap, setS_ap, setK_ap, asgS_ap, asgK_ap, asgJ_ap, nameG_ap, nilG_ap, consG_ap, consGK_ap, fnF_ap, fnK_nx, fnK_rt, forS_ap, forK_ap, negD_ap, addI_ap, varK_ap, startE, yes2, isN, List.map_cons, List.map_nil, List.length_cons, List.length_nil, List.replicate, List.append_nil, List.cons_append, List.nil_append, List.getElem?_cons_zero, List.getElem?_cons_succ, List.set_cons_zero, List.set_cons_succ, R.bind_ok, R.bind_ex, R.bind_bad, R.noex_ok, if_true, if_false, Bool.false_eq_true, Bool.true_eq_false, ite_true, ite_false, reduceIte, Nat.reduceAdd, Nat.reduceSub, Nat.zero_add, Nat.sub_self, Nat.sub_zero, decide_true, decide_false, Bool.not_true, Bool.not_false, subD_ap, ltD_ap, leD_ap, gtD_ap, geD_ap, mulD_ap, modD_ap, divD_ap, powD_ap, tupK_ok, lstK_ok, methK_ok, tupG_ok, eqS_t, eqS_f, neS_t, neS_f, eqI_ap, neI_ap, inT_nil, inT_hit, inT_miss, ne_eq, not_false_eq_true, n1, n2, n3, n4, n5, n6, n7]
  rcases hs with hs | hs
  · obtain ⟨g1, g2, g3⟩ := go b a y x db da hb ha (fun e S => ∃ z dz, Le st S ∧ En N z dz e) fun z dz e S q1 q2 => ⟨z, dz, q1, q2⟩
    simp only [sixteen, List.map_cons, List.map_nil] at g1 g2 g3
    rcases word with h | ⟨h, h'⟩ | ⟨h, h', h''⟩
    · obtain ⟨e, S, r1, z, dz, r2, r3⟩ := g1 h
      subst h
      exact ⟨z, dz, e, S, by simp -implicitDefEqProofs +decide only [varF_ap, cF_ap, opF_ap, opK_ap, bF_ap, boolK_ap, andT_ap, andK_ap, orT_ap, orK_ap, notT_ap, notK_ap, yesT_ap, andV_ap, andVK_ap, orV_ap, orVK_ap, notV_ap, notVK_ap, ifF_ap, ifFK_ap, nilA_ap, consA_ap, consK_ap, consJ_ap, tupA_ap, lstA_ap, newO_ap, dicF_ap, callF_ap, un1_ap, methF_ap, nonO_ap, someO_ap, someK_ap, slF_ap, slK_ap, slJ_ap, itF_ap, itA_ap, nilS_ap, bkS_ap, ctS_ap, seqS_ap, seqK_nx, seqK_rt, seqK_bk, seqK_ct, dropS_ap, dropK_ap, retS_ap, retK_ap, retN_ap, ifS_ap, ifK_ap, setS_ap, setK_ap, asgS_ap, asgK_ap, asgJ_ap, nameG_ap, nilG_ap, consG_ap, consGK_ap, fnF_ap, fnK_nx, fnK_rt, forS_ap, forK_ap, negD_ap, addI_ap, varK_ap, startE, yes2, isN, List.map_cons, List.map_nil, List.length_cons, List.length_nil, List.replicate, List.append_nil, List.cons_append, List.nil_append, List.getElem?_cons_zero, List.getElem?_cons_succ, List.set_cons_zero, List.set_cons_succ, R.bind_ok, R.bind_ex, R.bind_bad, R.noex_ok, if_true, if_false, Bool.false_eq_true, Bool.true_eq_false, ite_true, ite_false, reduceIte, Nat.reduceAdd, Nat.reduceSub, Nat.zero_add, Nat.sub_self, Nat.sub_zero, decide_true, decide_false, Bool.not_true, Bool.not_false, subD_ap, ltD_ap, leD_ap, gtD_ap, geD_ap, mulD_ap, modD_ap, divD_ap, powD_ap, tupK_ok, lstK_ok, methK_ok, tupG_ok, eqS_t, eqS_f, neS_t, neS_f, eqI_ap, neI_ap, inT_nil, inT_hit, inT_miss, ne_eq, not_false_eq_true, f__law_next, b__law_next, parS_ap, parK_ap, hk16, v18, iw, hs, r1, sz (by decide : 16 ≤ 100)], r2, r3⟩
    · obtain ⟨e, S, r1, z, dz, r2, r3⟩ := g2 h
      exact ⟨z, dz, e, S, by simp -implicitDefEqProofs +decide only [varF_ap, cF_ap, opF_ap, opK_ap, bF_ap, boolK_ap, andT_ap, andK_ap, orT_ap, orK_ap, notT_ap, notK_ap, yesT_ap, andV_ap, andVK_ap, orV_ap, orVK_ap, notV_ap, notVK_ap, ifF_ap, ifFK_ap, nilA_ap, consA_ap, consK_ap, consJ_ap, tupA_ap, lstA_ap, newO_ap, dicF_ap, callF_ap, un1_ap, methF_ap, nonO_ap, someO_ap, someK_ap, slF_ap, slK_ap, slJ_ap, itF_ap, itA_ap, nilS_ap, bkS_ap, ctS_ap, seqS_ap, seqK_nx, seqK_rt, seqK_bk, seqK_ct, dropS_ap, dropK_ap, retS_ap, retK_ap, retN_ap, ifS_ap, ifK_ap, setS_ap, setK_ap, asgS_ap, asgK_ap, asgJ_ap, nameG_ap, nilG_ap, consG_ap, consGK_ap, fnF_ap, fnK_nx, fnK_rt, forS_ap, forK_ap, negD_ap, addI_ap, varK_ap, startE, yes2, isN, List.map_cons, List.map_nil, List.length_cons, List.length_nil, List.replicate, List.append_nil, List.cons_append, List.nil_append, List.getElem?_cons_zero, List.getElem?_cons_succ, List.set_cons_zero, List.set_cons_succ, R.bind_ok, R.bind_ex, R.bind_bad, R.noex_ok, if_true, if_false, Bool.false_eq_true, Bool.true_eq_false, ite_true, ite_false, reduceIte, Nat.reduceAdd, Nat.reduceSub, Nat.zero_add, Nat.sub_self, Nat.sub_zero, decide_true, decide_false, Bool.not_true, Bool.not_false, subD_ap, ltD_ap, leD_ap, gtD_ap, geD_ap, mulD_ap, modD_ap, divD_ap, powD_ap, tupK_ok, lstK_ok, methK_ok, tupG_ok, eqS_t, eqS_f, neS_t, neS_f, eqI_ap, neI_ap, inT_nil, inT_hit, inT_miss, ne_eq, not_false_eq_true, f__law_next, b__law_next, parS_ap, parK_ap, hk16, v18, iw, hs, r1, h', sw w h, sz (by decide : 16 ≤ 100), sz (by decide : 7 ≤ 100)], r2, r3⟩
    · obtain ⟨e, S, r1, z, dz, r2, r3⟩ := g3 h
      exact ⟨z, dz, e, S, by simp -implicitDefEqProofs +decide only [varF_ap, cF_ap, opF_ap, opK_ap, bF_ap, boolK_ap, andT_ap, andK_ap, orT_ap, orK_ap, notT_ap, notK_ap, yesT_ap, andV_ap, andVK_ap, orV_ap, orVK_ap, notV_ap, notVK_ap, ifF_ap, ifFK_ap, nilA_ap, consA_ap, consK_ap, consJ_ap, tupA_ap, lstA_ap, newO_ap, dicF_ap, callF_ap, un1_ap, methF_ap, nonO_ap, someO_ap, someK_ap, slF_ap, slK_ap, slJ_ap, itF_ap, itA_ap, nilS_ap, bkS_ap, ctS_ap, seqS_ap, seqK_nx, seqK_rt, seqK_bk, seqK_ct, dropS_ap, dropK_ap, retS_ap, retK_ap, retN_ap, ifS_ap, ifK_ap, setS_ap, setK_ap, asgS_ap, asgK_ap, asgJ_ap, nameG_ap, nilG_ap, consG_ap, consGK_ap, fnF_ap, fnK_nx, fnK_rt, forS_ap, forK_ap, negD_ap, addI_ap, varK_ap, startE, yes2, isN, List.map_cons, List.map_nil, List.length_cons, List.length_nil, List.replicate, List.append_nil, List.cons_append, List.nil_append, List.getElem?_cons_zero, List.getElem?_cons_succ, List.set_cons_zero, List.set_cons_succ, R.bind_ok, R.bind_ex, R.bind_bad, R.noex_ok, if_true, if_false, Bool.false_eq_true, Bool.true_eq_false, ite_true, ite_false, reduceIte, Nat.reduceAdd, Nat.reduceSub, Nat.zero_add, Nat.sub_self, Nat.sub_zero, decide_true, decide_false, Bool.not_true, Bool.not_false, subD_ap, ltD_ap, leD_ap, gtD_ap, geD_ap, mulD_ap, modD_ap, divD_ap, powD_ap, tupK_ok, lstK_ok, methK_ok, tupG_ok, eqS_t, eqS_f, neS_t, neS_f, eqI_ap, neI_ap, inT_nil, inT_hit, inT_miss, ne_eq, not_false_eq_true, f__law_next, b__law_next, parS_ap, parK_ap, hk16, v18, iw, hs, r1, h', sn h'', sz (by decide : 16 ≤ 100), sz (by decide : 7 ≤ 100)], r2, r3⟩
  · obtain ⟨g1, g2, g3⟩ := go a b x y da db ha hb (fun e S => ∃ z dz, Le st S ∧ En N z dz e) fun z dz e S q1 q2 => ⟨z, dz, q1, q2⟩
    simp only [sixteen, List.map_cons, List.map_nil] at g1 g2 g3
    rcases word with h | ⟨h, h'⟩ | ⟨h, h', h''⟩
    · obtain ⟨e, S, r1, z, dz, r2, r3⟩ := g1 h
      subst h
      exact ⟨z, dz, e, S, by simp -implicitDefEqProofs +decide only [varF_ap, cF_ap, opF_ap, opK_ap, bF_ap, boolK_ap, andT_ap, andK_ap, orT_ap, orK_ap, notT_ap, notK_ap, yesT_ap, andV_ap, andVK_ap, orV_ap, orVK_ap, notV_ap, notVK_ap, ifF_ap, ifFK_ap, nilA_ap, consA_ap, consK_ap, consJ_ap, tupA_ap, lstA_ap, newO_ap, dicF_ap, callF_ap, un1_ap, methF_ap, nonO_ap, someO_ap, someK_ap, slF_ap, slK_ap, slJ_ap, itF_ap, itA_ap, nilS_ap, bkS_ap, ctS_ap, seqS_ap, seqK_nx, seqK_rt, seqK_bk, seqK_ct, dropS_ap, dropK_ap, retS_ap, retK_ap, retN_ap, ifS_ap, ifK_ap, setS_ap, setK_ap, asgS_ap, asgK_ap, asgJ_ap, nameG_ap, nilG_ap, consG_ap, consGK_ap, fnF_ap, fnK_nx, fnK_rt, forS_ap, forK_ap, negD_ap, addI_ap, varK_ap, startE, yes2, isN, List.map_cons, List.map_nil, List.length_cons, List.length_nil, List.replicate, List.append_nil, List.cons_append, List.nil_append, List.getElem?_cons_zero, List.getElem?_cons_succ, List.set_cons_zero, List.set_cons_succ, R.bind_ok, R.bind_ex, R.bind_bad, R.noex_ok, if_true, if_false, Bool.false_eq_true, Bool.true_eq_false, ite_true, ite_false, reduceIte, Nat.reduceAdd, Nat.reduceSub, Nat.zero_add, Nat.sub_self, Nat.sub_zero, decide_true, decide_false, Bool.not_true, Bool.not_false, subD_ap, ltD_ap, leD_ap, gtD_ap, geD_ap, mulD_ap, modD_ap, divD_ap, powD_ap, tupK_ok, lstK_ok, methK_ok, tupG_ok, eqS_t, eqS_f, neS_t, neS_f, eqI_ap, neI_ap, inT_nil, inT_hit, inT_miss, ne_eq, not_false_eq_true, f__law_next, b__law_next, parS_ap, parK_ap, hk16, v18, iw, hs, r1, sz (by decide : 16 ≤ 100)], r2, r3⟩
    · obtain ⟨e, S, r1, z, dz, r2, r3⟩ := g2 h
      exact ⟨z, dz, e, S, by simp -implicitDefEqProofs +decide only [varF_ap, cF_ap, opF_ap, opK_ap, bF_ap, boolK_ap, andT_ap, andK_ap, orT_ap, orK_ap, notT_ap, notK_ap, yesT_ap, andV_ap, andVK_ap, orV_ap, orVK_ap, notV_ap, notVK_ap, ifF_ap, ifFK_ap, nilA_ap, consA_ap, consK_ap, consJ_ap, tupA_ap, lstA_ap, newO_ap, dicF_ap, callF_ap, un1_ap, methF_ap, nonO_ap, someO_ap, someK_ap, slF_ap, slK_ap, slJ_ap, itF_ap, itA_ap, nilS_ap, bkS_ap, ctS_ap, seqS_ap, seqK_nx, seqK_rt, seqK_bk, seqK_ct, dropS_ap, dropK_ap, retS_ap, retK_ap, retN_ap, ifS_ap, ifK_ap, setS_ap, setK_ap, asgS_ap, asgK_ap, asgJ_ap, nameG_ap, nilG_ap, consG_ap, consGK_ap, fnF_ap, fnK_nx, fnK_rt, forS_ap, forK_ap, negD_ap, addI_ap, varK_ap, startE, yes2, isN, List.map_cons, List.map_nil, List.length_cons, List.length_nil, List.replicate, List.append_nil, List.cons_append, List.nil_append, List.getElem?_cons_zero, List.getElem?_cons_succ, List.set_cons_zero, List.set_cons_succ, R.bind_ok, R.bind_ex, R.bind_bad, R.noex_ok, if_true, if_false, Bool.false_eq_true, Bool.true_eq_false, ite_true, ite_false, reduceIte, Nat.reduceAdd, Nat.reduceSub, Nat.zero_add, Nat.sub_self, Nat.sub_zero, decide_true, decide_false, Bool.not_true, Bool.not_false, subD_ap, ltD_ap, leD_ap, gtD_ap, geD_ap, mulD_ap, modD_ap, divD_ap, powD_ap, tupK_ok, lstK_ok, methK_ok, tupG_ok, eqS_t, eqS_f, neS_t, neS_f, eqI_ap, neI_ap, inT_nil, inT_hit, inT_miss, ne_eq, not_false_eq_true, f__law_next, b__law_next, parS_ap, parK_ap, hk16, v18, iw, hs, r1, h', sw w h, sz (by decide : 16 ≤ 100), sz (by decide : 7 ≤ 100)], r2, r3⟩
    · obtain ⟨e, S, r1, z, dz, r2, r3⟩ := g3 h
      exact ⟨z, dz, e, S, by simp -implicitDefEqProofs +decide only [varF_ap, cF_ap, opF_ap, opK_ap, bF_ap, boolK_ap, andT_ap, andK_ap, orT_ap, orK_ap, notT_ap, notK_ap, yesT_ap, andV_ap, andVK_ap, orV_ap, orVK_ap, notV_ap, notVK_ap, ifF_ap, ifFK_ap, nilA_ap, consA_ap, consK_ap, consJ_ap, tupA_ap, lstA_ap, newO_ap, dicF_ap, callF_ap, un1_ap, methF_ap, nonO_ap, someO_ap, someK_ap, slF_ap, slK_ap, slJ_ap, itF_ap, itA_ap, nilS_ap, bkS_ap, ctS_ap, seqS_ap, seqK_nx, seqK_rt, seqK_bk, seqK_ct, dropS_ap, dropK_ap, retS_ap, retK_ap, retN_ap, ifS_ap, ifK_ap, setS_ap, setK_ap, asgS_ap, asgK_ap, asgJ_ap, nameG_ap, nilG_ap, consG_ap, consGK_ap, fnF_ap, fnK_nx, fnK_rt, forS_ap, forK_ap, negD_ap, addI_ap, varK_ap, startE, yes2, isN, List.map_cons, List.map_nil, List.length_cons, List.length_nil, List.replicate, List.append_nil, List.cons_append, List.nil_append, List.getElem?_cons_zero, List.getElem?_cons_succ, List.set_cons_zero, List.set_cons_succ, R.bind_ok, R.bind_ex, R.bind_bad, R.noex_ok, if_true, if_false, Bool.false_eq_true, Bool.true_eq_false, ite_true, ite_false, reduceIte, Nat.reduceAdd, Nat.reduceSub, Nat.zero_add, Nat.sub_self, Nat.sub_zero, decide_true, decide_false, Bool.not_true, Bool.not_false, subD_ap, ltD_ap, leD_ap, gtD_ap, geD_ap, mulD_ap, modD_ap, divD_ap, powD_ap, tupK_ok, lstK_ok, methK_ok, tupG_ok, eqS_t, eqS_f, neS_t, neS_f, eqI_ap, neI_ap, inT_nil, inT_hit, inT_miss, ne_eq, not_false_eq_true, f__law_next, b__law_next, parS_ap, parK_ap, hk16, v18, iw, hs, r1, h', sn h'', sz (by decide : 16 ≤ 100), sz (by decide : 7 ≤ 100)], r2, r3⟩
end
end Law

namespace Law
open PySem L2 VL
/-! laying: plain data, the net's state, put -/
def Pl (B : Prop) : Nat → VL.D → Prop
  | 0, _ => False
  | n + 1, d => (∃ i, d = .int i) ∨ (B ∧ ∃ b, d = .bl b) ∨ (∃ s, d = .str s) ∨ ∃ xs, d = .tup xs ∧ xs.length ≤ 1000 ∧ ∀ x ∈ xs, Pl B n x
section
variable {B : Prop} {n m : Nat} {d : VL.D}
theorem Pl.succ : ∀ {n : Nat} {d : VL.D}, Pl B n d → Pl B (n + 1) d
  | 0, _, h => by cases h
  | n + 1, d, h => by
    rcases h with h | h | h | ⟨xs, h1, h2, h3⟩
    · exact .inl h
    · exact .inr (.inl h)
    · exact .inr (.inr (.inl h))
    · exact .inr (.inr (.inr ⟨xs, h1, h2, fun x hx => Pl.succ (h3 x hx)⟩))
theorem Pl.up (h : Pl B n d) (k : n ≤ m) : Pl B m d := by
  induction k with
  | refl => exact h
  | step _ ih => exact ih.succ
theorem Pl.int {i : Int} : Pl B (n + 1) (.int i) := .inl ⟨i, rfl⟩
theorem Pl.bl {b : Bool} (h : B) : Pl B (n + 1) (.bl b) := .inr (.inl ⟨h, b, rfl⟩)
theorem Pl.str {s : Str} : Pl B (n + 1) (.str s) := .inr (.inr (.inl ⟨s, rfl⟩))
theorem Pl.tup {xs : List VL.D} (h : xs.length ≤ 1000) (k : ∀ x ∈ xs, Pl B n x) : Pl B (n + 1) (.tup xs) := .inr (.inr (.inr ⟨xs, rfl, h, k⟩))
theorem Pl.weak (h : Pl B n d) : Pl True n d := by
  induction n generalizing d with
  | zero => cases h
  | succ n ih =>
    rcases h with h | h | h | ⟨xs, h1, h2, h3⟩
    · exact .inl h
    · exact .inr (.inl ⟨trivial, h.2⟩)
    · exact .inr (.inr (.inl h))
    · exact .inr (.inr (.inr ⟨xs, h1, h2, fun x hx => ih (h3 x hx)⟩))
theorem Pl.all0 : ∀ x ∈ ([] : List VL.D), Pl B n x := fun x hx => nomatch hx
theorem Pl.allC {a : VL.D} {xs : List VL.D} (h : Pl B n a) (k : ∀ x ∈ xs, Pl B n x) : ∀ x ∈ a :: xs, Pl B n x := fun x hx => by
  rcases List.mem_cons.mp hx with rfl | hx
  · exact h
  · exact k x hx
theorem Pl.ints {l : List Int} : ∀ x ∈ l.map VL.D.int, Pl B (n + 1) x := fun x hx => by
  obtain ⟨i, _, rfl⟩ := List.mem_map.mp hx
  exact .int
theorem nkeys_of : ∀ {xs : List VL.D} {n : Nat}, (∀ x ∈ xs, ∃ k, nkey x = some k ∧ k.depth ≤ n) → ∃ ks, nkeys xs = some ks ∧ NestedKey.depthAll ks ≤ n
  | [], n, _ => ⟨[], rfl, Nat.zero_le _⟩
  | x :: xs, n, h => by
    obtain ⟨k, h1, h2⟩ := h x List.mem_cons_self
    obtain ⟨ks, h3, h4⟩ := nkeys_of (fun y hy => h y (List.mem_cons_of_mem _ hy))
    refine ⟨k :: ks, by unfold nkeys; rw [h1, h3]; rfl, ?_⟩
    show max _ _ ≤ n
    omega
theorem Pl.key : ∀ {n : Nat} {d : VL.D}, Pl B n d → ∃ k, nkey d = some k ∧ k.depth ≤ n
  | 0, _, h => by cases h
  | n + 1, d, h => by
    rcases h with ⟨i, rfl⟩ | ⟨_, b, rfl⟩ | ⟨s, rfl⟩ | ⟨xs, rfl, h2, h3⟩
    · exact ⟨_, rfl, Nat.zero_le _⟩
    · exact ⟨_, rfl, Nat.zero_le _⟩
    · exact ⟨_, rfl, Nat.zero_le _⟩
    · obtain ⟨ks, h4, h5⟩ := nkeys_of (n := n) (fun x hx => Pl.key (h3 x hx))
      refine ⟨.tup ks, by unfold nkey; rw [h4]; rfl, ?_⟩
      show NestedKey.depthAll ks + 1 ≤ _
      omega
theorem Pl.kOk {xs : List VL.D} (h : Pl B n (.tup xs)) (hn : n ≤ 8) : VL.kOk (.tup xs) = true := by
  obtain ⟨k, h1, h2⟩ := h.key
  unfold nkey at h1
  obtain ⟨ks, h3, rfl⟩ := Option.map_eq_some_iff.mp h1
  show (match nkeys xs with | some ks => decide ((NestedKey.tup ks).depth ≤ 8) | none => false) = true
  rw [h3]
  exact decide_eq_true (by omega)
end
structure Sn where
  L : List VL.D
  W : List Int
def kvsF (i : Nat) : List VL.D → List (VL.D × VL.D)
  | [] => []
  | x :: xs => (x, .int (i : Nat)) :: kvsF (i + 1) xs
theorem kvsF_app {x : VL.D} : ∀ {xs : List VL.D} {i : Nat}, kvsF i (xs ++ [x]) = kvsF i xs ++ [(x, .int ((i + xs.length : Nat) : Int))]
  | [], i => rfl
  | y :: xs, i => by
    rw [List.cons_append, kvsF, kvsF, kvsF_app, List.cons_append, List.length_cons, show i + 1 + xs.length = i + (xs.length + 1) by omega]
theorem kvsF_len : ∀ {xs : List VL.D} {i : Nat}, (kvsF i xs).length = xs.length
  | [], i => rfl
  | y :: xs, i => by rw [kvsF, List.length_cons, List.length_cons, kvsF_len]
theorem kvsF_get {nd d : VL.D} : ∀ {xs : List VL.D} {i : Nat}, kget (kvsF i xs) nd = some d → ∃ j p, d = .int ((i + j : Nat) : Int) ∧ xs[j]? = some p ∧ kEq p nd = true
  | [], i, h => by cases h
  | y :: xs, i, h => by
    unfold kget at h
    rw [kvsF, List.find?_cons] at h
    cases e : kEq y nd with
    | true =>
      rw [e] at h
      cases h
      exact ⟨0, y, rfl, rfl, e⟩
    | false =>
      rw [e] at h
      obtain ⟨j, p, h1, h2, h3⟩ := kvsF_get (i := i + 1) (xs := xs) h
      exact ⟨j + 1, p, by rw [h1, show i + 1 + j = i + (j + 1) by omega], h2, h3⟩
def Sn.kvs (S : Sn) : List (VL.D × VL.D) := kvsF 0 S.L
open Classical in
noncomputable def Sn.put (S : Sn) (nd : VL.D) (w : Int) : Nat × Sn := match kget S.kvs nd with
  | some (.int k) => (k.toNat, S)
  | _ => (S.L.length, ⟨S.L ++ [nd], S.W ++ [w]⟩)
theorem Sn.put_cases (S : Sn) (nd : VL.D) (w : Int) : (∃ j p, kget S.kvs nd = some (.int (j : Nat)) ∧ S.put nd w = (j, S) ∧ S.L[j]? = some p ∧ kEq p nd = true) ∨ (kget S.kvs nd = none ∧ S.put nd w = (S.L.length, ⟨S.L ++ [nd], S.W ++ [w]⟩)) := by
  cases e : kget S.kvs nd with
  | none => exact .inr ⟨rfl, by unfold Sn.put; rw [e]⟩
  | some d =>
    obtain ⟨j, p, h1, h2, h3⟩ := kvsF_get e
    rw [Nat.zero_add] at h1
    subst h1
    exact .inl ⟨j, p, rfl, by unfold Sn.put; rw [e]; rfl, h2, h3⟩
/-- a node -/
def Nd (nd : VL.D) : Prop := Pl True 8 nd ∧ ∃ xs, nd = .tup xs
theorem Nd.kOk {nd : VL.D} (h : Nd nd) : VL.kOk nd = true := by
  obtain ⟨h, xs, rfl⟩ := h
  exact h.kOk (by decide)
structure OkS (S : Sn) : Prop where
  len : S.W.length = S.L.length
  pl : ∀ nd ∈ S.L, Nd nd
theorem OkS.keys {S : Sn} (h : OkS S) : kkeys S.kvs = true := by
  have h : ∀ nd ∈ S.L, VL.kOk nd = true := fun nd hn => (h.pl nd hn).kOk
  have : ∀ (xs : List VL.D) (i : Nat), (∀ nd ∈ xs, VL.kOk nd = true) → kkeys (kvsF i xs) = true := by
    intro xs
    induction xs with
    | nil => intro i _; rfl
    | cons x xs ih =>
      intro i h
      have e := ih (i + 1) fun y hy => h y (List.mem_cons_of_mem _ hy)
      unfold kkeys at e ⊢
      rw [kvsF, List.all_cons, h x List.mem_cons_self, e]; rfl
  exact this _ _ h
theorem OkS.put {S : Sn} {nd : VL.D} {w : Int} (h : OkS S) (hk : Nd nd) : OkS (S.put nd w).2 := by
  rcases S.put_cases nd w with ⟨j, p, _, h2, _⟩ | ⟨_, h2⟩
  · rw [h2]; exact h
  · rw [h2]
    refine ⟨by simp [h.len], fun x hx => ?_⟩
    rcases List.mem_append.mp hx with hx | hx
    · exact h.pl x hx
    · obtain rfl := List.mem_singleton.mp hx; exact hk
/-- later: more nodes -/
def Sn.le (S T : Sn) : Prop := ∃ j x, T.L = S.L ++ j ∧ T.W = S.W ++ x ∧ j.length = x.length
theorem Sn.le_refl (S : Sn) : S.le S := ⟨[], [], by simp, by simp, rfl⟩
theorem Sn.le.trans {S T U : Sn} (h : S.le T) (k : T.le U) : S.le U := by
  obtain ⟨j, x, h1, h2, h3⟩ := h
  obtain ⟨j', x', k1, k2, k3⟩ := k
  exact ⟨j ++ j', x ++ x', by rw [k1, h1, List.append_assoc], by rw [k2, h2, List.append_assoc], by simp [h3, k3]⟩
theorem Sn.le.len {S T : Sn} (h : S.le T) : S.L.length ≤ T.L.length := by
  obtain ⟨j, x, h1, h2, h3⟩ := h
  rw [h1, List.length_append]; omega
theorem Sn.put_le (S : Sn) (nd : VL.D) (w : Int) : S.le (S.put nd w).2 ∧ (S.put nd w).1 < (S.put nd w).2.L.length ∧ (S.put nd w).2.L.length ≤ S.L.length + 1 := by
  rcases S.put_cases nd w with ⟨j, p, _, h2, h3, _⟩ | ⟨_, h2⟩
  · rw [h2]; exact ⟨S.le_refl, (List.getElem?_eq_some_iff.mp h3).1, Nat.le_succ _⟩
  · rw [h2]; exact ⟨⟨[nd], [w], rfl, rfl, rfl⟩, by simp, by simp⟩
/-- the state as it lies -/
structure At (a b c : Nat) (S : Sn) (st : Sto) : Prop where
  l : st[a]? = some (.lst S.L)
  w : st[b]? = some (.lst (S.W.map .int))
  d : st[c]? = some (.dic S.kvs)
/-- all but ms stays -/
def Kp (ms : List Nat) (st st' : Sto) : Prop := ∀ i o, i ∉ ms → st[i]? = some o → st'[i]? = some o
theorem Kp.refl {ms : List Nat} (st : Sto) : Kp ms st st := fun _ _ _ h => h
theorem Kp.trans {ms : List Nat} {a b c : Sto} (h : Kp ms a b) (k : Kp ms b c) : Kp ms a c := fun i o n e => k i o n (h i o n e)
theorem Kp.le {ms : List Nat} {a b : Sto} (h : Le a b) : Kp ms a b := fun i o _ e => h.get e
theorem Kp.sub {ms ns : List Nat} {a b : Sto} (h : Kp ms a b) (k : ∀ i ∈ ms, i ∈ ns) : Kp ns a b := fun i o n e => h i o (fun z => n (k i z)) e
theorem Kp.set {ms : List Nat} {st : Sto} {i : Nat} {o : VL.O} (h : i ∈ ms) : Kp ms st (st.set i o) := fun j u n e => by
  rw [List.getElem?_set_ne (fun z : i = j => n (z ▸ h))]; exact e
theorem Kp.list {ms : List Nat} {a b : Sto} (h : Kp ms a b) {n : Nat} {xs : List VL.D} (hn : n ∉ ms) (e : listAt a n = some xs) : listAt b n = some xs := by
  unfold listAt at *
  cases he : a[n]? with
  | none => rw [he] at e; cases e
  | some o => rw [he] at e; rw [h n o hn he]; exact e
theorem At.kp {a b c : Nat} {S : Sn} {st st' : Sto} {ms : List Nat} (h : At a b c S st) (k : Kp ms st st') (ha : a ∉ ms) (hb : b ∉ ms) (hc : c ∉ ms) : At a b c S st' := ⟨k _ _ ha h.l, k _ _ hb h.w, k _ _ hc h.d⟩
theorem At.ne {a b c : Nat} {S : Sn} {st : Sto} (h : At a b c S st) : a ≠ c ∧ b ≠ c := ⟨(fun e => by have := h.l; rw [e, h.d] at this; cases this), (fun e => by have := h.w; rw [e, h.d] at this; cases this)⟩
/-- a new node -/
noncomputable def laidS (a b c : Nat) (S : Sn) (nd : VL.D) (w : Int) (st : Sto) : Sto := ((st.set c (.dic (kput S.kvs nd (.int (S.L.length : Nat))))).set a (.lst (S.L ++ [nd]))).set b (.lst (S.W.map .int ++ [.int w]))
theorem kput_new {S : Sn} {nd : VL.D} (h : kget S.kvs nd = none) : kput S.kvs nd (.int (S.L.length : Nat)) = kvsF 0 (S.L ++ [nd]) := by
  unfold kput
  rw [if_neg, kvsF_app, Nat.zero_add]; rfl
  intro z
  unfold kget at h
  rw [Option.map_eq_none_iff, List.find?_eq_none] at h
  obtain ⟨p, hp, hq⟩ := List.any_eq_true.mp z
  exact h p hp hq
theorem laid_at {a b c : Nat} {S : Sn} {nd : VL.D} {w : Int} {st : Sto} (h : At a b c S st) (hab : a ≠ b) (hk : kget S.kvs nd = none) : At a b c ⟨S.L ++ [nd], S.W ++ [w]⟩ (laidS a b c S nd w st) ∧ Kp [a, b, c] st (laidS a b c S nd w st) := by
  obtain ⟨hac, hbc⟩ := h.ne
  have la := (List.getElem?_eq_some_iff.mp h.l).1
  have lb := (List.getElem?_eq_some_iff.mp h.w).1
  have lc := (List.getElem?_eq_some_iff.mp h.d).1
  unfold laidS
  refine ⟨⟨?_, ?_, ?_⟩, ((Kp.set (by simp)).trans (Kp.set (by simp))).trans (Kp.set (by simp))⟩
  · rw [List.getElem?_set_ne (Ne.symm hab), List.getElem?_set_self (by simpa using la)]
  · rw [List.getElem?_set_self (by simpa using lb), List.map_append]; rfl
  · rw [List.getElem?_set_ne hbc, List.getElem?_set_ne hac, List.getElem?_set_self lc, kput_new hk]; rfl
theorem kin_old {c : Nat} {S : Sn} {st : Sto} {nd d : VL.D} (hd : st[c]? = some (.dic S.kvs)) (ok : OkS S) (hk : VL.kOk nd = true) (h : kget S.kvs nd = some d) : kinD true nd (.ref c) st = .ok (.bl false) st := by
  simp only [kinD, hd, ok.keys, hk, Bool.and_self, if_true, h]; rfl
theorem kin_new {c : Nat} {S : Sn} {st : Sto} {nd : VL.D} (hd : st[c]? = some (.dic S.kvs)) (ok : OkS S) (hk : VL.kOk nd = true) (h : kget S.kvs nd = none) : kinD true nd (.ref c) st = .ok (.bl true) st := by
  simp only [kinD, hd, ok.keys, hk, Bool.and_self, if_true, h]; rfl
theorem kix_at {c : Nat} {kvs : List (VL.D × VL.D)} {st : Sto} {nd d : VL.D} (hd : st[c]? = some (.dic kvs)) (ok : kkeys kvs = true) (hk : VL.kOk nd = true) (h : kget kvs nd = some d) : kixD (.ref c) nd st = .ok d st := by
  simp only [kixD, hd, ok, hk, Bool.and_self, if_true, h]
theorem kget_snoc {nd : VL.D} : ∀ {xs : List VL.D} {i : Nat}, kget (kvsF i xs) nd = none → kget (kvsF i (xs ++ [nd])) nd = some (.int ((i + xs.length : Nat) : Int))
  | [], i, _ => by
    unfold kget
    rw [List.nil_append, kvsF, List.find?_cons, kEq_self]; rfl
  | y :: xs, i, h => by
    unfold kget at h ⊢
    rw [kvsF, List.find?_cons] at h
    rw [List.cons_append, kvsF, List.find?_cons]
    cases e : kEq y nd with
    | true => rw [e] at h; cases h
    | false =>
      rw [e] at h
      show kget (kvsF (i + 1) (xs ++ [nd])) nd = _
      rw [kget_snoc (show kget (kvsF (i + 1) xs) nd = none from h), List.length_cons, show i + 1 + xs.length = i + (xs.length + 1) by omega]
def NET (a b c : Nat) : VL.O := .ins "Net" [("laid", .ref a), ("wide", .ref b), ("numbers", .ref c)]
theorem net_fld {a b c n : Nat} {st : Sto} (h : st[n]? = some (NET a b c)) : fldK "Net" "laid" (.ref n) st = .ok (.ref a) st ∧ fldK "Net" "wide" (.ref n) st = .ok (.ref b) st ∧ fldK "Net" "numbers" (.ref n) st = .ok (.ref c) st := by
  have e := insAt_ins (c := "Net") h
  have l1 : List.lookup (PySem.Str.ofString "laid") [(PySem.Str.ofString "laid", VL.D.ref a), ("wide", .ref b), ("numbers", .ref c)] = some (.ref a) := rfl
  refine ⟨?_, ?_, ?_⟩ <;> simp only [fldK, e, Option.bind_some] <;> rfl
theorem kputS_ap {fv fo fk : EF} {env : EnvD} {st s1 s2 s3 : Sto} {v k : VL.D} {n : Nat} {kvs : List (VL.D × VL.D)} (h1 : fv env st = .ok v s1) (h2 : fo env s1 = .ok (.ref n) s2) (h3 : fk env s2 = .ok k s3) (h4 : s3[n]? = some (.dic kvs)) (h5 : kkeys kvs = true) (h6 : VL.kOk k = true) (h7 : kvs.length < sizeLine) : kputS fv fo fk env st = .ok (.nx env) (s3.set n (.dic (kput kvs k v))) := by
  unfold kputS
  rw [h1, R.bind_ok, h2, R.bind_ok, h3, R.bind_ok]
  simp only [h4, h5, h6, decide_eq_true h7, Bool.and_self, if_true]
theorem net_ne {a b c n : Nat} {S : Sn} {st : Sto} (hn : st[n]? = some (NET a b c)) (h : At a b c S st) : n ∉ [a, b, c] := by
  intro z
  simp only [List.mem_cons, List.not_mem_nil, or_false] at z
  rcases z with rfl | rfl | rfl
  · rw [h.l] at hn; cases hn
  · rw [h.w] at hn; cases hn
  · rw [h.d] at hn; cases hn
/-- the three writes -/
theorem put_writes {a b c : Nat} {S : Sn} {st : Sto} {nd : VL.D} {w : Int} (h : At a b c S st) (hab : a ≠ b) (hz : S.L.length < sizeLine) (ok : OkS S) :
    ∃ s1 s2, s1 = st.set c (.dic (kput S.kvs nd (.int (S.L.length : Nat)))) ∧ s2 = s1.set a (.lst (S.L ++ [nd])) ∧ laidS a b c S nd w st = s2.set b (.lst (S.W.map .int ++ [.int w])) ∧
      s1[a]? = some (.lst S.L) ∧ s2[b]? = some (.lst (S.W.map .int)) ∧ appD (.ref a) [nd] s1 = .ok .non s2 ∧ appD (.ref b) [.int w] s2 = .ok .non (laidS a b c S nd w st) ∧ Kp [a, b, c] st s1 ∧ Kp [a, b, c] st s2 := by
  obtain ⟨hac, hbc⟩ := h.ne
  have e1 : (st.set c (.dic (kput S.kvs nd (.int (S.L.length : Nat)))))[a]? = some (.lst S.L) := by rw [List.getElem?_set_ne (Ne.symm hac)]; exact h.l
  have e2 : ((st.set c (.dic (kput S.kvs nd (.int (S.L.length : Nat))))).set a (.lst (S.L ++ [nd])))[b]? = some (.lst (S.W.map .int)) := by rw [List.getElem?_set_ne hab, List.getElem?_set_ne (Ne.symm hbc)]; exact h.w
  exact ⟨_, _, rfl, rfl, rfl, e1, e2, appD_ok e1 hz, appD_ok e2 (by rw [List.length_map, ok.len]; exact hz), Kp.set (by simp), (Kp.set (by simp)).trans (Kp.set (by simp))⟩
theorem put_ok {n a b c : Nat} {S : Sn} {st : Sto} {nd : VL.D} {w : Int} (hn : st[n]? = some (NET a b c)) (h : At a b c S st) (hab : a ≠ b) (ok : OkS S) (hk : Nd nd) (hz : S.L.length < sizeLine) :
    ∃ st', f_Net_put [.ref n, nd, .int w] st = .ok (.int ((S.put nd w).1 : Nat)) st' ∧ At a b c (S.put nd w).2 st' ∧ Kp [a, b, c] st st' := by
  obtain ⟨f1, f2, f3⟩ := net_fld hn
  rcases S.put_cases nd w with ⟨j, p, h1, h2, h3, _⟩ | ⟨h1, h2⟩
  · rw [h2]
    have k1 := kin_old h.d ok hk.kOk h1
    have k2 := kix_at h.d ok.keys hk.kOk h1
    exact ⟨st, by simp -implicitDefEqProofs +decide only [varF_ap, cF_ap, opF_ap, opK_ap, bF_ap, boolK_ap, andT_ap, andK_ap, orT_ap, orK_ap, notT_ap, notK_ap, yesT_ap, andV_ap, andVK_ap, orV_ap, orVK_ap, notV_ap, notVK_ap, ifF_ap, ifFK_ap, nilA_ap, consA_ap, consK_ap, consJ_ap, tupA_ap, lstA_ap, newO_ap, dicF_ap, callF_ap, un1_ap, methF_ap, nonO_ap, someO_ap, someK_ap, slF_ap, slK_ap, slJ_ap, itF_ap, itA_ap, nilS_ap, bkS_ap, ctS_ap, seqS_ap, seqK_nx, seqK_rt, seqK_bk, seqK_ct, dropS_ap, dropK_ap, retS_ap, retK_ap, retN_ap, ifS_ap, ifK_ap, setS_ap, setK_ap, asgS_ap, asgK_ap, asgJ_ap, nameG_ap, nilG_ap, consG_ap, consGK_ap, fnF_ap, fnK_nx, fnK_rt, forS_ap, forK_ap, negD_ap, addI_ap, varK_ap, startE, yes2, isN, List.map_cons, List.map_nil, List.length_cons, List.length_nil, List.replicate, List.append_nil, List.cons_append, List.nil_append, List.getElem?_cons_zero, List.getElem?_cons_succ, List.set_cons_zero, List.set_cons_succ, R.bind_ok, R.bind_ex, R.bind_bad, R.noex_ok, if_true, if_false, Bool.false_eq_true, Bool.true_eq_false, ite_true, ite_false, reduceIte, Nat.reduceAdd, Nat.reduceSub, Nat.zero_add, Nat.sub_self, Nat.sub_zero, decide_true, decide_false, Bool.not_true, Bool.not_false, subD_ap, ltD_ap, leD_ap, gtD_ap, geD_ap, mulD_ap, modD_ap, divD_ap, powD_ap, tupK_ok, lstK_ok, methK_ok, tupG_ok, eqS_t, eqS_f, neS_t, neS_f, eqI_ap, neI_ap, inT_nil, inT_hit, inT_miss, ne_eq, not_false_eq_true, f_Net_put, b_Net_put, f3, k1, k2], h, Kp.refl _⟩
  · rw [h2]
    obtain ⟨A, K⟩ := laid_at (w := w) h hab h1
    obtain ⟨s1, s2, hs1, hs2, hs3, e1, e2, a1, a2, K1, K2⟩ := put_writes (nd := nd) (w := w) h hab hz ok
    have nn := net_ne hn h
    obtain ⟨g1, g2, g3⟩ := net_fld (K1 _ _ nn hn)
    obtain ⟨p1, p2, p3⟩ := net_fld (K2 _ _ nn hn)
    obtain ⟨q1, q2, q3⟩ := net_fld (K _ _ nn hn)
    have k1 := kin_new h.d ok hk.kOk h1
    have ok2 : OkS ⟨S.L ++ [nd], S.W ++ [w]⟩ := by have := ok.put (w := w) hk; rw [h2] at this; exact this
    have kx : kget (Sn.kvs ⟨S.L ++ [nd], S.W ++ [w]⟩) nd = some (.int (S.L.length : Nat)) := by
      have := kget_snoc (nd := nd) (xs := S.L) (i := 0) h1
      rw [Nat.zero_add] at this; exact this
    have k2 := kix_at A.d ok2.keys hk.kOk kx
    have ln : lenD [.ref a] st = .ok (.int (S.L.length : Nat)) st := lenD_list (listAt_lst h.l)
    have pp : kputS (callF lenD (consA (un1 (fldK "Net" "laid") (varF 0)) nilA)) (un1 (fldK "Net" "numbers") (varF 0)) (varF 1) [some (.ref n), some nd, some (.int w)] st = .ok (.nx [some (.ref n), some nd, some (.int w)]) s1 := by
      rw [hs1]
      exact kputS_ap (s1 := st) (s2 := st) (s3 := st) (by simp -implicitDefEqProofs +decide only [varF_ap, cF_ap, opF_ap, opK_ap, bF_ap, boolK_ap, andT_ap, andK_ap, orT_ap, orK_ap, notT_ap, notK_ap, yesT_ap, andV_ap, andVK_ap, orV_ap, orVK_ap, notV_ap, notVK_ap, ifF_ap, ifFK_ap, nilA_ap, consA_ap, consK_ap, consJ_ap, tupA_ap, lstA_ap, newO_ap, dicF_ap, callF_ap, un1_ap, methF_ap, nonO_ap, someO_ap, someK_ap, slF_ap, slK_ap, slJ_ap, itF_ap, itA_ap, nilS_ap, bkS_ap, ctS_ap, seqS_ap, seqK_nx, seqK_rt, seqK_bk, seqK_ct, dropS_ap, dropK_ap, retS_ap, retK_ap, retN_ap, ifS_ap, ifK_ap, setS_ap, setK_ap, asgS_ap, asgK_ap, asgJ_ap, nameG_ap, nilG_ap, consG_ap, consGK_ap, fnF_ap, fnK_nx, fnK_rt, forS_ap, forK_ap, negD_ap, addI_ap, varK_ap, startE, yes2, isN, List.map_cons, List.map_nil, List.length_cons, List.length_nil, List.replicate, List.append_nil, List.cons_append, List.nil_append, List.getElem?_cons_zero, List.getElem?_cons_succ, List.set_cons_zero, List.set_cons_succ, R.bind_ok, R.bind_ex, R.bind_bad, R.noex_ok, if_true, if_false, Bool.false_eq_true, Bool.true_eq_false, ite_true, ite_false, reduceIte, Nat.reduceAdd, Nat.reduceSub, Nat.zero_add, Nat.sub_self, Nat.sub_zero, decide_true, decide_false, Bool.not_true, Bool.not_false, subD_ap, ltD_ap, leD_ap, gtD_ap, geD_ap, mulD_ap, modD_ap, divD_ap, powD_ap, tupK_ok, lstK_ok, methK_ok, tupG_ok, eqS_t, eqS_f, neS_t, neS_f, eqI_ap, neI_ap, inT_nil, inT_hit, inT_miss, ne_eq, not_false_eq_true, f1, ln]) (by simp -implicitDefEqProofs +decide only [varF_ap, cF_ap, opF_ap, opK_ap, bF_ap, boolK_ap, andT_ap, andK_ap, orT_ap, orK_ap, notT_ap, notK_ap, yesT_ap, andV_ap, andVK_ap, orV_ap, orVK_ap, notV_ap, notVK_ap, ifF_ap, ifFK_ap, nilA_ap, consA_ap, consK_ap, consJ_ap, tupA_ap, lstA_ap, newO_ap, dicF_ap, callF_ap, un1_ap, methF_ap, nonO_ap, someO_ap, someK_ap, slF_ap, slK_ap, slJ_ap, itF_ap, itA_ap, nilS_ap, bkS_ap, ctS_ap, seqS_ap, seqK_nx, seqK_rt, seqK_bk, seqK_ct, dropS_ap, dropK_ap, retS_ap, retK_ap, retN_ap, ifS_ap, ifK_ap, setS_ap, setK_ap, asgS_ap, asgK_ap, asgJ_ap, nameG_ap, nilG_ap, consG_ap, consGK_ap, fnF_ap, fnK_nx, fnK_rt, forS_ap, forK_ap, negD_ap, addI_ap, varK_ap, startE, yes2, isN, List.map_cons, List.map_nil, List.length_cons, List.length_nil, List.replicate, List.append_nil, List.cons_append, List.nil_append, List.getElem?_cons_zero, List.getElem?_cons_succ, List.set_cons_zero, List.set_cons_succ, R.bind_ok, R.bind_ex, R.bind_bad, R.noex_ok, if_true, if_false, Bool.false_eq_true, Bool.true_eq_false, ite_true, ite_false, reduceIte, Nat.reduceAdd, Nat.reduceSub, Nat.zero_add, Nat.sub_self, Nat.sub_zero, decide_true, decide_false, Bool.not_true, Bool.not_false, subD_ap, ltD_ap, leD_ap, gtD_ap, geD_ap, mulD_ap, modD_ap, divD_ap, powD_ap, tupK_ok, lstK_ok, methK_ok, tupG_ok, eqS_t, eqS_f, neS_t, neS_f, eqI_ap, neI_ap, inT_nil, inT_hit, inT_miss, ne_eq, not_false_eq_true, f3]) (by simp -implicitDefEqProofs +decide only [varF_ap, cF_ap, opF_ap, opK_ap, bF_ap, boolK_ap, andT_ap, andK_ap, orT_ap, orK_ap, notT_ap, notK_ap, yesT_ap, andV_ap, andVK_ap, orV_ap, orVK_ap, notV_ap, notVK_ap, ifF_ap, ifFK_ap, nilA_ap, consA_ap, consK_ap, consJ_ap, tupA_ap, lstA_ap, newO_ap, dicF_ap, callF_ap, un1_ap, methF_ap, nonO_ap, someO_ap, someK_ap, slF_ap, slK_ap, slJ_ap, itF_ap, itA_ap, nilS_ap, bkS_ap, ctS_ap, seqS_ap, seqK_nx, seqK_rt, seqK_bk, seqK_ct, dropS_ap, dropK_ap, retS_ap, retK_ap, retN_ap, ifS_ap, ifK_ap, setS_ap, setK_ap, asgS_ap, asgK_ap, asgJ_ap, nameG_ap, nilG_ap, consG_ap, consGK_ap, fnF_ap, fnK_nx, fnK_rt, forS_ap, forK_ap, negD_ap, addI_ap, varK_ap, startE, yes2, isN, List.map_cons, List.map_nil, List.length_cons, List.length_nil, List.replicate, List.append_nil, List.cons_append, List.nil_append, List.getElem?_cons_zero, List.getElem?_cons_succ, List.set_cons_zero, List.set_cons_succ, R.bind_ok, R.bind_ex, R.bind_bad, R.noex_ok, if_true, if_false, Bool.false_eq_true, Bool.true_eq_false, ite_true, ite_false, reduceIte, Nat.reduceAdd, Nat.reduceSub, Nat.zero_add, Nat.sub_self, Nat.sub_zero, decide_true, decide_false, Bool.not_true, Bool.not_false, subD_ap, ltD_ap, leD_ap, gtD_ap, geD_ap, mulD_ap, modD_ap, divD_ap, powD_ap, tupK_ok, lstK_ok, methK_ok, tupG_ok, eqS_t, eqS_f, neS_t, neS_f, eqI_ap, neI_ap, inT_nil, inT_hit, inT_miss, ne_eq, not_false_eq_true]) h.d ok.keys hk.kOk (by rw [Sn.kvs, kvsF_len]; exact hz)
    have t1 : tyD "list" (VL.D.ref a) s1 := tyD_list (listAt_lst e1)
    have t2 : tyD "list" (VL.D.ref b) s2 := tyD_list (listAt_lst e2)
    exact ⟨_, by simp -implicitDefEqProofs +decide only [varF_ap, cF_ap, opF_ap, opK_ap, bF_ap, boolK_ap, andT_ap, andK_ap, orT_ap, orK_ap, notT_ap, notK_ap, yesT_ap, andV_ap, andVK_ap, orV_ap, orVK_ap, notV_ap, notVK_ap, ifF_ap, ifFK_ap, nilA_ap, consA_ap, consK_ap, consJ_ap, tupA_ap, lstA_ap, newO_ap, dicF_ap, callF_ap, un1_ap, methF_ap, nonO_ap, someO_ap, someK_ap, slF_ap, slK_ap, slJ_ap, itF_ap, itA_ap, nilS_ap, bkS_ap, ctS_ap, seqS_ap, seqK_nx, seqK_rt, seqK_bk, seqK_ct, dropS_ap, dropK_ap, retS_ap, retK_ap, retN_ap, ifS_ap, ifK_ap, setS_ap, setK_ap, asgS_ap, asgK_ap, asgJ_ap, nameG_ap, nilG_ap, consG_ap, consGK_ap, fnF_ap, fnK_nx, fnK_rt, forS_ap, forK_ap, negD_ap, addI_ap, varK_ap, startE, yes2, isN, List.map_cons, List.map_nil, List.length_cons, List.length_nil, List.replicate, List.append_nil, List.cons_append, List.nil_append, List.getElem?_cons_zero, List.getElem?_cons_succ, List.set_cons_zero, List.set_cons_succ, R.bind_ok, R.bind_ex, R.bind_bad, R.noex_ok, if_true, if_false, Bool.false_eq_true, Bool.true_eq_false, ite_true, ite_false, reduceIte, Nat.reduceAdd, Nat.reduceSub, Nat.zero_add, Nat.sub_self, Nat.sub_zero, decide_true, decide_false, Bool.not_true, Bool.not_false, subD_ap, ltD_ap, leD_ap, gtD_ap, geD_ap, mulD_ap, modD_ap, divD_ap, powD_ap, tupK_ok, lstK_ok, methK_ok, tupG_ok, eqS_t, eqS_f, neS_t, neS_f, eqI_ap, neI_ap, inT_nil, inT_hit, inT_miss, ne_eq, not_false_eq_true, f_Net_put, b_Net_put, f3, k1, pp, g1, t1, a1, p2, t2, a2, q3, k2], A, K⟩
end Law

namespace Law
open PySem L2 VL
/-! laying: words, the relation, what the program lays -/
def One (w : Str) (args : List VL.D) : Prop :=
  (w = "sieve" ∧ ∃ C, args = [C] ∧ Pl False 5 C) ∨ (w = "once" ∧ args = []) ∨ (w = "cols" ∧ ∃ es, args = [.tup es] ∧ es.length ≤ 12 ∧ ∀ e ∈ es, Pl False 5 e) ∨
  (w = "count" ∧ ∃ by_ : List Int, args = [.tup (by_.map .int)] ∧ by_.length ≤ 12) ∨ (w ∈ sums ∧ ∃ (p : Int) (by_ : List Int), args = [.int p, .tup (by_.map .int)] ∧ by_.length ≤ 12) ∨
  (w = "first" ∧ ∃ (k : Int) (by_ : List Int) (os : List (Int × Bool)), args = [.int k, .tup (by_.map .int), .tup (os.map orD)] ∧ by_.length ≤ 12 ∧ os.length ≤ 12)
def Two (w : Str) (args : List VL.D) : Prop := (w ∈ four ∧ args = []) ∨ (w ∈ tri ∧ ∃ ps : List (Int × Int), args = [.tup (ps.map prD)] ∧ ps.length ≤ 12)
def tl : VL.D → Int
  | .tup xs => xs.length
  | _ => 0
/-- a node's width -/
def wd (w : Str) (args : List VL.D) (x y : Int) : Int :=
  if w = "cols" then tl (args.getD 0 .non) else if w = "count" then tl (args.getD 0 .non) + 1 else if w ∈ sums then tl (args.getD 1 .non) + 1 else if w = "join" ∨ w = "left" then x + y else x
def bs2 (w : Str) (args : List VL.D) (y : Int) : List VL.D := if w = "left" then args ++ [.int y] else args
def nod (w : Str) (b : List VL.D) (ks : List Nat) : VL.D := .tup [.str w, .tup b, .tup (ks.map fun k => .int (k : Nat))]
theorem prD_pl {n : Nat} {ps : List (Int × Int)} : ∀ x ∈ ps.map prD, Pl False (n + 2) x := fun x hx => by
  obtain ⟨p, _, rfl⟩ := List.mem_map.mp hx
  exact .tup (Nat.le_of_ble_eq_true rfl) (Pl.allC .int (Pl.allC .int Pl.all0))
theorem orD_pl {n : Nat} {ps : List (Int × Bool)} : ∀ x ∈ ps.map orD, Pl True (n + 2) x := fun x hx => by
  obtain ⟨p, _, rfl⟩ := List.mem_map.mp hx
  exact .tup (Nat.le_of_ble_eq_true rfl) (Pl.allC .int (Pl.allC (.bl trivial) Pl.all0))
theorem One.pl {w : Str} {args : List VL.D} (h : One w args) : ∀ x ∈ args, Pl True 6 x := by
  rcases h with ⟨rfl, C, rfl, h⟩ | ⟨rfl, rfl⟩ | ⟨rfl, es, rfl, h, k⟩ | ⟨rfl, b, rfl, h⟩ | ⟨hw, p, b, rfl, h⟩ | ⟨rfl, k, b, os, rfl, h, h'⟩
  · exact Pl.allC (h.weak.up (by decide)) Pl.all0
  · exact Pl.all0
  · exact Pl.allC (.tup (by omega) fun e he => (k e he).weak) Pl.all0
  · exact Pl.allC (.tup (by rw [List.length_map]; omega) Pl.ints) Pl.all0
  · exact Pl.allC .int (Pl.allC (.tup (by rw [List.length_map]; omega) Pl.ints) Pl.all0)
  · exact Pl.allC .int (Pl.allC (.tup (by rw [List.length_map]; omega) Pl.ints) (Pl.allC (.tup (by rw [List.length_map]; omega) orD_pl) Pl.all0))
theorem Two.pl {w : Str} {args : List VL.D} (h : Two w args) : ∀ x ∈ args, Pl True 6 x := by
  rcases h with ⟨_, rfl⟩ | ⟨_, ps, rfl, h⟩
  · exact Pl.all0
  · exact Pl.allC (.tup (by rw [List.length_map]; omega) fun x hx => (prD_pl x hx).weak) Pl.all0
theorem One.len {w : Str} {args : List VL.D} (h : One w args) : args.length ≤ 3 := by
  rcases h with ⟨rfl, C, rfl, h⟩ | ⟨rfl, rfl⟩ | ⟨rfl, es, rfl, h, k⟩ | ⟨rfl, b, rfl, h⟩ | ⟨hw, p, b, rfl, h⟩ | ⟨rfl, k, b, os, rfl, h, h'⟩ <;> exact Nat.le_of_ble_eq_true rfl
theorem Two.len {w : Str} {args : List VL.D} (h : Two w args) : args.length ≤ 3 := by
  rcases h with ⟨_, rfl⟩ | ⟨_, ps, rfl, h⟩ <;> exact Nat.le_of_ble_eq_true rfl
theorem nod_pl {w : Str} {b : List VL.D} {ks : List Nat} (h : b.length ≤ 1000) (hb : ∀ x ∈ b, Pl True 6 x) (hk : ks.length ≤ 1000) : Pl True 8 (nod w b ks) :=
  .tup (Nat.le_of_ble_eq_true rfl) (Pl.allC .str (Pl.allC (.tup h hb) (Pl.allC (.tup (by rw [List.length_map]; exact hk) fun x hx => by
    obtain ⟨k, _, rfl⟩ := List.mem_map.mp hx
    exact .int) Pl.all0)))
theorem nod_ok {w : Str} {b : List VL.D} {ks : List Nat} (h : b.length ≤ 1000) (hb : ∀ x ∈ b, Pl True 6 x) (hk : ks.length ≤ 1000) : Nd (nod w b ks) := ⟨nod_pl h hb hk, _, rfl⟩
theorem bs2_pl {w : Str} {args : List VL.D} {y : Int} (h : Two w args) : (bs2 w args y).length ≤ 1000 ∧ ∀ x ∈ bs2 w args y, Pl True 6 x := by
  have hl := h.len
  unfold bs2
  split
  · refine ⟨by rw [List.length_append, List.length_singleton]; omega, fun x hx => ?_⟩
    rcases List.mem_append.mp hx with hx | hx
    · exact h.pl x hx
    · obtain rfl := List.mem_singleton.mp hx; exact .int
  · exact ⟨by omega, h.pl⟩
/-! ### what the program makes of a word -/
theorem sums_ne {w : Str} (h : w ∈ sums) : w = "sum" ∨ w = "least" ∨ w = "most" := by simpa [sums] using h
theorem four_ne {w : Str} (h : w ∈ four) : w = "pour" ∨ w = "both" ∨ w = "either" ∨ w = "less" := by simpa [four] using h
theorem tri_ne {w : Str} (h : w ∈ tri) : w = "join" ∨ w = "left" ∨ w = "notin" := by simpa [tri] using h
theorem bes_one {w : Str} {args : List VL.D} {a y : VL.D} {st : Sto} (h : One w args) : f_besides_of [.tup (.str w :: a :: args), y] st = .ok (.tup args) st := by
  rcases h with ⟨rfl, C, rfl, h⟩ | ⟨rfl, rfl⟩ | ⟨rfl, es, rfl, h, k⟩ | ⟨rfl, b, rfl, h⟩ | ⟨hw, p, b, rfl, h⟩ | ⟨rfl, k, b, os, rfl, h, h'⟩
  · simp -implicitDefEqProofs +decide only [varF_ap, cF_ap, opF_ap, opK_ap, bF_ap, boolK_ap, andT_ap, andK_ap, orT_ap, orK_ap, notT_ap, notK_ap, yesT_ap, andV_ap, andVK_ap, orV_ap, orVK_ap, notV_ap, notVK_ap, ifF_ap, ifFK_ap, nilA_ap, consA_ap, consK_ap, consJ_ap, tupA_ap, lstA_ap, newO_ap, dicF_ap, callF_ap, un1_ap, methF_ap, nonO_ap, someO_ap, someK_ap, slF_ap, slK_ap, slJ_ap, itF_ap, itA_ap, nilS_ap, bkS_ap, ctS_ap, seqS_ap, seqK_nx, seqK_rt, seqK_bk, seqK_ct, dropS_ap, dropK_ap, retS_ap, retK_ap, retN_ap, ifS_ap, ifK_ap, setS_ap, setK_ap, asgS_ap, asgK_ap, asgJ_ap, nameG_ap, nilG_ap, consG_ap, consGK_ap, fnF_ap, fnK_nx, fnK_rt, forS_ap, forK_ap, negD_ap, addI_ap, varK_ap, startE, yes2, isN, List.map_cons, List.map_nil, List.length_cons, List.length_nil, List.replicate, List.append_nil, List.cons_append, List.nil_append, List.getElem?_cons_zero, List.getElem?_cons_succ, List.set_cons_zero, List.set_cons_succ, R.bind_ok, R.bind_ex, R.bind_bad, R.noex_ok, if_true, if_false, Bool.false_eq_true, Bool.true_eq_false, ite_true, ite_false, reduceIte, Nat.reduceAdd, Nat.reduceSub, Nat.zero_add, Nat.sub_self, Nat.sub_zero, decide_true, decide_false, Bool.not_true, Bool.not_false, subD_ap, ltD_ap, leD_ap, gtD_ap, geD_ap, mulD_ap, modD_ap, divD_ap, powD_ap, tupK_ok, lstK_ok, methK_ok, tupG_ok, eqS_t, eqS_f, neS_t, neS_f, eqI_ap, neI_ap, inT_nil, inT_hit, inT_miss, ne_eq, not_false_eq_true, f_besides_of, b_besides_of, jx0, jx2, sz (by decide : 1 ≤ 100), sz (by decide : 3 ≤ 100)]
  · simp -implicitDefEqProofs +decide only [varF_ap, cF_ap, opF_ap, opK_ap, bF_ap, boolK_ap, andT_ap, andK_ap, orT_ap, orK_ap, notT_ap, notK_ap, yesT_ap, andV_ap, andVK_ap, orV_ap, orVK_ap, notV_ap, notVK_ap, ifF_ap, ifFK_ap, nilA_ap, consA_ap, consK_ap, consJ_ap, tupA_ap, lstA_ap, newO_ap, dicF_ap, callF_ap, un1_ap, methF_ap, nonO_ap, someO_ap, someK_ap, slF_ap, slK_ap, slJ_ap, itF_ap, itA_ap, nilS_ap, bkS_ap, ctS_ap, seqS_ap, seqK_nx, seqK_rt, seqK_bk, seqK_ct, dropS_ap, dropK_ap, retS_ap, retK_ap, retN_ap, ifS_ap, ifK_ap, setS_ap, setK_ap, asgS_ap, asgK_ap, asgJ_ap, nameG_ap, nilG_ap, consG_ap, consGK_ap, fnF_ap, fnK_nx, fnK_rt, forS_ap, forK_ap, negD_ap, addI_ap, varK_ap, startE, yes2, isN, List.map_cons, List.map_nil, List.length_cons, List.length_nil, List.replicate, List.append_nil, List.cons_append, List.nil_append, List.getElem?_cons_zero, List.getElem?_cons_succ, List.set_cons_zero, List.set_cons_succ, R.bind_ok, R.bind_ex, R.bind_bad, R.noex_ok, if_true, if_false, Bool.false_eq_true, Bool.true_eq_false, ite_true, ite_false, reduceIte, Nat.reduceAdd, Nat.reduceSub, Nat.zero_add, Nat.sub_self, Nat.sub_zero, decide_true, decide_false, Bool.not_true, Bool.not_false, subD_ap, ltD_ap, leD_ap, gtD_ap, geD_ap, mulD_ap, modD_ap, divD_ap, powD_ap, tupK_ok, lstK_ok, methK_ok, tupG_ok, eqS_t, eqS_f, neS_t, neS_f, eqI_ap, neI_ap, inT_nil, inT_hit, inT_miss, ne_eq, not_false_eq_true, f_besides_of, b_besides_of, jx0, sz (by decide : 0 ≤ 100), sz (by decide : 3 ≤ 100), sz (by decide : 2 ≤ 100)]
  · simp -implicitDefEqProofs +decide only [varF_ap, cF_ap, opF_ap, opK_ap, bF_ap, boolK_ap, andT_ap, andK_ap, orT_ap, orK_ap, notT_ap, notK_ap, yesT_ap, andV_ap, andVK_ap, orV_ap, orVK_ap, notV_ap, notVK_ap, ifF_ap, ifFK_ap, nilA_ap, consA_ap, consK_ap, consJ_ap, tupA_ap, lstA_ap, newO_ap, dicF_ap, callF_ap, un1_ap, methF_ap, nonO_ap, someO_ap, someK_ap, slF_ap, slK_ap, slJ_ap, itF_ap, itA_ap, nilS_ap, bkS_ap, ctS_ap, seqS_ap, seqK_nx, seqK_rt, seqK_bk, seqK_ct, dropS_ap, dropK_ap, retS_ap, retK_ap, retN_ap, ifS_ap, ifK_ap, setS_ap, setK_ap, asgS_ap, asgK_ap, asgJ_ap, nameG_ap, nilG_ap, consG_ap, consGK_ap, fnF_ap, fnK_nx, fnK_rt, forS_ap, forK_ap, negD_ap, addI_ap, varK_ap, startE, yes2, isN, List.map_cons, List.map_nil, List.length_cons, List.length_nil, List.replicate, List.append_nil, List.cons_append, List.nil_append, List.getElem?_cons_zero, List.getElem?_cons_succ, List.set_cons_zero, List.set_cons_succ, R.bind_ok, R.bind_ex, R.bind_bad, R.noex_ok, if_true, if_false, Bool.false_eq_true, Bool.true_eq_false, ite_true, ite_false, reduceIte, Nat.reduceAdd, Nat.reduceSub, Nat.zero_add, Nat.sub_self, Nat.sub_zero, decide_true, decide_false, Bool.not_true, Bool.not_false, subD_ap, ltD_ap, leD_ap, gtD_ap, geD_ap, mulD_ap, modD_ap, divD_ap, powD_ap, tupK_ok, lstK_ok, methK_ok, tupG_ok, eqS_t, eqS_f, neS_t, neS_f, eqI_ap, neI_ap, inT_nil, inT_hit, inT_miss, ne_eq, not_false_eq_true, f_besides_of, b_besides_of, jx0, jx2, sz (by decide : 1 ≤ 100), sz (by decide : 3 ≤ 100)]
  · simp -implicitDefEqProofs +decide only [varF_ap, cF_ap, opF_ap, opK_ap, bF_ap, boolK_ap, andT_ap, andK_ap, orT_ap, orK_ap, notT_ap, notK_ap, yesT_ap, andV_ap, andVK_ap, orV_ap, orVK_ap, notV_ap, notVK_ap, ifF_ap, ifFK_ap, nilA_ap, consA_ap, consK_ap, consJ_ap, tupA_ap, lstA_ap, newO_ap, dicF_ap, callF_ap, un1_ap, methF_ap, nonO_ap, someO_ap, someK_ap, slF_ap, slK_ap, slJ_ap, itF_ap, itA_ap, nilS_ap, bkS_ap, ctS_ap, seqS_ap, seqK_nx, seqK_rt, seqK_bk, seqK_ct, dropS_ap, dropK_ap, retS_ap, retK_ap, retN_ap, ifS_ap, ifK_ap, setS_ap, setK_ap, asgS_ap, asgK_ap, asgJ_ap, nameG_ap, nilG_ap, consG_ap, consGK_ap, fnF_ap, fnK_nx, fnK_rt, forS_ap, forK_ap, negD_ap, addI_ap, varK_ap, startE, yes2, isN, List.map_cons, List.map_nil, List.length_cons, List.length_nil, List.replicate, List.append_nil, List.cons_append, List.nil_append, List.getElem?_cons_zero, List.getElem?_cons_succ, List.set_cons_zero, List.set_cons_succ, R.bind_ok, R.bind_ex, R.bind_bad, R.noex_ok, if_true, if_false, Bool.false_eq_true, Bool.true_eq_false, ite_true, ite_false, reduceIte, Nat.reduceAdd, Nat.reduceSub, Nat.zero_add, Nat.sub_self, Nat.sub_zero, decide_true, decide_false, Bool.not_true, Bool.not_false, subD_ap, ltD_ap, leD_ap, gtD_ap, geD_ap, mulD_ap, modD_ap, divD_ap, powD_ap, tupK_ok, lstK_ok, methK_ok, tupG_ok, eqS_t, eqS_f, neS_t, neS_f, eqI_ap, neI_ap, inT_nil, inT_hit, inT_miss, ne_eq, not_false_eq_true, f_besides_of, b_besides_of, jx0, jx2, sz (by decide : 1 ≤ 100), sz (by decide : 3 ≤ 100)]
  · rcases sums_ne hw with rfl | rfl | rfl <;> simp -implicitDefEqProofs +decide only [varF_ap, cF_ap, opF_ap, opK_ap, bF_ap, boolK_ap, andT_ap, andK_ap, orT_ap, orK_ap, notT_ap, notK_ap, yesT_ap, andV_ap, andVK_ap, orV_ap, orVK_ap, notV_ap, notVK_ap, ifF_ap, ifFK_ap, nilA_ap, consA_ap, consK_ap, consJ_ap, tupA_ap, lstA_ap, newO_ap, dicF_ap, callF_ap, un1_ap, methF_ap, nonO_ap, someO_ap, someK_ap, slF_ap, slK_ap, slJ_ap, itF_ap, itA_ap, nilS_ap, bkS_ap, ctS_ap, seqS_ap, seqK_nx, seqK_rt, seqK_bk, seqK_ct, dropS_ap, dropK_ap, retS_ap, retK_ap, retN_ap, ifS_ap, ifK_ap, setS_ap, setK_ap, asgS_ap, asgK_ap, asgJ_ap, nameG_ap, nilG_ap, consG_ap, consGK_ap, fnF_ap, fnK_nx, fnK_rt, forS_ap, forK_ap, negD_ap, addI_ap, varK_ap, startE, yes2, isN, List.map_cons, List.map_nil, List.length_cons, List.length_nil, List.replicate, List.append_nil, List.cons_append, List.nil_append, List.getElem?_cons_zero, List.getElem?_cons_succ, List.set_cons_zero, List.set_cons_succ, R.bind_ok, R.bind_ex, R.bind_bad, R.noex_ok, if_true, if_false, Bool.false_eq_true, Bool.true_eq_false, ite_true, ite_false, reduceIte, Nat.reduceAdd, Nat.reduceSub, Nat.zero_add, Nat.sub_self, Nat.sub_zero, decide_true, decide_false, Bool.not_true, Bool.not_false, subD_ap, ltD_ap, leD_ap, gtD_ap, geD_ap, mulD_ap, modD_ap, divD_ap, powD_ap, tupK_ok, lstK_ok, methK_ok, tupG_ok, eqS_t, eqS_f, neS_t, neS_f, eqI_ap, neI_ap, inT_nil, inT_hit, inT_miss, ne_eq, not_false_eq_true, f_besides_of, b_besides_of, jx0, jx2, jx3, sz (by decide : 2 ≤ 100), sz (by decide : 3 ≤ 100)]
  · simp -implicitDefEqProofs +decide only [varF_ap, cF_ap, opF_ap, opK_ap, bF_ap, boolK_ap, andT_ap, andK_ap, orT_ap, orK_ap, notT_ap, notK_ap, yesT_ap, andV_ap, andVK_ap, orV_ap, orVK_ap, notV_ap, notVK_ap, ifF_ap, ifFK_ap, nilA_ap, consA_ap, consK_ap, consJ_ap, tupA_ap, lstA_ap, newO_ap, dicF_ap, callF_ap, un1_ap, methF_ap, nonO_ap, someO_ap, someK_ap, slF_ap, slK_ap, slJ_ap, itF_ap, itA_ap, nilS_ap, bkS_ap, ctS_ap, seqS_ap, seqK_nx, seqK_rt, seqK_bk, seqK_ct, dropS_ap, dropK_ap, retS_ap, retK_ap, retN_ap, ifS_ap, ifK_ap, setS_ap, setK_ap, asgS_ap, asgK_ap, asgJ_ap, nameG_ap, nilG_ap, consG_ap, consGK_ap, fnF_ap, fnK_nx, fnK_rt, forS_ap, forK_ap, negD_ap, addI_ap, varK_ap, startE, yes2, isN, List.map_cons, List.map_nil, List.length_cons, List.length_nil, List.replicate, List.append_nil, List.cons_append, List.nil_append, List.getElem?_cons_zero, List.getElem?_cons_succ, List.set_cons_zero, List.set_cons_succ, R.bind_ok, R.bind_ex, R.bind_bad, R.noex_ok, if_true, if_false, Bool.false_eq_true, Bool.true_eq_false, ite_true, ite_false, reduceIte, Nat.reduceAdd, Nat.reduceSub, Nat.zero_add, Nat.sub_self, Nat.sub_zero, decide_true, decide_false, Bool.not_true, Bool.not_false, subD_ap, ltD_ap, leD_ap, gtD_ap, geD_ap, mulD_ap, modD_ap, divD_ap, powD_ap, tupK_ok, lstK_ok, methK_ok, tupG_ok, eqS_t, eqS_f, neS_t, neS_f, eqI_ap, neI_ap, inT_nil, inT_hit, inT_miss, ne_eq, not_false_eq_true, f_besides_of, b_besides_of, jx0, jx2, jx3, jx4, sz (by decide : 3 ≤ 100)]
theorem bs2_ne {w : Str} {args : List VL.D} {y : Int} (h : w ≠ "left") : bs2 w args y = args := if_neg h
theorem four_nl {w : Str} (h : w ∈ four) : w ≠ "left" := by rcases four_ne h with rfl | rfl | rfl | rfl <;> decide
theorem bes_two {w : Str} {args : List VL.D} {a b : VL.D} {y : Int} {st : Sto} (h : Two w args) : f_besides_of [.tup (.str w :: a :: b :: args), .int y] st = .ok (.tup (bs2 w args y)) st := by
  rcases h with ⟨hw, rfl⟩ | ⟨hw, ps, rfl, h⟩
  · rw [bs2_ne (four_nl hw)]; rcases four_ne hw with rfl | rfl | rfl | rfl <;> (simp -implicitDefEqProofs +decide only [varF_ap, cF_ap, opF_ap, opK_ap, bF_ap, boolK_ap, andT_ap, andK_ap, orT_ap, orK_ap, notT_ap, notK_ap, yesT_ap, andV_ap, andVK_ap, orV_ap, orVK_ap, notV_ap, notVK_ap, ifF_ap, ifFK_ap, nilA_ap, consA_ap, consK_ap, consJ_ap, tupA_ap, lstA_ap, newO_ap, dicF_ap, callF_ap, un1_ap, methF_ap, nonO_ap, someO_ap, someK_ap, slF_ap, slK_ap, slJ_ap, itF_ap, itA_ap, nilS_ap, bkS_ap, ctS_ap, seqS_ap, seqK_nx, seqK_rt, seqK_bk, seqK_ct, dropS_ap, dropK_ap, retS_ap, retK_ap, retN_ap, ifS_ap, ifK_ap, setS_ap, setK_ap, asgS_ap, asgK_ap, asgJ_ap, nameG_ap, nilG_ap, consG_ap, consGK_ap, fnF_ap, fnK_nx, fnK_rt, forS_ap, forK_ap, negD_ap, addI_ap, varK_ap, startE, yes2, isN, List.map_cons, List.map_nil, List.length_cons, List.length_nil, List.replicate, List.append_nil, List.cons_append, List.nil_append, List.getElem?_cons_zero, List.getElem?_cons_succ, List.set_cons_zero, List.set_cons_succ, R.bind_ok, R.bind_ex, R.bind_bad, R.noex_ok, if_true, if_false, Bool.false_eq_true, Bool.true_eq_false, ite_true, ite_false, reduceIte, Nat.reduceAdd, Nat.reduceSub, Nat.zero_add, Nat.sub_self, Nat.sub_zero, decide_true, decide_false, Bool.not_true, Bool.not_false, subD_ap, ltD_ap, leD_ap, gtD_ap, geD_ap, mulD_ap, modD_ap, divD_ap, powD_ap, tupK_ok, lstK_ok, methK_ok, tupG_ok, eqS_t, eqS_f, neS_t, neS_f, eqI_ap, neI_ap, inT_nil, inT_hit, inT_miss, ne_eq, not_false_eq_true, f_besides_of, b_besides_of, jx0, sz (by decide : 0 ≤ 100), sz (by decide : 3 ≤ 100), sz (by decide : 2 ≤ 100)])
  · rcases tri_ne hw with rfl | rfl | rfl
    · rw [bs2_ne (w := "join") (by decide)]; simp -implicitDefEqProofs +decide only [varF_ap, cF_ap, opF_ap, opK_ap, bF_ap, boolK_ap, andT_ap, andK_ap, orT_ap, orK_ap, notT_ap, notK_ap, yesT_ap, andV_ap, andVK_ap, orV_ap, orVK_ap, notV_ap, notVK_ap, ifF_ap, ifFK_ap, nilA_ap, consA_ap, consK_ap, consJ_ap, tupA_ap, lstA_ap, newO_ap, dicF_ap, callF_ap, un1_ap, methF_ap, nonO_ap, someO_ap, someK_ap, slF_ap, slK_ap, slJ_ap, itF_ap, itA_ap, nilS_ap, bkS_ap, ctS_ap, seqS_ap, seqK_nx, seqK_rt, seqK_bk, seqK_ct, dropS_ap, dropK_ap, retS_ap, retK_ap, retN_ap, ifS_ap, ifK_ap, setS_ap, setK_ap, asgS_ap, asgK_ap, asgJ_ap, nameG_ap, nilG_ap, consG_ap, consGK_ap, fnF_ap, fnK_nx, fnK_rt, forS_ap, forK_ap, negD_ap, addI_ap, varK_ap, startE, yes2, isN, List.map_cons, List.map_nil, List.length_cons, List.length_nil, List.replicate, List.append_nil, List.cons_append, List.nil_append, List.getElem?_cons_zero, List.getElem?_cons_succ, List.set_cons_zero, List.set_cons_succ, R.bind_ok, R.bind_ex, R.bind_bad, R.noex_ok, if_true, if_false, Bool.false_eq_true, Bool.true_eq_false, ite_true, ite_false, reduceIte, Nat.reduceAdd, Nat.reduceSub, Nat.zero_add, Nat.sub_self, Nat.sub_zero, decide_true, decide_false, Bool.not_true, Bool.not_false, subD_ap, ltD_ap, leD_ap, gtD_ap, geD_ap, mulD_ap, modD_ap, divD_ap, powD_ap, tupK_ok, lstK_ok, methK_ok, tupG_ok, eqS_t, eqS_f, neS_t, neS_f, eqI_ap, neI_ap, inT_nil, inT_hit, inT_miss, ne_eq, not_false_eq_true, f_besides_of, b_besides_of, jx0, jx3, sz (by decide : 1 ≤ 100), sz (by decide : 3 ≤ 100), sz (by decide : 2 ≤ 100)]
    · unfold bs2; rw [if_pos rfl]; simp -implicitDefEqProofs +decide only [varF_ap, cF_ap, opF_ap, opK_ap, bF_ap, boolK_ap, andT_ap, andK_ap, orT_ap, orK_ap, notT_ap, notK_ap, yesT_ap, andV_ap, andVK_ap, orV_ap, orVK_ap, notV_ap, notVK_ap, ifF_ap, ifFK_ap, nilA_ap, consA_ap, consK_ap, consJ_ap, tupA_ap, lstA_ap, newO_ap, dicF_ap, callF_ap, un1_ap, methF_ap, nonO_ap, someO_ap, someK_ap, slF_ap, slK_ap, slJ_ap, itF_ap, itA_ap, nilS_ap, bkS_ap, ctS_ap, seqS_ap, seqK_nx, seqK_rt, seqK_bk, seqK_ct, dropS_ap, dropK_ap, retS_ap, retK_ap, retN_ap, ifS_ap, ifK_ap, setS_ap, setK_ap, asgS_ap, asgK_ap, asgJ_ap, nameG_ap, nilG_ap, consG_ap, consGK_ap, fnF_ap, fnK_nx, fnK_rt, forS_ap, forK_ap, negD_ap, addI_ap, varK_ap, startE, yes2, isN, List.map_cons, List.map_nil, List.length_cons, List.length_nil, List.replicate, List.append_nil, List.cons_append, List.nil_append, List.getElem?_cons_zero, List.getElem?_cons_succ, List.set_cons_zero, List.set_cons_succ, R.bind_ok, R.bind_ex, R.bind_bad, R.noex_ok, if_true, if_false, Bool.false_eq_true, Bool.true_eq_false, ite_true, ite_false, reduceIte, Nat.reduceAdd, Nat.reduceSub, Nat.zero_add, Nat.sub_self, Nat.sub_zero, decide_true, decide_false, Bool.not_true, Bool.not_false, subD_ap, ltD_ap, leD_ap, gtD_ap, geD_ap, mulD_ap, modD_ap, divD_ap, powD_ap, tupK_ok, lstK_ok, methK_ok, tupG_ok, eqS_t, eqS_f, neS_t, neS_f, eqI_ap, neI_ap, inT_nil, inT_hit, inT_miss, ne_eq, not_false_eq_true, f_besides_of, b_besides_of, jx0, jx3, sz (by decide : 1 ≤ 100), sz (by decide : 3 ≤ 100), sz (by decide : 2 ≤ 100)]
    · rw [bs2_ne (w := "notin") (by decide)]; simp -implicitDefEqProofs +decide only [varF_ap, cF_ap, opF_ap, opK_ap, bF_ap, boolK_ap, andT_ap, andK_ap, orT_ap, orK_ap, notT_ap, notK_ap, yesT_ap, andV_ap, andVK_ap, orV_ap, orVK_ap, notV_ap, notVK_ap, ifF_ap, ifFK_ap, nilA_ap, consA_ap, consK_ap, consJ_ap, tupA_ap, lstA_ap, newO_ap, dicF_ap, callF_ap, un1_ap, methF_ap, nonO_ap, someO_ap, someK_ap, slF_ap, slK_ap, slJ_ap, itF_ap, itA_ap, nilS_ap, bkS_ap, ctS_ap, seqS_ap, seqK_nx, seqK_rt, seqK_bk, seqK_ct, dropS_ap, dropK_ap, retS_ap, retK_ap, retN_ap, ifS_ap, ifK_ap, setS_ap, setK_ap, asgS_ap, asgK_ap, asgJ_ap, nameG_ap, nilG_ap, consG_ap, consGK_ap, fnF_ap, fnK_nx, fnK_rt, forS_ap, forK_ap, negD_ap, addI_ap, varK_ap, startE, yes2, isN, List.map_cons, List.map_nil, List.length_cons, List.length_nil, List.replicate, List.append_nil, List.cons_append, List.nil_append, List.getElem?_cons_zero, List.getElem?_cons_succ, List.set_cons_zero, List.set_cons_succ, R.bind_ok, R.bind_ex, R.bind_bad, R.noex_ok, if_true, if_false, Bool.false_eq_true, Bool.true_eq_false, ite_true, ite_false, reduceIte, Nat.reduceAdd, Nat.reduceSub, Nat.zero_add, Nat.sub_self, Nat.sub_zero, decide_true, decide_false, Bool.not_true, Bool.not_false, subD_ap, ltD_ap, leD_ap, gtD_ap, geD_ap, mulD_ap, modD_ap, divD_ap, powD_ap, tupK_ok, lstK_ok, methK_ok, tupG_ok, eqS_t, eqS_f, neS_t, neS_f, eqI_ap, neI_ap, inT_nil, inT_hit, inT_miss, ne_eq, not_false_eq_true, f_besides_of, b_besides_of, jx0, jx3, sz (by decide : 1 ≤ 100), sz (by decide : 3 ≤ 100), sz (by decide : 2 ≤ 100)]
theorem ix_w {b k : Nat} {W : List Int} {st : Sto} (h : st[b]? = some (.lst (W.map .int))) (hk : k < W.length) : ixD (.ref b) (.int (k : Nat)) st = .ok (.int (W.getD k 0)) st := by
  refine ixD_list (listAt_lst h) ?_
  rw [List.getElem?_map, List.getElem?_eq_getElem hk, List.getD_eq_getElem?_getD, List.getElem?_eq_getElem hk]; rfl
theorem wid_one {w : Str} {args : List VL.D} {b k : Nat} {W : List Int} {st : Sto} (h : One w args) (hb : st[b]? = some (.lst (W.map .int))) (hk : k < W.length) : f_width_of [nod w args [k], .ref b] st = .ok (.int (wd w args (W.getD k 0) 0)) st := by
  have hi := ix_w hb hk
  unfold nod
  rcases h with ⟨rfl, C, rfl, h⟩ | ⟨rfl, rfl⟩ | ⟨rfl, es, rfl, h, k⟩ | ⟨rfl, b, rfl, h⟩ | ⟨hw, p, b, rfl, h⟩ | ⟨rfl, k, b, os, rfl, h, h'⟩
  · simp -implicitDefEqProofs +decide only [varF_ap, cF_ap, opF_ap, opK_ap, bF_ap, boolK_ap, andT_ap, andK_ap, orT_ap, orK_ap, notT_ap, notK_ap, yesT_ap, andV_ap, andVK_ap, orV_ap, orVK_ap, notV_ap, notVK_ap, ifF_ap, ifFK_ap, nilA_ap, consA_ap, consK_ap, consJ_ap, tupA_ap, lstA_ap, newO_ap, dicF_ap, callF_ap, un1_ap, methF_ap, nonO_ap, someO_ap, someK_ap, slF_ap, slK_ap, slJ_ap, itF_ap, itA_ap, nilS_ap, bkS_ap, ctS_ap, seqS_ap, seqK_nx, seqK_rt, seqK_bk, seqK_ct, dropS_ap, dropK_ap, retS_ap, retK_ap, retN_ap, ifS_ap, ifK_ap, setS_ap, setK_ap, asgS_ap, asgK_ap, asgJ_ap, nameG_ap, nilG_ap, consG_ap, consGK_ap, fnF_ap, fnK_nx, fnK_rt, forS_ap, forK_ap, negD_ap, addI_ap, varK_ap, startE, yes2, isN, List.map_cons, List.map_nil, List.length_cons, List.length_nil, List.replicate, List.append_nil, List.cons_append, List.nil_append, List.getElem?_cons_zero, List.getElem?_cons_succ, List.set_cons_zero, List.set_cons_succ, R.bind_ok, R.bind_ex, R.bind_bad, R.noex_ok, if_true, if_false, Bool.false_eq_true, Bool.true_eq_false, ite_true, ite_false, reduceIte, Nat.reduceAdd, Nat.reduceSub, Nat.zero_add, Nat.sub_self, Nat.sub_zero, decide_true, decide_false, Bool.not_true, Bool.not_false, subD_ap, ltD_ap, leD_ap, gtD_ap, geD_ap, mulD_ap, modD_ap, divD_ap, powD_ap, tupK_ok, lstK_ok, methK_ok, tupG_ok, eqS_t, eqS_f, neS_t, neS_f, eqI_ap, neI_ap, inT_nil, inT_hit, inT_miss, ne_eq, not_false_eq_true, f_width_of, b_width_of, jx0, jx2, hi, sz (by decide : 3 ≤ 100), sz (by decide : 2 ≤ 100)]; rfl
  · simp -implicitDefEqProofs +decide only [varF_ap, cF_ap, opF_ap, opK_ap, bF_ap, boolK_ap, andT_ap, andK_ap, orT_ap, orK_ap, notT_ap, notK_ap, yesT_ap, andV_ap, andVK_ap, orV_ap, orVK_ap, notV_ap, notVK_ap, ifF_ap, ifFK_ap, nilA_ap, consA_ap, consK_ap, consJ_ap, tupA_ap, lstA_ap, newO_ap, dicF_ap, callF_ap, un1_ap, methF_ap, nonO_ap, someO_ap, someK_ap, slF_ap, slK_ap, slJ_ap, itF_ap, itA_ap, nilS_ap, bkS_ap, ctS_ap, seqS_ap, seqK_nx, seqK_rt, seqK_bk, seqK_ct, dropS_ap, dropK_ap, retS_ap, retK_ap, retN_ap, ifS_ap, ifK_ap, setS_ap, setK_ap, asgS_ap, asgK_ap, asgJ_ap, nameG_ap, nilG_ap, consG_ap, consGK_ap, fnF_ap, fnK_nx, fnK_rt, forS_ap, forK_ap, negD_ap, addI_ap, varK_ap, startE, yes2, isN, List.map_cons, List.map_nil, List.length_cons, List.length_nil, List.replicate, List.append_nil, List.cons_append, List.nil_append, List.getElem?_cons_zero, List.getElem?_cons_succ, List.set_cons_zero, List.set_cons_succ, R.bind_ok, R.bind_ex, R.bind_bad, R.noex_ok, if_true, if_false, Bool.false_eq_true, Bool.true_eq_false, ite_true, ite_false, reduceIte, Nat.reduceAdd, Nat.reduceSub, Nat.zero_add, Nat.sub_self, Nat.sub_zero, decide_true, decide_false, Bool.not_true, Bool.not_false, subD_ap, ltD_ap, leD_ap, gtD_ap, geD_ap, mulD_ap, modD_ap, divD_ap, powD_ap, tupK_ok, lstK_ok, methK_ok, tupG_ok, eqS_t, eqS_f, neS_t, neS_f, eqI_ap, neI_ap, inT_nil, inT_hit, inT_miss, ne_eq, not_false_eq_true, f_width_of, b_width_of, jx0, jx2, hi, sz (by decide : 3 ≤ 100), sz (by decide : 2 ≤ 100)]; rfl
  · simp -implicitDefEqProofs +decide only [varF_ap, cF_ap, opF_ap, opK_ap, bF_ap, boolK_ap, andT_ap, andK_ap, orT_ap, orK_ap, notT_ap, notK_ap, yesT_ap, andV_ap, andVK_ap, orV_ap, orVK_ap, notV_ap, notVK_ap, ifF_ap, ifFK_ap, nilA_ap, consA_ap, consK_ap, consJ_ap, tupA_ap, lstA_ap, newO_ap, dicF_ap, callF_ap, un1_ap, methF_ap, nonO_ap, someO_ap, someK_ap, slF_ap, slK_ap, slJ_ap, itF_ap, itA_ap, nilS_ap, bkS_ap, ctS_ap, seqS_ap, seqK_nx, seqK_rt, seqK_bk, seqK_ct, dropS_ap, dropK_ap, retS_ap, retK_ap, retN_ap, ifS_ap, ifK_ap, setS_ap, setK_ap, asgS_ap, asgK_ap, asgJ_ap, nameG_ap, nilG_ap, consG_ap, consGK_ap, fnF_ap, fnK_nx, fnK_rt, forS_ap, forK_ap, negD_ap, addI_ap, varK_ap, startE, yes2, isN, List.map_cons, List.map_nil, List.length_cons, List.length_nil, List.replicate, List.append_nil, List.cons_append, List.nil_append, List.getElem?_cons_zero, List.getElem?_cons_succ, List.set_cons_zero, List.set_cons_succ, R.bind_ok, R.bind_ex, R.bind_bad, R.noex_ok, if_true, if_false, Bool.false_eq_true, Bool.true_eq_false, ite_true, ite_false, reduceIte, Nat.reduceAdd, Nat.reduceSub, Nat.zero_add, Nat.sub_self, Nat.sub_zero, decide_true, decide_false, Bool.not_true, Bool.not_false, subD_ap, ltD_ap, leD_ap, gtD_ap, geD_ap, mulD_ap, modD_ap, divD_ap, powD_ap, tupK_ok, lstK_ok, methK_ok, tupG_ok, eqS_t, eqS_f, neS_t, neS_f, eqI_ap, neI_ap, inT_nil, inT_hit, inT_miss, ne_eq, not_false_eq_true, f_width_of, b_width_of, jx0, jx1, lenD_tup, sz (by decide : 3 ≤ 100), sz (by decide : 2 ≤ 100)]; rfl
  · simp -implicitDefEqProofs +decide only [varF_ap, cF_ap, opF_ap, opK_ap, bF_ap, boolK_ap, andT_ap, andK_ap, orT_ap, orK_ap, notT_ap, notK_ap, yesT_ap, andV_ap, andVK_ap, orV_ap, orVK_ap, notV_ap, notVK_ap, ifF_ap, ifFK_ap, nilA_ap, consA_ap, consK_ap, consJ_ap, tupA_ap, lstA_ap, newO_ap, dicF_ap, callF_ap, un1_ap, methF_ap, nonO_ap, someO_ap, someK_ap, slF_ap, slK_ap, slJ_ap, itF_ap, itA_ap, nilS_ap, bkS_ap, ctS_ap, seqS_ap, seqK_nx, seqK_rt, seqK_bk, seqK_ct, dropS_ap, dropK_ap, retS_ap, retK_ap, retN_ap, ifS_ap, ifK_ap, setS_ap, setK_ap, asgS_ap, asgK_ap, asgJ_ap, nameG_ap, nilG_ap, consG_ap, consGK_ap, fnF_ap, fnK_nx, fnK_rt, forS_ap, forK_ap, negD_ap, addI_ap, varK_ap, startE, yes2, isN, List.map_cons, List.map_nil, List.length_cons, List.length_nil, List.replicate, List.append_nil, List.cons_append, List.nil_append, List.getElem?_cons_zero, List.getElem?_cons_succ, List.set_cons_zero, List.set_cons_succ, R.bind_ok, R.bind_ex, R.bind_bad, R.noex_ok, if_true, if_false, Bool.false_eq_true, Bool.true_eq_false, ite_true, ite_false, reduceIte, Nat.reduceAdd, Nat.reduceSub, Nat.zero_add, Nat.sub_self, Nat.sub_zero, decide_true, decide_false, Bool.not_true, Bool.not_false, subD_ap, ltD_ap, leD_ap, gtD_ap, geD_ap, mulD_ap, modD_ap, divD_ap, powD_ap, tupK_ok, lstK_ok, methK_ok, tupG_ok, eqS_t, eqS_f, neS_t, neS_f, eqI_ap, neI_ap, inT_nil, inT_hit, inT_miss, ne_eq, not_false_eq_true, f_width_of, b_width_of, jx0, jx1, lenD_tup, addI_ap, sz (by decide : 3 ≤ 100), sz (by decide : 2 ≤ 100)]; rfl
  · rcases sums_ne hw with rfl | rfl | rfl <;> (simp -implicitDefEqProofs +decide only [varF_ap, cF_ap, opF_ap, opK_ap, bF_ap, boolK_ap, andT_ap, andK_ap, orT_ap, orK_ap, notT_ap, notK_ap, yesT_ap, andV_ap, andVK_ap, orV_ap, orVK_ap, notV_ap, notVK_ap, ifF_ap, ifFK_ap, nilA_ap, consA_ap, consK_ap, consJ_ap, tupA_ap, lstA_ap, newO_ap, dicF_ap, callF_ap, un1_ap, methF_ap, nonO_ap, someO_ap, someK_ap, slF_ap, slK_ap, slJ_ap, itF_ap, itA_ap, nilS_ap, bkS_ap, ctS_ap, seqS_ap, seqK_nx, seqK_rt, seqK_bk, seqK_ct, dropS_ap, dropK_ap, retS_ap, retK_ap, retN_ap, ifS_ap, ifK_ap, setS_ap, setK_ap, asgS_ap, asgK_ap, asgJ_ap, nameG_ap, nilG_ap, consG_ap, consGK_ap, fnF_ap, fnK_nx, fnK_rt, forS_ap, forK_ap, negD_ap, addI_ap, varK_ap, startE, yes2, isN, List.map_cons, List.map_nil, List.length_cons, List.length_nil, List.replicate, List.append_nil, List.cons_append, List.nil_append, List.getElem?_cons_zero, List.getElem?_cons_succ, List.set_cons_zero, List.set_cons_succ, R.bind_ok, R.bind_ex, R.bind_bad, R.noex_ok, if_true, if_false, Bool.false_eq_true, Bool.true_eq_false, ite_true, ite_false, reduceIte, Nat.reduceAdd, Nat.reduceSub, Nat.zero_add, Nat.sub_self, Nat.sub_zero, decide_true, decide_false, Bool.not_true, Bool.not_false, subD_ap, ltD_ap, leD_ap, gtD_ap, geD_ap, mulD_ap, modD_ap, divD_ap, powD_ap, tupK_ok, lstK_ok, methK_ok, tupG_ok, eqS_t, eqS_f, neS_t, neS_f, eqI_ap, neI_ap, inT_nil, inT_hit, inT_miss, ne_eq, not_false_eq_true, f_width_of, b_width_of, jx0, jx1, lenD_tup, addI_ap, sz (by decide : 3 ≤ 100), sz (by decide : 2 ≤ 100)]; rfl)
  · simp -implicitDefEqProofs +decide only [varF_ap, cF_ap, opF_ap, opK_ap, bF_ap, boolK_ap, andT_ap, andK_ap, orT_ap, orK_ap, notT_ap, notK_ap, yesT_ap, andV_ap, andVK_ap, orV_ap, orVK_ap, notV_ap, notVK_ap, ifF_ap, ifFK_ap, nilA_ap, consA_ap, consK_ap, consJ_ap, tupA_ap, lstA_ap, newO_ap, dicF_ap, callF_ap, un1_ap, methF_ap, nonO_ap, someO_ap, someK_ap, slF_ap, slK_ap, slJ_ap, itF_ap, itA_ap, nilS_ap, bkS_ap, ctS_ap, seqS_ap, seqK_nx, seqK_rt, seqK_bk, seqK_ct, dropS_ap, dropK_ap, retS_ap, retK_ap, retN_ap, ifS_ap, ifK_ap, setS_ap, setK_ap, asgS_ap, asgK_ap, asgJ_ap, nameG_ap, nilG_ap, consG_ap, consGK_ap, fnF_ap, fnK_nx, fnK_rt, forS_ap, forK_ap, negD_ap, addI_ap, varK_ap, startE, yes2, isN, List.map_cons, List.map_nil, List.length_cons, List.length_nil, List.replicate, List.append_nil, List.cons_append, List.nil_append, List.getElem?_cons_zero, List.getElem?_cons_succ, List.set_cons_zero, List.set_cons_succ, R.bind_ok, R.bind_ex, R.bind_bad, R.noex_ok, if_true, if_false, Bool.false_eq_true, Bool.true_eq_false, ite_true, ite_false, reduceIte, Nat.reduceAdd, Nat.reduceSub, Nat.zero_add, Nat.sub_self, Nat.sub_zero, decide_true, decide_false, Bool.not_true, Bool.not_false, subD_ap, ltD_ap, leD_ap, gtD_ap, geD_ap, mulD_ap, modD_ap, divD_ap, powD_ap, tupK_ok, lstK_ok, methK_ok, tupG_ok, eqS_t, eqS_f, neS_t, neS_f, eqI_ap, neI_ap, inT_nil, inT_hit, inT_miss, ne_eq, not_false_eq_true, f_width_of, b_width_of, jx0, jx2, hi, sz (by decide : 3 ≤ 100), sz (by decide : 2 ≤ 100)]; rfl
theorem wid_two {w : Str} {args bs : List VL.D} {b k j : Nat} {W : List Int} {st : Sto} (h : Two w args) (hb : st[b]? = some (.lst (W.map .int))) (hk : k < W.length) (hj : j < W.length) : f_width_of [nod w bs [k, j], .ref b] st = .ok (.int (wd w args (W.getD k 0) (W.getD j 0))) st := by
  have hi := ix_w hb hk
  have hi2 := ix_w hb hj
  unfold nod
  rcases h with ⟨hw, rfl⟩ | ⟨hw, ps, rfl, h⟩
  · rcases four_ne hw with rfl | rfl | rfl | rfl <;> (simp -implicitDefEqProofs +decide only [varF_ap, cF_ap, opF_ap, opK_ap, bF_ap, boolK_ap, andT_ap, andK_ap, orT_ap, orK_ap, notT_ap, notK_ap, yesT_ap, andV_ap, andVK_ap, orV_ap, orVK_ap, notV_ap, notVK_ap, ifF_ap, ifFK_ap, nilA_ap, consA_ap, consK_ap, consJ_ap, tupA_ap, lstA_ap, newO_ap, dicF_ap, callF_ap, un1_ap, methF_ap, nonO_ap, someO_ap, someK_ap, slF_ap, slK_ap, slJ_ap, itF_ap, itA_ap, nilS_ap, bkS_ap, ctS_ap, seqS_ap, seqK_nx, seqK_rt, seqK_bk, seqK_ct, dropS_ap, dropK_ap, retS_ap, retK_ap, retN_ap, ifS_ap, ifK_ap, setS_ap, setK_ap, asgS_ap, asgK_ap, asgJ_ap, nameG_ap, nilG_ap, consG_ap, consGK_ap, fnF_ap, fnK_nx, fnK_rt, forS_ap, forK_ap, negD_ap, addI_ap, varK_ap, startE, yes2, isN, List.map_cons, List.map_nil, List.length_cons, List.length_nil, List.replicate, List.append_nil, List.cons_append, List.nil_append, List.getElem?_cons_zero, List.getElem?_cons_succ, List.set_cons_zero, List.set_cons_succ, R.bind_ok, R.bind_ex, R.bind_bad, R.noex_ok, if_true, if_false, Bool.false_eq_true, Bool.true_eq_false, ite_true, ite_false, reduceIte, Nat.reduceAdd, Nat.reduceSub, Nat.zero_add, Nat.sub_self, Nat.sub_zero, decide_true, decide_false, Bool.not_true, Bool.not_false, subD_ap, ltD_ap, leD_ap, gtD_ap, geD_ap, mulD_ap, modD_ap, divD_ap, powD_ap, tupK_ok, lstK_ok, methK_ok, tupG_ok, eqS_t, eqS_f, neS_t, neS_f, eqI_ap, neI_ap, inT_nil, inT_hit, inT_miss, ne_eq, not_false_eq_true, f_width_of, b_width_of, jx0, jx2, hi, sz (by decide : 3 ≤ 100), sz (by decide : 2 ≤ 100)]; rfl)
  · rcases tri_ne hw with rfl | rfl | rfl <;> (simp -implicitDefEqProofs +decide only [varF_ap, cF_ap, opF_ap, opK_ap, bF_ap, boolK_ap, andT_ap, andK_ap, orT_ap, orK_ap, notT_ap, notK_ap, yesT_ap, andV_ap, andVK_ap, orV_ap, orVK_ap, notV_ap, notVK_ap, ifF_ap, ifFK_ap, nilA_ap, consA_ap, consK_ap, consJ_ap, tupA_ap, lstA_ap, newO_ap, dicF_ap, callF_ap, un1_ap, methF_ap, nonO_ap, someO_ap, someK_ap, slF_ap, slK_ap, slJ_ap, itF_ap, itA_ap, nilS_ap, bkS_ap, ctS_ap, seqS_ap, seqK_nx, seqK_rt, seqK_bk, seqK_ct, dropS_ap, dropK_ap, retS_ap, retK_ap, retN_ap, ifS_ap, ifK_ap, setS_ap, setK_ap, asgS_ap, asgK_ap, asgJ_ap, nameG_ap, nilG_ap, consG_ap, consGK_ap, fnF_ap, fnK_nx, fnK_rt, forS_ap, forK_ap, negD_ap, addI_ap, varK_ap, startE, yes2, isN, List.map_cons, List.map_nil, List.length_cons, List.length_nil, List.replicate, List.append_nil, List.cons_append, List.nil_append, List.getElem?_cons_zero, List.getElem?_cons_succ, List.set_cons_zero, List.set_cons_succ, R.bind_ok, R.bind_ex, R.bind_bad, R.noex_ok, if_true, if_false, Bool.false_eq_true, Bool.true_eq_false, ite_true, ite_false, reduceIte, Nat.reduceAdd, Nat.reduceSub, Nat.zero_add, Nat.sub_self, Nat.sub_zero, decide_true, decide_false, Bool.not_true, Bool.not_false, subD_ap, ltD_ap, leD_ap, gtD_ap, geD_ap, mulD_ap, modD_ap, divD_ap, powD_ap, tupK_ok, lstK_ok, methK_ok, tupG_ok, eqS_t, eqS_f, neS_t, neS_f, eqI_ap, neI_ap, inT_nil, inT_hit, inT_miss, ne_eq, not_false_eq_true, f_width_of, b_width_of, jx0, jx1, jx2, hi, hi2, addI_ap, sz (by decide : 3 ≤ 100), sz (by decide : 2 ≤ 100)]; rfl)
/-! ### the relation -/
noncomputable def lay1 (S : Sn) (w : Str) (args : List VL.D) (k : Nat) : Nat × Sn := S.put (nod w args [k]) (wd w args (S.W.getD k 0) 0)
noncomputable def lay2 (S : Sn) (w : Str) (args : List VL.D) (k j : Nat) : Nat × Sn := S.put (nod w (bs2 w args (S.W.getD j 0)) [k, j]) (wd w args (S.W.getD k 0) (S.W.getD j 0))
/-- a pour and a once of it -/
noncomputable def rnd (S : Sn) (k j : Nat) : Nat × Sn := lay1 (lay2 S "pour" [] k j).2 "once" [] (lay2 S "pour" [] k j).1
inductive Lay : List (VL.D × VL.D) → Sn → VL.D → Nat → Sn → Nat → Prop
  | name {W : List (VL.D × VL.D)} {S : Sn} {n : Str} {k d : Nat} : dget W (.str n) = some (.int (k : Nat)) → k < S.L.length → Lay W S (.tup [.str "name", .str n]) k S d
  | one {W : List (VL.D × VL.D)} {S S1 : Sn} {w : Str} {a : VL.D} {args : List VL.D} {k d : Nat} : One w args → Lay W S a k S1 d → Lay W S (.tup (.str w :: a :: args)) (lay1 S1 w args k).1 (lay1 S1 w args k).2 (d + 1)
  | two {W : List (VL.D × VL.D)} {S S1 S2 : Sn} {w : Str} {a b : VL.D} {args : List VL.D} {k j d : Nat} : Two w args → Lay W S a k S1 d → Lay W S1 b j S2 d → Lay W S (.tup (.str w :: a :: b :: args)) (lay2 S2 w args k j).1 (lay2 S2 w args k j).2 (d + 1)
  | rounds {W : List (VL.D × VL.D)} {S S1 : Sn} {n : Str} {a b : VL.D} {k d K : Nat} {f g : Nat → Nat} {T U : Nat → Sn} : Lay W S a k S1 d → (f 0, T 0) = lay1 S1 "once" [] k →
      (∀ t, t < K → Lay (dput W (.str n) (.int (f t : Nat))) (T t) b (g t) (U t) d) → (∀ t, t < K → (f (t + 1), T (t + 1)) = rnd (U t) (f t) (g t)) → K ≤ 6 → Lay W S (.tup [.str "rounds", .str n, .int (K : Nat), a, b]) (f K) (T K) (d + 1)
theorem one_once : One "once" [] := .inr (.inl ⟨rfl, rfl⟩)
theorem two_pour : Two "pour" [] := .inl ⟨by decide, rfl⟩
theorem lay1_le (S : Sn) (w : Str) (args : List VL.D) (k : Nat) : S.le (lay1 S w args k).2 ∧ (lay1 S w args k).1 < (lay1 S w args k).2.L.length ∧ (lay1 S w args k).2.L.length ≤ S.L.length + 1 := S.put_le _ _
theorem lay2_le (S : Sn) (w : Str) (args : List VL.D) (k j : Nat) : S.le (lay2 S w args k j).2 ∧ (lay2 S w args k j).1 < (lay2 S w args k j).2.L.length ∧ (lay2 S w args k j).2.L.length ≤ S.L.length + 1 := S.put_le _ _
theorem lay1_ok {S : Sn} {w : Str} {args : List VL.D} {k : Nat} (h : OkS S) (ho : One w args) : OkS (lay1 S w args k).2 := h.put (nod_ok (by have := ho.len; omega) ho.pl (by simp))
theorem lay2_ok {S : Sn} {w : Str} {args : List VL.D} {k j : Nat} (h : OkS S) (ho : Two w args) : OkS (lay2 S w args k j).2 := h.put (nod_ok (bs2_pl ho).1 (bs2_pl ho).2 (by simp))
theorem rnd_le (S : Sn) (k j : Nat) : S.le (rnd S k j).2 ∧ (rnd S k j).1 < (rnd S k j).2.L.length ∧ (rnd S k j).2.L.length ≤ S.L.length + 2 := by
  obtain ⟨h1, h2, h3⟩ := lay2_le S "pour" [] k j
  obtain ⟨k1, k2, k3⟩ := lay1_le (lay2 S "pour" [] k j).2 "once" [] (lay2 S "pour" [] k j).1
  exact ⟨h1.trans k1, k2, by unfold rnd; omega⟩
theorem rnd_ok {S : Sn} {k j : Nat} (h : OkS S) : OkS (rnd S k j).2 := lay1_ok (lay2_ok h two_pour) one_once
theorem Lay.up {W : List (VL.D × VL.D)} {S S' : Sn} {v : VL.D} {k d : Nat} (h : Lay W S v k S' d) : Lay W S v k S' (d + 1) := by
  induction h with
  | name h hk => exact .name h hk
  | one h _ ih => exact .one h ih
  | two h _ _ i1 i2 => exact .two h i1 i2
  | rounds h h0 hs hr hK i1 i2 => exact .rounds i1 h0 i2 hr hK
theorem Lay.ups {W : List (VL.D × VL.D)} {S S' : Sn} {v : VL.D} {k d e : Nat} (h : Lay W S v k S' d) (le : d ≤ e) : Lay W S v k S' e := by
  induction le with
  | refl => exact h
  | step _ ih => exact ih.up
theorem Lay.facts {W : List (VL.D × VL.D)} {S S' : Sn} {v : VL.D} {k d : Nat} (h : Lay W S v k S' d) : S.le S' ∧ k < S'.L.length ∧ (OkS S → OkS S') := by
  induction h with
  | name h hk => exact ⟨Sn.le_refl _, hk, id⟩
  | @one W S S1 w a args k d h _ ih => exact ⟨ih.1.trans (lay1_le _ _ _ _).1, (lay1_le _ _ _ _).2.1, fun o => lay1_ok (ih.2.2 o) h⟩
  | two h _ _ i1 i2 => exact ⟨(i1.1.trans i2.1).trans (lay2_le _ _ _ _ _).1, (lay2_le _ _ _ _ _).2.1, fun o => lay2_ok (i2.2.2 (i1.2.2 o)) h⟩
  | @rounds W S S1 n a b k d K f g T U h h0 hs hr hK i1 i2 =>
    have H : ∀ t, t ≤ K → S.le (T t) ∧ f t < (T t).L.length ∧ (OkS S → OkS (T t)) := by
      intro t
      induction t with
      | zero =>
        intro _
        have e1 : f 0 = (lay1 S1 "once" [] k).1 := congrArg Prod.fst h0
        have e2 : T 0 = (lay1 S1 "once" [] k).2 := congrArg Prod.snd h0
        rw [e1, e2]
        exact ⟨i1.1.trans (lay1_le _ _ _ _).1, (lay1_le _ _ _ _).2.1, fun o => lay1_ok (i1.2.2 o) one_once⟩
      | succ t ih =>
        intro ht
        obtain ⟨j1, j2, j3⟩ := ih (by omega)
        obtain ⟨m1, m2, m3⟩ := i2 t (by omega)
        have e1 : f (t + 1) = (rnd (U t) (f t) (g t)).1 := congrArg Prod.fst (hr t (by omega))
        have e2 : T (t + 1) = (rnd (U t) (f t) (g t)).2 := congrArg Prod.snd (hr t (by omega))
        rw [e1, e2]
        exact ⟨(j1.trans m1).trans (rnd_le _ _ _).1, (rnd_le _ _ _).2.1, fun o => rnd_ok (m3 (j3 o))⟩
    exact H K (Nat.le_refl _)
end Law

namespace Law
open PySem L2 VL
/-! what the program lays is the relation's -/
def fnC (fn : Fn) (n : Nat) (ds : List VL.D) (s : Sto) : R VL.D := fn (.ref n :: ds) s
def methOK (c m : Str) (fn : Fn) (fa : AF) (env : EnvD) (d : VL.D) (s : Sto) : R VL.D := match d with
  | .ref n => (match insAt c s n with
    | some fs => if (fs.lookup m).isNone = true then (fa env s).bind (fnC fn n) else .bad
    | none => .bad)
  | _ => .bad
theorem methO_ap {c m : Str} {fn : Fn} {fo : EF} {fa : AF} {env : EnvD} {st : Sto} : methO c m fn fo fa env st = (fo env st).bind (methOK c m fn fa env) := rfl
theorem fnC_ap {fn : Fn} {n : Nat} {ds : List VL.D} {s : Sto} : fnC fn n ds s = fn (.ref n :: ds) s := rfl
theorem net_meth {a b c n : Nat} {m : Str} {fn : Fn} {fa : AF} {env : EnvD} {s : Sto} (h : s[n]? = some (NET a b c)) (hm : m ≠ "laid" ∧ m ≠ "wide" ∧ m ≠ "numbers") : methOK "Net" m fn fa env (.ref n) s = (fa env s).bind (fnC fn n) := by
  have e := insAt_ins (c := "Net") h
  have b1 : (m == PySem.Str.ofString "laid") = false := beq_eq_false_iff_ne.mpr hm.1
  have b2 : (m == PySem.Str.ofString "wide") = false := beq_eq_false_iff_ne.mpr hm.2.1
  have b3 : (m == PySem.Str.ofString "numbers") = false := beq_eq_false_iff_ne.mpr hm.2.2
  have l : (List.lookup m [(PySem.Str.ofString "laid", VL.D.ref a), (PySem.Str.ofString "wide", .ref b), (PySem.Str.ofString "numbers", .ref c)]) = none := by simp only [List.lookup, b1, b2, b3]
  unfold methOK
  simp only [e]
  rw [if_pos]
  exact Option.isNone_iff_eq_none.mpr l
section
variable {n a b c : Nat} {S : Sn} {st : Sto}
/-- the net as it lies -/
structure Nt (n a b c : Nat) (S : Sn) (st : Sto) : Prop where
  net : st[n]? = some (NET a b c)
  at_ : At a b c S st
theorem Nt.kp {st' : Sto} (h : Nt n a b c S st) (k : Kp [] st st') : Nt n a b c S st' := ⟨k _ _ (by simp) h.net, h.at_.kp k (by simp) (by simp) (by simp)⟩
theorem mput {m : Str} (hm : m = "put" ∨ m = "worded" ∨ m = "lay" ∨ m = "lay_rounds") : m ≠ "laid" ∧ m ≠ "wide" ∧ m ≠ "numbers" := by
  rcases hm with rfl | rfl | rfl | rfl <;> decide
theorem worded1 {w : Str} {args : List VL.D} {k : Nat} (h : Nt n a b c S st) (hab : a ≠ b) (ok : OkS S) (hw : One w args) (hk : k < S.L.length) (hz : S.L.length < sizeLine) :
    ∃ st', f_Net_worded [.ref n, .str w, .tup args, .tup [.int (k : Nat)]] st = .ok (.int ((lay1 S w args k).1 : Nat)) st' ∧ Nt n a b c (lay1 S w args k).2 st' ∧ Kp [a, b, c] st st' := by
  obtain ⟨st', h1, h2, h3⟩ := put_ok (w := wd w args (S.W.getD k 0) 0) h.net h.at_ hab ok (nod_ok (w := w) (ks := [k]) (by have := hw.len; omega) hw.pl (by simp)) hz
  have nn := net_ne h.net h.at_
  have m1 : ∀ {fa : AF} {env : EnvD}, methOK "Net" "put" f_Net_put fa env (.ref n) st = (fa env st).bind (fnC f_Net_put n) := net_meth h.net (mput (.inl rfl))
  obtain ⟨_, f2, _⟩ := net_fld h.net
  have wo := wid_one hw h.at_.w (by rw [ok.len]; exact hk)
  have nd : nod w args [k] = .tup [.str w, .tup args, .tup [.int (k : Nat)]] := rfl
  rw [nd] at h1 wo
  exact ⟨st', by simp -implicitDefEqProofs +decide only [varF_ap, cF_ap, opF_ap, opK_ap, bF_ap, boolK_ap, andT_ap, andK_ap, orT_ap, orK_ap, notT_ap, notK_ap, yesT_ap, andV_ap, andVK_ap, orV_ap, orVK_ap, notV_ap, notVK_ap, ifF_ap, ifFK_ap, nilA_ap, consA_ap, consK_ap, consJ_ap, tupA_ap, lstA_ap, newO_ap, dicF_ap, callF_ap, un1_ap, methF_ap, nonO_ap, someO_ap, someK_ap, slF_ap, slK_ap, slJ_ap, itF_ap, itA_ap, nilS_ap, bkS_ap, ctS_ap, seqS_ap, seqK_nx, seqK_rt, seqK_bk, seqK_ct, dropS_ap, dropK_ap, retS_ap, retK_ap, retN_ap, ifS_ap, ifK_ap, setS_ap, setK_ap, asgS_ap, asgK_ap, asgJ_ap, nameG_ap, nilG_ap, consG_ap, consGK_ap, fnF_ap, fnK_nx, fnK_rt, forS_ap, forK_ap, negD_ap, addI_ap, varK_ap, startE, yes2, isN, List.map_cons, List.map_nil, List.length_cons, List.length_nil, List.replicate, List.append_nil, List.cons_append, List.nil_append, List.getElem?_cons_zero, List.getElem?_cons_succ, List.set_cons_zero, List.set_cons_succ, R.bind_ok, R.bind_ex, R.bind_bad, R.noex_ok, if_true, if_false, Bool.false_eq_true, Bool.true_eq_false, ite_true, ite_false, reduceIte, Nat.reduceAdd, Nat.reduceSub, Nat.zero_add, Nat.sub_self, Nat.sub_zero, decide_true, decide_false, Bool.not_true, Bool.not_false, subD_ap, ltD_ap, leD_ap, gtD_ap, geD_ap, mulD_ap, modD_ap, divD_ap, powD_ap, tupK_ok, lstK_ok, methK_ok, tupG_ok, eqS_t, eqS_f, neS_t, neS_f, eqI_ap, neI_ap, inT_nil, inT_hit, inT_miss, ne_eq, not_false_eq_true, f_Net_worded, b_Net_worded, methO_ap, fnC_ap, m1, f2, wo, h1, sz (by decide : 3 ≤ 100)]; rfl, ⟨h3 _ _ nn h.net, h2⟩, h3⟩
theorem worded2 {w : Str} {args : List VL.D} {k j : Nat} (h : Nt n a b c S st) (hab : a ≠ b) (ok : OkS S) (hw : Two w args) (hk : k < S.L.length) (hj : j < S.L.length) (hz : S.L.length < sizeLine) :
    ∃ st', f_Net_worded [.ref n, .str w, .tup (bs2 w args (S.W.getD j 0)), .tup [.int (k : Nat), .int (j : Nat)]] st = .ok (.int ((lay2 S w args k j).1 : Nat)) st' ∧ Nt n a b c (lay2 S w args k j).2 st' ∧ Kp [a, b, c] st st' := by
  obtain ⟨st', h1, h2, h3⟩ := put_ok (w := wd w args (S.W.getD k 0) (S.W.getD j 0)) h.net h.at_ hab ok (nod_ok (w := w) (ks := [k, j]) (bs2_pl (y := S.W.getD j 0) hw).1 (bs2_pl hw).2 (by simp)) hz
  have nn := net_ne h.net h.at_
  have m1 : ∀ {fa : AF} {env : EnvD}, methOK "Net" "put" f_Net_put fa env (.ref n) st = (fa env st).bind (fnC f_Net_put n) := net_meth h.net (mput (.inl rfl))
  obtain ⟨_, f2, _⟩ := net_fld h.net
  have wo := wid_two (bs := bs2 w args (S.W.getD j 0)) hw h.at_.w (by rw [ok.len]; exact hk) (by rw [ok.len]; exact hj)
  have nd : nod w (bs2 w args (S.W.getD j 0)) [k, j] = .tup [.str w, .tup (bs2 w args (S.W.getD j 0)), .tup [.int (k : Nat), .int (j : Nat)]] := rfl
  rw [nd] at h1 wo
  exact ⟨st', by simp -implicitDefEqProofs +decide only [varF_ap, cF_ap, opF_ap, opK_ap, bF_ap, boolK_ap, andT_ap, andK_ap, orT_ap, orK_ap, notT_ap, notK_ap, yesT_ap, andV_ap, andVK_ap, orV_ap, orVK_ap, notV_ap, notVK_ap, ifF_ap, ifFK_ap, nilA_ap, consA_ap, consK_ap, consJ_ap, tupA_ap, lstA_ap, newO_ap, dicF_ap, callF_ap, un1_ap, methF_ap, nonO_ap, someO_ap, someK_ap, slF_ap, slK_ap, slJ_ap, itF_ap, itA_ap, nilS_ap, bkS_ap, ctS_ap, seqS_ap, seqK_nx, seqK_rt, seqK_bk, seqK_ct, dropS_ap, dropK_ap, retS_ap, retK_ap, retN_ap, ifS_ap, ifK_ap, setS_ap, setK_ap, asgS_ap, asgK_ap, asgJ_ap, nameG_ap, nilG_ap, consG_ap, consGK_ap, fnF_ap, fnK_nx, fnK_rt, forS_ap, forK_ap, negD_ap, addI_ap, varK_ap, startE, yes2, isN, List.map_cons, List.map_nil, List.length_cons, List.length_nil, List.replicate, List.append_nil, List.cons_append, List.nil_append, List.getElem?_cons_zero, List.getElem?_cons_succ, List.set_cons_zero, List.set_cons_succ, R.bind_ok, R.bind_ex, R.bind_bad, R.noex_ok, if_true, if_false, Bool.false_eq_true, Bool.true_eq_false, ite_true, ite_false, reduceIte, Nat.reduceAdd, Nat.reduceSub, Nat.zero_add, Nat.sub_self, Nat.sub_zero, decide_true, decide_false, Bool.not_true, Bool.not_false, subD_ap, ltD_ap, leD_ap, gtD_ap, geD_ap, mulD_ap, modD_ap, divD_ap, powD_ap, tupK_ok, lstK_ok, methK_ok, tupG_ok, eqS_t, eqS_f, neS_t, neS_f, eqI_ap, neI_ap, inT_nil, inT_hit, inT_miss, ne_eq, not_false_eq_true, f_Net_worded, b_Net_worded, methO_ap, fnC_ap, m1, f2, wo, h1, sz (by decide : 3 ≤ 100)]; rfl, ⟨h3 _ _ nn h.net, h2⟩, h3⟩
/-- the names' dict as it lies -/
structure Dc (r : Nat) (W : List (VL.D × VL.D)) (st : Sto) : Prop where
  at_ : st[r]? = some (.dic W)
  ok : keysOk W = true
theorem keysOk_put {W : List (VL.D × VL.D)} {s : Str} {v : VL.D} (h : keysOk W = true) : keysOk (dput W (.str s) v) = true := by
  unfold keysOk at h ⊢
  unfold dput
  split
  · rw [List.all_map]
    rw [List.all_eq_true] at h ⊢
    intro p hp
    show isKD (if keyQ p.1 (.str s) = true then (p.1, v) else p).1 = true
    split <;> exact h p hp
  · rw [List.all_append, h]; rfl
theorem dput_len {W : List (VL.D × VL.D)} {s : Str} {v : VL.D} : (dput W (.str s) v).length ≤ W.length + 1 := by
  unfold dput
  split
  · rw [List.length_map]; omega
  · rw [List.length_append]; exact Nat.le_refl _
theorem dix_at {r : Nat} {W : List (VL.D × VL.D)} {s : Str} {d : VL.D} (h : Dc r W st) (hd : dget W (.str s) = some d) : dixD (.ref r) (.str s) st = .ok d st := by
  simp only [dixD, h.at_, h.ok, isKD, Bool.and_self, if_true, hd]
theorem dict_at {r : Nat} {W : List (VL.D × VL.D)} (h : Dc r W st) : dictD [.ref r] st = .ok (.ref st.length) (st ++ [.dic W]) := by
  simp only [dictD, h.at_, h.ok, if_true]; rfl
theorem dputS_ap {fv fo fk : EF} {env : EnvD} {st s1 s2 s3 : Sto} {v : VL.D} {k : Str} {n : Nat} {kvs : List (VL.D × VL.D)} (h1 : fv env st = .ok v s1) (h2 : fo env s1 = .ok (.ref n) s2) (h3 : fk env s2 = .ok (.str k) s3) (h4 : s3[n]? = some (.dic kvs)) (h5 : keysOk kvs = true) (h7 : kvs.length < sizeLine) : dputS fv fo fk env st = .ok (.nx env) (s3.set n (.dic (dput kvs (.str k) v))) := by
  unfold dputS
  rw [h1, R.bind_ok, h2, R.bind_ok, h3, R.bind_ok]
  simp only [h4, h5, isKD, decide_eq_true h7, Bool.and_self, if_true]
theorem One.word {w : Str} {args : List VL.D} (h : One w args) : w ≠ "name" ∧ w ≠ "rounds" ∧ w ∈ eight ∧ w ∉ seven := by
  rcases h with ⟨rfl, C, rfl, h⟩ | ⟨rfl, rfl⟩ | ⟨rfl, es, rfl, h, k⟩ | ⟨rfl, b, rfl, h⟩ | ⟨hw, p, b, rfl, h⟩ | ⟨rfl, k, b, os, rfl, h, h'⟩
  · decide
  · decide
  · decide
  · decide
  · rcases sums_ne hw with rfl | rfl | rfl <;> decide
  · decide
theorem Two.word {w : Str} {args : List VL.D} (h : Two w args) : w ≠ "name" ∧ w ≠ "rounds" ∧ w ∈ seven := by
  rcases h with ⟨hw, rfl⟩ | ⟨hw, ps, rfl, h⟩
  · rcases four_ne hw with rfl | rfl | rfl | rfl <;> decide
  · rcases tri_ne hw with rfl | rfl | rfl <;> decide
theorem in7 {neg : Bool} {w : Str} {s : Sto} (h : w ∈ seven) : inSq neg (.str w) (.tup [.str "join", .str "left", .str "notin", .str "pour", .str "both", .str "either", .str "less"]) s = .ok (.bl (!neg)) s := by
  have : w = "join" ∨ w = "left" ∨ w = "notin" ∨ w = "pour" ∨ w = "both" ∨ w = "either" ∨ w = "less" := by simpa [seven] using h
  rcases this with rfl | rfl | rfl | rfl | rfl | rfl | rfl <;> simp -implicitDefEqProofs +decide only [varF_ap, cF_ap, opF_ap, opK_ap, bF_ap, boolK_ap, andT_ap, andK_ap, orT_ap, orK_ap, notT_ap, notK_ap, yesT_ap, andV_ap, andVK_ap, orV_ap, orVK_ap, notV_ap, notVK_ap, ifF_ap, ifFK_ap, nilA_ap, consA_ap, consK_ap, consJ_ap, tupA_ap, lstA_ap, newO_ap, dicF_ap, callF_ap, un1_ap, methF_ap, nonO_ap, someO_ap, someK_ap, slF_ap, slK_ap, slJ_ap, itF_ap, itA_ap, nilS_ap, bkS_ap, ctS_ap, seqS_ap, seqK_nx, seqK_rt, seqK_bk, seqK_ct, dropS_ap, dropK_ap, retS_ap, retK_ap, retN_ap, ifS_ap, ifK_ap, setS_ap, setK_ap, asgS_ap, asgK_ap, asgJ_ap, nameG_ap, nilG_ap, consG_ap, consGK_ap, fnF_ap, fnK_nx, fnK_rt, forS_ap, forK_ap, negD_ap, addI_ap, varK_ap, startE, yes2, isN, List.map_cons, List.map_nil, List.length_cons, List.length_nil, List.replicate, List.append_nil, List.cons_append, List.nil_append, List.getElem?_cons_zero, List.getElem?_cons_succ, List.set_cons_zero, List.set_cons_succ, R.bind_ok, R.bind_ex, R.bind_bad, R.noex_ok, if_true, if_false, Bool.false_eq_true, Bool.true_eq_false, ite_true, ite_false, reduceIte, Nat.reduceAdd, Nat.reduceSub, Nat.zero_add, Nat.sub_self, Nat.sub_zero, decide_true, decide_false, Bool.not_true, Bool.not_false, subD_ap, ltD_ap, leD_ap, gtD_ap, geD_ap, mulD_ap, modD_ap, divD_ap, powD_ap, tupK_ok, lstK_ok, methK_ok, tupG_ok, eqS_t, eqS_f, neS_t, neS_f, eqI_ap, neI_ap, inT_nil, inT_hit, inT_miss, ne_eq, not_false_eq_true]
theorem no7 {neg : Bool} {w : Str} {s : Sto} (h : w ∉ seven) : inSq neg (.str w) (.tup [.str "join", .str "left", .str "notin", .str "pour", .str "both", .str "either", .str "less"]) s = .ok (.bl neg) s := by
  have : w ≠ "join" ∧ w ≠ "left" ∧ w ≠ "notin" ∧ w ≠ "pour" ∧ w ≠ "both" ∧ w ≠ "either" ∧ w ≠ "less" := by simpa [seven] using h
  obtain ⟨h1, h2, h3, h4, h5, h6, h7⟩ := this
  rw [inT_miss h1, inT_miss h2, inT_miss h3, inT_miss h4, inT_miss h5, inT_miss h6, inT_miss h7, inT_nil]
end
end Law

namespace Law
open PySem L2 VL
/-! what the program lays -/
theorem nt_lt {n a b c : Nat} {S : Sn} {st : Sto} (h : Nt n a b c S st) : a < st.length ∧ b < st.length ∧ c < st.length := ⟨(List.getElem?_eq_some_iff.mp h.at_.l).1, (List.getElem?_eq_some_iff.mp h.at_.w).1, (List.getElem?_eq_some_iff.mp h.at_.d).1⟩
theorem dc_ne {n a b c r : Nat} {S : Sn} {W : List (VL.D × VL.D)} {st : Sto} (h : Nt n a b c S st) (hd : Dc r W st) (hc : r ≠ c) : r ∉ [a, b, c] := by
  intro z
  simp only [List.mem_cons, List.not_mem_nil, or_false] at z
  rcases z with rfl | rfl | rfl
  · have := hd.at_; rw [h.at_.l] at this; cases this
  · have := hd.at_; rw [h.at_.w] at this; cases this
  · exact hc rfl
theorem Dc.kp {r : Nat} {W : List (VL.D × VL.D)} {st st' : Sto} {ms : List Nat} (h : Dc r W st) (k : Kp ms st st') (n : r ∉ ms) : Dc r W st' := ⟨k _ _ n h.at_, h.ok⟩
theorem lay_ok {W : List (VL.D × VL.D)} {S S' : Sn} {v : VL.D} {k d : Nat} (h : Lay W S v k S' d) : ∀ {n a b c r F : Nat} {st : Sto}, Nt n a b c S st → a ≠ b → OkS S → S'.L.length < sizeLine → Dc r W st → W.length + d ≤ 1000 → r ≠ c → 2 * d + 1 ≤ F →
    ∃ st', f_Net_lay F [.ref n, v, .ref r] st = .ok (.int (k : Nat)) st' ∧ Nt n a b c S' st' ∧ Kp [a, b, c] st st' := by
  induction h with
  | @name W S nm k d h hk =>
    intro n a b c r F st nt hab ok hz dc hl hrc hF
    obtain ⟨F, rfl⟩ : ∃ G, F = G + 1 := ⟨F - 1, by omega⟩
    have dx := dix_at dc h
    exact ⟨st, by rw [f_Net_lay_s]; simp -implicitDefEqProofs +decide only [varF_ap, cF_ap, opF_ap, opK_ap, bF_ap, boolK_ap, andT_ap, andK_ap, orT_ap, orK_ap, notT_ap, notK_ap, yesT_ap, andV_ap, andVK_ap, orV_ap, orVK_ap, notV_ap, notVK_ap, ifF_ap, ifFK_ap, nilA_ap, consA_ap, consK_ap, consJ_ap, tupA_ap, lstA_ap, newO_ap, dicF_ap, callF_ap, un1_ap, methF_ap, nonO_ap, someO_ap, someK_ap, slF_ap, slK_ap, slJ_ap, itF_ap, itA_ap, nilS_ap, bkS_ap, ctS_ap, seqS_ap, seqK_nx, seqK_rt, seqK_bk, seqK_ct, dropS_ap, dropK_ap, retS_ap, retK_ap, retN_ap, ifS_ap, ifK_ap, setS_ap, setK_ap, asgS_ap, asgK_ap, asgJ_ap, nameG_ap, nilG_ap, consG_ap, consGK_ap, fnF_ap, fnK_nx, fnK_rt, forS_ap, forK_ap, negD_ap, addI_ap, varK_ap, startE, yes2, isN, List.map_cons, List.map_nil, List.length_cons, List.length_nil, List.replicate, List.append_nil, List.cons_append, List.nil_append, List.getElem?_cons_zero, List.getElem?_cons_succ, List.set_cons_zero, List.set_cons_succ, R.bind_ok, R.bind_ex, R.bind_bad, R.noex_ok, if_true, if_false, Bool.false_eq_true, Bool.true_eq_false, ite_true, ite_false, reduceIte, Nat.reduceAdd, Nat.reduceSub, Nat.zero_add, Nat.sub_self, Nat.sub_zero, decide_true, decide_false, Bool.not_true, Bool.not_false, subD_ap, ltD_ap, leD_ap, gtD_ap, geD_ap, mulD_ap, modD_ap, divD_ap, powD_ap, tupK_ok, lstK_ok, methK_ok, tupG_ok, eqS_t, eqS_f, neS_t, neS_f, eqI_ap, neI_ap, inT_nil, inT_hit, inT_miss, ne_eq, not_false_eq_true, b_Net_lay, jx0, jx1, dx], nt, Kp.refl _⟩
  | @one W S S1 w x args k d ho hL ih =>
    intro n a b c r F st nt hab ok hz dc hl hrc hF
    obtain ⟨F, rfl⟩ : ∃ G, F = G + 1 := ⟨F - 1, by omega⟩
    obtain ⟨l1, l2, l3⟩ := hL.facts
    have l4 := (lay1_le S1 w args k).1.len
    obtain ⟨s1, e1, nt1, kp1⟩ := ih (F := F) nt hab ok (by omega) dc (by omega) hrc (by omega)
    obtain ⟨s2, e2, nt2, kp2⟩ := worded1 nt1 hab (l3 ok) ho l2 (by omega)
    obtain ⟨w1, w2, _, w4⟩ := ho.word
    have i7 : ∀ s, inSq true (.str w) (.tup [.str "join", .str "left", .str "notin", .str "pour", .str "both", .str "either", .str "less"]) s = .ok (.bl true) s := fun s => no7 w4
    have m1 : ∀ {fa : AF} {env : EnvD}, methOK "Net" "lay" (f_Net_lay F) fa env (.ref n) st = (fa env st).bind (fnC (f_Net_lay F) n) := net_meth nt.net (mput (by simp))
    have m2 : ∀ {fa : AF} {env : EnvD}, methOK "Net" "worded" f_Net_worded fa env (.ref n) s1 = (fa env s1).bind (fnC f_Net_worded n) := net_meth nt1.net (mput (by simp))
    exact ⟨s2, by rw [f_Net_lay_s]; simp -implicitDefEqProofs +decide only [varF_ap, cF_ap, opF_ap, opK_ap, bF_ap, boolK_ap, andT_ap, andK_ap, orT_ap, orK_ap, notT_ap, notK_ap, yesT_ap, andV_ap, andVK_ap, orV_ap, orVK_ap, notV_ap, notVK_ap, ifF_ap, ifFK_ap, nilA_ap, consA_ap, consK_ap, consJ_ap, tupA_ap, lstA_ap, newO_ap, dicF_ap, callF_ap, un1_ap, methF_ap, nonO_ap, someO_ap, someK_ap, slF_ap, slK_ap, slJ_ap, itF_ap, itA_ap, nilS_ap, bkS_ap, ctS_ap, seqS_ap, seqK_nx, seqK_rt, seqK_bk, seqK_ct, dropS_ap, dropK_ap, retS_ap, retK_ap, retN_ap, ifS_ap, ifK_ap, setS_ap, setK_ap, asgS_ap, asgK_ap, asgJ_ap, nameG_ap, nilG_ap, consG_ap, consGK_ap, fnF_ap, fnK_nx, fnK_rt, forS_ap, forK_ap, negD_ap, addI_ap, varK_ap, startE, yes2, isN, List.map_cons, List.map_nil, List.length_cons, List.length_nil, List.replicate, List.append_nil, List.cons_append, List.nil_append, List.getElem?_cons_zero, List.getElem?_cons_succ, List.set_cons_zero, List.set_cons_succ, R.bind_ok, R.bind_ex, R.bind_bad, R.noex_ok, if_true, if_false, Bool.false_eq_true, Bool.true_eq_false, ite_true, ite_false, reduceIte, Nat.reduceAdd, Nat.reduceSub, Nat.zero_add, Nat.sub_self, Nat.sub_zero, decide_true, decide_false, Bool.not_true, Bool.not_false, subD_ap, ltD_ap, leD_ap, gtD_ap, geD_ap, mulD_ap, modD_ap, divD_ap, powD_ap, tupK_ok, lstK_ok, methK_ok, tupG_ok, eqS_t, eqS_f, neS_t, neS_f, eqI_ap, neI_ap, inT_nil, inT_hit, inT_miss, ne_eq, not_false_eq_true, b_Net_lay, jx0, jx1, methO_ap, fnC_ap, w1, w2, m1, e1, i7, m2, bes_one ho, e2, sz (by decide : 1 ≤ 100)], nt2, kp1.trans kp2⟩
  | @two W S S1 S2 w x y args k j d ho hL1 hL2 i1 i2 =>
    intro n a b c r F st nt hab ok hz dc hl hrc hF
    obtain ⟨F, rfl⟩ : ∃ G, F = G + 1 := ⟨F - 1, by omega⟩
    obtain ⟨l1, l2, l3⟩ := hL1.facts
    obtain ⟨p1, p2, p3⟩ := hL2.facts
    have l4 := (lay2_le S2 w args k j).1.len
    have l5 := p1.len
    have nr := dc_ne nt dc hrc
    obtain ⟨s1, e1, nt1, kp1⟩ := i1 (F := F) nt hab ok (by omega) dc (by omega) hrc (by omega)
    obtain ⟨s2, e2, nt2, kp2⟩ := i2 (F := F) nt1 hab (l3 ok) (by omega) (dc.kp kp1 nr) (by omega) hrc (by omega)
    obtain ⟨s3, e3, nt3, kp3⟩ := worded2 (k := k) (j := j) nt2 hab (p3 (l3 ok)) ho (by omega) p2 (by omega)
    obtain ⟨w1, w2, w3⟩ := ho.word
    have i7 : ∀ s, inSq true (.str w) (.tup [.str "join", .str "left", .str "notin", .str "pour", .str "both", .str "either", .str "less"]) s = .ok (.bl false) s := fun s => in7 w3
    have m1 : ∀ {fa : AF} {env : EnvD}, methOK "Net" "lay" (f_Net_lay F) fa env (.ref n) st = (fa env st).bind (fnC (f_Net_lay F) n) := net_meth nt.net (mput (by simp))
    have m2 : ∀ {fa : AF} {env : EnvD}, methOK "Net" "lay" (f_Net_lay F) fa env (.ref n) s1 = (fa env s1).bind (fnC (f_Net_lay F) n) := net_meth nt1.net (mput (by simp))
    have m3 : ∀ {fa : AF} {env : EnvD}, methOK "Net" "worded" f_Net_worded fa env (.ref n) s2 = (fa env s2).bind (fnC f_Net_worded n) := net_meth nt2.net (mput (by simp))
    obtain ⟨_, f2, _⟩ := net_fld nt2.net
    have iw := ix_w nt2.at_.w (k := j) (by rw [(p3 (l3 ok)).len]; exact p2)
    exact ⟨s3, by rw [f_Net_lay_s]; simp -implicitDefEqProofs +decide only [varF_ap, cF_ap, opF_ap, opK_ap, bF_ap, boolK_ap, andT_ap, andK_ap, orT_ap, orK_ap, notT_ap, notK_ap, yesT_ap, andV_ap, andVK_ap, orV_ap, orVK_ap, notV_ap, notVK_ap, ifF_ap, ifFK_ap, nilA_ap, consA_ap, consK_ap, consJ_ap, tupA_ap, lstA_ap, newO_ap, dicF_ap, callF_ap, un1_ap, methF_ap, nonO_ap, someO_ap, someK_ap, slF_ap, slK_ap, slJ_ap, itF_ap, itA_ap, nilS_ap, bkS_ap, ctS_ap, seqS_ap, seqK_nx, seqK_rt, seqK_bk, seqK_ct, dropS_ap, dropK_ap, retS_ap, retK_ap, retN_ap, ifS_ap, ifK_ap, setS_ap, setK_ap, asgS_ap, asgK_ap, asgJ_ap, nameG_ap, nilG_ap, consG_ap, consGK_ap, fnF_ap, fnK_nx, fnK_rt, forS_ap, forK_ap, negD_ap, addI_ap, varK_ap, startE, yes2, isN, List.map_cons, List.map_nil, List.length_cons, List.length_nil, List.replicate, List.append_nil, List.cons_append, List.nil_append, List.getElem?_cons_zero, List.getElem?_cons_succ, List.set_cons_zero, List.set_cons_succ, R.bind_ok, R.bind_ex, R.bind_bad, R.noex_ok, if_true, if_false, Bool.false_eq_true, Bool.true_eq_false, ite_true, ite_false, reduceIte, Nat.reduceAdd, Nat.reduceSub, Nat.zero_add, Nat.sub_self, Nat.sub_zero, decide_true, decide_false, Bool.not_true, Bool.not_false, subD_ap, ltD_ap, leD_ap, gtD_ap, geD_ap, mulD_ap, modD_ap, divD_ap, powD_ap, tupK_ok, lstK_ok, methK_ok, tupG_ok, eqS_t, eqS_f, neS_t, neS_f, eqI_ap, neI_ap, inT_nil, inT_hit, inT_miss, ne_eq, not_false_eq_true, b_Net_lay, jx0, jx1, jx2, methO_ap, fnC_ap, w1, w2, m1, e1, i7, m2, e2, m3, f2, iw, bes_two ho, e3, sz (by decide : 2 ≤ 100)], nt3, (kp1.trans kp2).trans kp3⟩
  | @rounds W S S1 nm x y k d K f g T U hL h0 hs hr hK i1 i2 =>
    intro n a b c r F st nt hab ok hz dc hl hrc hF
    obtain ⟨F, rfl⟩ : ∃ G, F = G + 2 := ⟨F - 2, by omega⟩
    obtain ⟨l1, l2, l3⟩ := hL.facts
    have nr := dc_ne nt dc hrc
    have e10 : f 0 = (lay1 S1 "once" [] k).1 := congrArg Prod.fst h0
    have e20 : T 0 = (lay1 S1 "once" [] k).2 := congrArg Prod.snd h0
    have es1 : ∀ t, t < K → f (t + 1) = (rnd (U t) (f t) (g t)).1 := fun t ht => congrArg Prod.fst (hr t ht)
    have es2 : ∀ t, t < K → T (t + 1) = (rnd (U t) (f t) (g t)).2 := fun t ht => congrArg Prod.snd (hr t ht)
    have okT : ∀ t, t ≤ K → OkS (T t) ∧ f t < (T t).L.length := by
      intro t
      induction t with
      | zero => intro _; rw [e10, e20]; exact ⟨lay1_ok (l3 ok) one_once, (lay1_le _ _ _ _).2.1⟩
      | succ t ih =>
        intro ht
        rw [es1 t (by omega), es2 t (by omega)]
        exact ⟨rnd_ok ((hs t (by omega)).facts.2.2 (ih (by omega)).1), (rnd_le _ _ _).2.1⟩
    have leT : ∀ j t, t + j = K → (T t).L.length ≤ (T K).L.length := by
      intro j
      induction j with
      | zero => intro t ht; rw [show t = K by omega]; exact Nat.le_refl _
      | succ j ih =>
        intro t ht
        have h1 := ih (t + 1) (by omega)
        have h2 := (hs t (by omega)).facts.1.len
        have h3 := (rnd_le (U t) (f t) (g t)).1.len
        rw [es2 t (by omega)] at h1
        omega
    have leT0 := leT K 0 (by omega)
    have l4 := (lay1_le S1 "once" [] k).1.len
    rw [← e20] at l4
    obtain ⟨s1, e1, nt1, kp1⟩ := i1 (F := F) nt hab ok (by omega) dc (by omega) hrc (by omega)
    obtain ⟨s2, e2, nt2, kp2⟩ := worded1 nt1 hab (l3 ok) one_once l2 (by omega)
    rw [← e20] at nt2
    rw [← e10] at e2
    have m0 : ∀ {fa : AF} {env : EnvD}, methOK "Net" "lay_rounds" (f_Net_lay_rounds (F + 1)) fa env (.ref n) st = (fa env st).bind (fnC (f_Net_lay_rounds (F + 1)) n) := net_meth nt.net (mput (by simp))
    have m1 : ∀ {fa : AF} {env : EnvD}, methOK "Net" "lay" (f_Net_lay F) fa env (.ref n) st = (fa env st).bind (fnC (f_Net_lay F) n) := net_meth nt.net (mput (by simp))
    have m2 : ∀ {fa : AF} {env : EnvD}, methOK "Net" "worded" f_Net_worded fa env (.ref n) st = (fa env st).bind (fnC f_Net_worded n) := net_meth nt.net (mput (by simp))
    have m3 : ∀ {fa : AF} {env : EnvD} {s : Sto}, s[n]? = some (NET a b c) → methOK "Net" "worded" f_Net_worded fa env (.ref n) s = (fa env s).bind (fnC f_Net_worded n) := fun h => net_meth h (mput (by simp))
    have rg : rng1D [.int (K : Nat)] s2 = .ok (intsD 0 1 K, []) s2 := rng1_ok (by omega)
    obtain ⟨v, hv⟩ : ∃ v, v = VL.D.tup [.str "rounds", .str nm, .int (K : Nat), x, y] := ⟨_, rfl⟩
    have v0 : ∀ s, ixD v (.int 0) s = .ok (.str "rounds") s := fun s => hv ▸ jx0
    have v1 : ∀ s, ixD v (.int 1) s = .ok (.str nm) s := fun s => hv ▸ jx1
    have v2 : ∀ s, ixD v (.int 2) s = .ok (.int (K : Nat)) s := fun s => hv ▸ jx2
    have v3 : ∀ s, ixD v (.int 3) s = .ok x s := fun s => hv ▸ jx3
    have v4 : ∀ s, ixD v (.int 4) s = .ok y s := fun s => hv ▸ jx4
    obtain ⟨e', s9, fl, z4, z5, z6, he, nt9, kp9⟩ := forL_inv (c := []) (gf := nameG 4) (b := l0_Net_lay_rounds (f_Net_lay_rounds F) (f_Net_lay F)) (ds := intsD 0 1 K) (env := [some (.ref n), some v, some (.ref r), some (.int (f 0 : Nat)), none, none, none]) (st := s2)
      (fun i env s => ∃ z4 z5 z6, env = [some (.ref n), some v, some (.ref r), some (.int (f i : Nat)), z4, z5, z6] ∧ Nt n a b c (T i) s ∧ Kp [a, b, c] st s)
      ⟨none, none, none, rfl, nt2, kp1.trans kp2⟩ (fun _ _ _ _ => ChkOk.nil) fun i q env s hi ⟨z4, z5, z6, he, nts, kps⟩ => by
        subst he
        obtain ⟨hiK, rfl⟩ := intsD_get hi
        obtain ⟨okI, fI⟩ := okT i (by omega)
        obtain ⟨u1, u2, u3⟩ := (hs i hiK).facts
        have dcs := dc.kp kps nr
        have dd := dict_at dcs
        obtain ⟨q1, q2, q3⟩ := nt_lt nts
        obtain ⟨W', hW'⟩ : ∃ W', W' = dput W (.str nm) (.int (f i : Nat)) := ⟨_, rfl⟩
        obtain ⟨sa, hsa⟩ : ∃ sa, sa = s ++ [VL.O.dic W] := ⟨_, rfl⟩
        rw [← hsa] at dd
        obtain ⟨sb, hsb⟩ : ∃ sb, sb = sa.set s.length (.dic W') := ⟨_, rfl⟩
        have ga : sa[s.length]? = some (.dic W) := hsa ▸ get_last
        have sbe : sb = s ++ [.dic W'] := by rw [hsb, hsa, set_last]
        have kab : Kp [] s sb := Kp.le (sbe ▸ Le.app _ _)
        have dcb : Dc s.length W' sb := ⟨by rw [sbe]; exact get_last, hW' ▸ keysOk_put dc.ok⟩
        have rc : s.length ≠ c := by omega
        have lw : W'.length ≤ W.length + 1 := hW' ▸ dput_len
        have lT := leT (K - (i + 1)) (i + 1) (by omega)
        have lr := (rnd_le (U i) (f i) (g i)).1.len
        rw [es2 i hiK] at lT
        have hs2 := @i2 i hiK
        rw [← hW'] at hs2
        obtain ⟨sc, e3, nt3, kp3⟩ := @hs2 n a b c s.length F sb (nts.kp kab) hab okI (by omega) dcb (by omega) rc (by omega)
        obtain ⟨sd, e4, nt4, kp4⟩ := worded2 (k := f i) (j := g i) nt3 hab (u3 okI) two_pour (by have := u1.len; omega) u2 (by omega)
        have lp := (lay1_le (lay2 (U i) "pour" [] (f i) (g i)).2 "once" [] (lay2 (U i) "pour" [] (f i) (g i)).1).1.len
        have lp2 : (lay2 (U i) "pour" [] (f i) (g i)).2.L.length < sizeLine := by unfold rnd at lT; omega
        obtain ⟨se, e5, nt5, kp5⟩ := worded1 nt4 hab (lay2_ok (u3 okI) two_pour) one_once (lay2_le _ _ _ _ _).2.1 lp2
        have bp : bs2 "pour" [] ((U i).W.getD (g i) 0) = [] := bs2_ne (by decide)
        rw [bp] at e4
        have dp : dputS (varF 3) (varF 5) (opF ixD (varF 1) (cF (.int 1))) [some (.ref n), some v, some (.ref r), some (.int (f i : Nat)), some (.int (0 + (i : Nat) * 1)), some (.ref s.length), z6] sa = .ok (.nx [some (.ref n), some v, some (.ref r), some (.int (f i : Nat)), some (.int (0 + (i : Nat) * 1)), some (.ref s.length), z6]) sb := by
          rw [hsb, hW']
          exact dputS_ap (s1 := sa) (s2 := sa) (s3 := sa) (by simp -implicitDefEqProofs +decide only [varF_ap, cF_ap, opF_ap, opK_ap, bF_ap, boolK_ap, andT_ap, andK_ap, orT_ap, orK_ap, notT_ap, notK_ap, yesT_ap, andV_ap, andVK_ap, orV_ap, orVK_ap, notV_ap, notVK_ap, ifF_ap, ifFK_ap, nilA_ap, consA_ap, consK_ap, consJ_ap, tupA_ap, lstA_ap, newO_ap, dicF_ap, callF_ap, un1_ap, methF_ap, nonO_ap, someO_ap, someK_ap, slF_ap, slK_ap, slJ_ap, itF_ap, itA_ap, nilS_ap, bkS_ap, ctS_ap, seqS_ap, seqK_nx, seqK_rt, seqK_bk, seqK_ct, dropS_ap, dropK_ap, retS_ap, retK_ap, retN_ap, ifS_ap, ifK_ap, setS_ap, setK_ap, asgS_ap, asgK_ap, asgJ_ap, nameG_ap, nilG_ap, consG_ap, consGK_ap, fnF_ap, fnK_nx, fnK_rt, forS_ap, forK_ap, negD_ap, addI_ap, varK_ap, startE, yes2, isN, List.map_cons, List.map_nil, List.length_cons, List.length_nil, List.replicate, List.append_nil, List.cons_append, List.nil_append, List.getElem?_cons_zero, List.getElem?_cons_succ, List.set_cons_zero, List.set_cons_succ, R.bind_ok, R.bind_ex, R.bind_bad, R.noex_ok, if_true, if_false, Bool.false_eq_true, Bool.true_eq_false, ite_true, ite_false, reduceIte, Nat.reduceAdd, Nat.reduceSub, Nat.zero_add, Nat.sub_self, Nat.sub_zero, decide_true, decide_false, Bool.not_true, Bool.not_false, subD_ap, ltD_ap, leD_ap, gtD_ap, geD_ap, mulD_ap, modD_ap, divD_ap, powD_ap, tupK_ok, lstK_ok, methK_ok, tupG_ok, eqS_t, eqS_f, neS_t, neS_f, eqI_ap, neI_ap, inT_nil, inT_hit, inT_miss, ne_eq, not_false_eq_true]) (by simp -implicitDefEqProofs +decide only [varF_ap, cF_ap, opF_ap, opK_ap, bF_ap, boolK_ap, andT_ap, andK_ap, orT_ap, orK_ap, notT_ap, notK_ap, yesT_ap, andV_ap, andVK_ap, orV_ap, orVK_ap, notV_ap, notVK_ap, ifF_ap, ifFK_ap, nilA_ap, consA_ap, consK_ap, consJ_ap, tupA_ap, lstA_ap, newO_ap, dicF_ap, callF_ap, un1_ap, methF_ap, nonO_ap, someO_ap, someK_ap, slF_ap, slK_ap, slJ_ap, itF_ap, itA_ap, nilS_ap, bkS_ap, ctS_ap, seqS_ap, seqK_nx, seqK_rt, seqK_bk, seqK_ct, dropS_ap, dropK_ap, retS_ap, retK_ap, retN_ap, ifS_ap, ifK_ap, setS_ap, setK_ap, asgS_ap, asgK_ap, asgJ_ap, nameG_ap, nilG_ap, consG_ap, consGK_ap, fnF_ap, fnK_nx, fnK_rt, forS_ap, forK_ap, negD_ap, addI_ap, varK_ap, startE, yes2, isN, List.map_cons, List.map_nil, List.length_cons, List.length_nil, List.replicate, List.append_nil, List.cons_append, List.nil_append, List.getElem?_cons_zero, List.getElem?_cons_succ, List.set_cons_zero, List.set_cons_succ, R.bind_ok, R.bind_ex, R.bind_bad, R.noex_ok, if_true, if_false, Bool.false_eq_true, Bool.true_eq_false, ite_true, ite_false, reduceIte, Nat.reduceAdd, Nat.reduceSub, Nat.zero_add, Nat.sub_self, Nat.sub_zero, decide_true, decide_false, Bool.not_true, Bool.not_false, subD_ap, ltD_ap, leD_ap, gtD_ap, geD_ap, mulD_ap, modD_ap, divD_ap, powD_ap, tupK_ok, lstK_ok, methK_ok, tupG_ok, eqS_t, eqS_f, neS_t, neS_f, eqI_ap, neI_ap, inT_nil, inT_hit, inT_miss, ne_eq, not_false_eq_true]) (by simp -implicitDefEqProofs +decide only [varF_ap, cF_ap, opF_ap, opK_ap, bF_ap, boolK_ap, andT_ap, andK_ap, orT_ap, orK_ap, notT_ap, notK_ap, yesT_ap, andV_ap, andVK_ap, orV_ap, orVK_ap, notV_ap, notVK_ap, ifF_ap, ifFK_ap, nilA_ap, consA_ap, consK_ap, consJ_ap, tupA_ap, lstA_ap, newO_ap, dicF_ap, callF_ap, un1_ap, methF_ap, nonO_ap, someO_ap, someK_ap, slF_ap, slK_ap, slJ_ap, itF_ap, itA_ap, nilS_ap, bkS_ap, ctS_ap, seqS_ap, seqK_nx, seqK_rt, seqK_bk, seqK_ct, dropS_ap, dropK_ap, retS_ap, retK_ap, retN_ap, ifS_ap, ifK_ap, setS_ap, setK_ap, asgS_ap, asgK_ap, asgJ_ap, nameG_ap, nilG_ap, consG_ap, consGK_ap, fnF_ap, fnK_nx, fnK_rt, forS_ap, forK_ap, negD_ap, addI_ap, varK_ap, startE, yes2, isN, List.map_cons, List.map_nil, List.length_cons, List.length_nil, List.replicate, List.append_nil, List.cons_append, List.nil_append, List.getElem?_cons_zero, List.getElem?_cons_succ, List.set_cons_zero, List.set_cons_succ, R.bind_ok, R.bind_ex, R.bind_bad, R.noex_ok, if_true, if_false, Bool.false_eq_true, Bool.true_eq_false, ite_true, ite_false, reduceIte, Nat.reduceAdd, Nat.reduceSub, Nat.zero_add, Nat.sub_self, Nat.sub_zero, decide_true, decide_false, Bool.not_true, Bool.not_false, subD_ap, ltD_ap, leD_ap, gtD_ap, geD_ap, mulD_ap, modD_ap, divD_ap, powD_ap, tupK_ok, lstK_ok, methK_ok, tupG_ok, eqS_t, eqS_f, neS_t, neS_f, eqI_ap, neI_ap, inT_nil, inT_hit, inT_miss, ne_eq, not_false_eq_true, v1]) ga dc.ok (by rw [sizeLine_eq']; omega)
        have mb : ∀ {fa : AF} {env : EnvD}, methOK "Net" "lay" (f_Net_lay F) fa env (.ref n) sb = (fa env sb).bind (fnC (f_Net_lay F) n) := net_meth (nts.kp kab).net (mput (by simp))
        have mc : ∀ {fa : AF} {env : EnvD}, methOK "Net" "worded" f_Net_worded fa env (.ref n) sc = (fa env sc).bind (fnC f_Net_worded n) := m3 nt3.net
        have md : ∀ {fa : AF} {env : EnvD}, methOK "Net" "worded" f_Net_worded fa env (.ref n) sd = (fa env sd).bind (fnC f_Net_worded n) := m3 nt4.net
        refine ⟨_, _, [some (.ref n), some v, some (.ref r), some (.int (f (i + 1) : Nat)), some (.int (0 + (i : Nat) * 1)), some (.ref s.length), some (.int (g i : Nat))], se, rfl, ?_, _, _, _, rfl, ?_, ((kps.trans (kab.sub (by simp))).trans (kp3.trans kp4)).trans kp5⟩
        · rw [es1 i hiK]
          unfold rnd
          simp -implicitDefEqProofs +decide only [varF_ap, cF_ap, opF_ap, opK_ap, bF_ap, boolK_ap, andT_ap, andK_ap, orT_ap, orK_ap, notT_ap, notK_ap, yesT_ap, andV_ap, andVK_ap, orV_ap, orVK_ap, notV_ap, notVK_ap, ifF_ap, ifFK_ap, nilA_ap, consA_ap, consK_ap, consJ_ap, tupA_ap, lstA_ap, newO_ap, dicF_ap, callF_ap, un1_ap, methF_ap, nonO_ap, someO_ap, someK_ap, slF_ap, slK_ap, slJ_ap, itF_ap, itA_ap, nilS_ap, bkS_ap, ctS_ap, seqS_ap, seqK_nx, seqK_rt, seqK_bk, seqK_ct, dropS_ap, dropK_ap, retS_ap, retK_ap, retN_ap, ifS_ap, ifK_ap, setS_ap, setK_ap, asgS_ap, asgK_ap, asgJ_ap, nameG_ap, nilG_ap, consG_ap, consGK_ap, fnF_ap, fnK_nx, fnK_rt, forS_ap, forK_ap, negD_ap, addI_ap, varK_ap, startE, yes2, isN, List.map_cons, List.map_nil, List.length_cons, List.length_nil, List.replicate, List.append_nil, List.cons_append, List.nil_append, List.getElem?_cons_zero, List.getElem?_cons_succ, List.set_cons_zero, List.set_cons_succ, R.bind_ok, R.bind_ex, R.bind_bad, R.noex_ok, if_true, if_false, Bool.false_eq_true, Bool.true_eq_false, ite_true, ite_false, reduceIte, Nat.reduceAdd, Nat.reduceSub, Nat.zero_add, Nat.sub_self, Nat.sub_zero, decide_true, decide_false, Bool.not_true, Bool.not_false, subD_ap, ltD_ap, leD_ap, gtD_ap, geD_ap, mulD_ap, modD_ap, divD_ap, powD_ap, tupK_ok, lstK_ok, methK_ok, tupG_ok, eqS_t, eqS_f, neS_t, neS_f, eqI_ap, neI_ap, inT_nil, inT_hit, inT_miss, ne_eq, not_false_eq_true, l0_Net_lay_rounds, dd, dp, v4, methO_ap, fnC_ap, mb, e3, mc, e4, md, e5, sz (by decide : 0 ≤ 100), sz (by decide : 1 ≤ 100), sz (by decide : 2 ≤ 100)]
        · rw [es2 i hiK]; exact nt5
    rw [intsD_len] at he nt9
    subst he
    refine ⟨s9, ?_, nt9, kp9⟩
    rw [← hv, f_Net_lay_s]
    simp -implicitDefEqProofs +decide only [varF_ap, cF_ap, opF_ap, opK_ap, bF_ap, boolK_ap, andT_ap, andK_ap, orT_ap, orK_ap, notT_ap, notK_ap, yesT_ap, andV_ap, andVK_ap, orV_ap, orVK_ap, notV_ap, notVK_ap, ifF_ap, ifFK_ap, nilA_ap, consA_ap, consK_ap, consJ_ap, tupA_ap, lstA_ap, newO_ap, dicF_ap, callF_ap, un1_ap, methF_ap, nonO_ap, someO_ap, someK_ap, slF_ap, slK_ap, slJ_ap, itF_ap, itA_ap, nilS_ap, bkS_ap, ctS_ap, seqS_ap, seqK_nx, seqK_rt, seqK_bk, seqK_ct, dropS_ap, dropK_ap, retS_ap, retK_ap, retN_ap, ifS_ap, ifK_ap, setS_ap, setK_ap, asgS_ap, asgK_ap, asgJ_ap, nameG_ap, nilG_ap, consG_ap, consGK_ap, fnF_ap, fnK_nx, fnK_rt, forS_ap, forK_ap, negD_ap, addI_ap, varK_ap, startE, yes2, isN, List.map_cons, List.map_nil, List.length_cons, List.length_nil, List.replicate, List.append_nil, List.cons_append, List.nil_append, List.getElem?_cons_zero, List.getElem?_cons_succ, List.set_cons_zero, List.set_cons_succ, R.bind_ok, R.bind_ex, R.bind_bad, R.noex_ok, if_true, if_false, Bool.false_eq_true, Bool.true_eq_false, ite_true, ite_false, reduceIte, Nat.reduceAdd, Nat.reduceSub, Nat.zero_add, Nat.sub_self, Nat.sub_zero, decide_true, decide_false, Bool.not_true, Bool.not_false, subD_ap, ltD_ap, leD_ap, gtD_ap, geD_ap, mulD_ap, modD_ap, divD_ap, powD_ap, tupK_ok, lstK_ok, methK_ok, tupG_ok, eqS_t, eqS_f, neS_t, neS_f, eqI_ap, neI_ap, inT_nil, inT_hit, inT_miss, ne_eq, not_false_eq_true, b_Net_lay, v0, methO_ap, fnC_ap, m0]
    rw [f_Net_lay_rounds_s]
    simp -implicitDefEqProofs +decide only [varF_ap, cF_ap, opF_ap, opK_ap, bF_ap, boolK_ap, andT_ap, andK_ap, orT_ap, orK_ap, notT_ap, notK_ap, yesT_ap, andV_ap, andVK_ap, orV_ap, orVK_ap, notV_ap, notVK_ap, ifF_ap, ifFK_ap, nilA_ap, consA_ap, consK_ap, consJ_ap, tupA_ap, lstA_ap, newO_ap, dicF_ap, callF_ap, un1_ap, methF_ap, nonO_ap, someO_ap, someK_ap, slF_ap, slK_ap, slJ_ap, itF_ap, itA_ap, nilS_ap, bkS_ap, ctS_ap, seqS_ap, seqK_nx, seqK_rt, seqK_bk, seqK_ct, dropS_ap, dropK_ap, retS_ap, retK_ap, retN_ap, ifS_ap, ifK_ap, setS_ap, setK_ap, asgS_ap, asgK_ap, asgJ_ap, nameG_ap, nilG_ap, consG_ap, consGK_ap, fnF_ap, fnK_nx, fnK_rt, forS_ap, forK_ap, negD_ap, addI_ap, varK_ap, startE, yes2, isN, List.map_cons, List.map_nil, List.length_cons, List.length_nil, List.replicate, List.append_nil, List.cons_append, List.nil_append, List.getElem?_cons_zero, List.getElem?_cons_succ, List.set_cons_zero, List.set_cons_succ, R.bind_ok, R.bind_ex, R.bind_bad, R.noex_ok, if_true, if_false, Bool.false_eq_true, Bool.true_eq_false, ite_true, ite_false, reduceIte, Nat.reduceAdd, Nat.reduceSub, Nat.zero_add, Nat.sub_self, Nat.sub_zero, decide_true, decide_false, Bool.not_true, Bool.not_false, subD_ap, ltD_ap, leD_ap, gtD_ap, geD_ap, mulD_ap, modD_ap, divD_ap, powD_ap, tupK_ok, lstK_ok, methK_ok, tupG_ok, eqS_t, eqS_f, neS_t, neS_f, eqI_ap, neI_ap, inT_nil, inT_hit, inT_miss, ne_eq, not_false_eq_true, b_Net_lay_rounds, v2, v3, methO_ap, fnC_ap, m1, e1, m2, e2, rg, fl, sz (by decide : 0 ≤ 100), sz (by decide : 1 ≤ 100)]
end Law

namespace Law
open PySem L2 VL
/-! every view can be laid -/
theorem Ex.pl {W : Int} : ∀ {n : Nat} {e : VL.D}, Ex W n e → Pl False (n + 1) e
  | 0, _, h => by cases h
  | n + 1, e, h => by
    rcases h with ⟨p, rfl, _⟩ | ⟨w, xs, rfl, _, hl, hx⟩
    · exact .tup (Nat.le_of_ble_eq_true rfl) (Pl.allC .str (Pl.allC .int Pl.all0))
    · refine .tup (by rw [List.length_cons]; omega) (Pl.allC .str fun x hx' => ?_)
      rcases hx x hx' with ⟨i, rfl⟩ | h
      · exact .int
      · exact Ex.pl h
theorem Ex.tsz {W : Int} : ∀ {n : Nat} {e : VL.D}, Ex W n e → 0 ≤ Law.tsz e
  | 0, _, h => by cases h
  | n + 1, e, h => by
    have all : ∀ xs : List VL.D, (∀ x ∈ xs, 0 ≤ Law.tsz x) → 0 ≤ tszs xs := by
      intro xs
      induction xs with
      | nil => intro _; decide
      | cons x xs ih =>
        intro h
        have h1 := h x List.mem_cons_self
        have h2 := ih fun y hy => h y (List.mem_cons_of_mem _ hy)
        show 0 ≤ Law.tsz x + tszs xs
        omega
    rcases h with ⟨p, rfl, _⟩ | ⟨w, xs, rfl, _, hl, hx⟩
    · show (0 : Int) ≤ 1 + (0 + (0 + 0)); decide
    · have := all xs fun x hx' => by
        rcases hx x hx' with ⟨i, rfl⟩ | h
        · exact Int.le_refl 0
        · exact Ex.tsz h
      show 0 ≤ 1 + (0 + tszs xs)
      omega
theorem tsz_sum {x : Int} {es : List VL.D} (h : ∀ e ∈ es, Ex x 4 e) : 0 ≤ (es.map tsz).sum := by
  induction es with
  | nil => decide
  | cons e es ih =>
    have h1 := (h e List.mem_cons_self).tsz
    have h2 := ih fun y hy => h y (List.mem_cons_of_mem _ hy)
    rw [List.map_cons, List.sum_cons]
    omega
/-- the dict has each known name -/
def Cov (N : NmP) (W : List (VL.D × VL.D)) (m : Nat) : Prop := ∀ n x, N n x → ∃ k : Nat, dget W (.str n) = some (.int k) ∧ k < m
theorem Vw.lay {N : NmP} {v : VL.D} {w s : Int} {d : Nat} (h : Vw N v w s d) : ∀ {W : List (VL.D × VL.D)} {S : Sn}, Cov N W S.L.length → ∃ k S', Lay W S v k S' d ∧ (S'.L.length : Int) ≤ S.L.length + s - 1 := by
  have up1 : ∀ {N : NmP} {W : List (VL.D × VL.D)} {S : Sn} {a v : VL.D} {w : Str} {args : List VL.D} {s t : Int} {d : Nat}, (∀ {W : List (VL.D × VL.D)} {S : Sn}, Cov N W S.L.length → ∃ k S', Lay W S a k S' d ∧ (S'.L.length : Int) ≤ S.L.length + s - 1) → One w args → 1 + s ≤ t → Cov N W S.L.length →
      ∃ k S', Lay W S (.tup (.str w :: a :: args)) k S' (1 + d) ∧ (S'.L.length : Int) ≤ S.L.length + t - 1 := by
    intro N W S a v w args s t d ih ho ht hc
    obtain ⟨k, S1, L, c⟩ := ih hc
    have := (lay1_le S1 w args k).2.2
    exact ⟨_, _, (Lay.one ho L).ups (by omega), by omega⟩
  have up2 : ∀ {N : NmP} {W : List (VL.D × VL.D)} {S : Sn} {a b : VL.D} {w : Str} {args : List VL.D} {s t u : Int} {d e : Nat}, (∀ {W : List (VL.D × VL.D)} {S : Sn}, Cov N W S.L.length → ∃ k S', Lay W S a k S' d ∧ (S'.L.length : Int) ≤ S.L.length + s - 1) → (∀ {W : List (VL.D × VL.D)} {S : Sn}, Cov N W S.L.length → ∃ k S', Lay W S b k S' e ∧ (S'.L.length : Int) ≤ S.L.length + t - 1) → Two w args → 1 + s + t ≤ u → Cov N W S.L.length →
      ∃ k S', Lay W S (.tup (.str w :: a :: b :: args)) k S' (1 + max d e) ∧ (S'.L.length : Int) ≤ S.L.length + u - 1 := by
    intro N W S a b w args s t u d e i1 i2 ho ht hc
    obtain ⟨k, S1, L, c⟩ := i1 hc
    have l1 := L.facts.1.len
    obtain ⟨j, S2, M, c2⟩ := i2 (S := S1) fun n x hn => let ⟨k, h1, h2⟩ := hc n x hn; ⟨k, h1, by omega⟩
    have := (lay2_le S2 w args k j).2.2
    exact ⟨_, _, (Lay.two ho (L.ups (Nat.le_max_left d e)) (M.ups (Nat.le_max_right d e))).ups (by omega), by omega⟩
  induction h with
  | @name N n w h =>
    intro W S hc
    obtain ⟨k, h1, h2⟩ := hc _ _ h
    exact ⟨k, S, .name h1 h2, by omega⟩
  | @sieve N a e x s d _ he ih =>
    intro W S hc
    have := he.tsz
    exact up1 (v := a) ih (.inl ⟨rfl, e, rfl, he.pl⟩) (by omega) hc
  | @once N a x s d _ ih =>
    intro W S hc
    exact up1 (v := a) ih one_once (by omega) hc
  | @cols N a es x s d _ he hl ih =>
    intro W S hc
    have := tsz_sum he
    exact up1 (v := a) ih (.inr (.inr (.inl ⟨rfl, es, rfl, hl, fun e h => (he e h).pl⟩))) (by omega) hc
  | @count N a by_ x s d _ he hl ih =>
    intro W S hc
    exact up1 (v := a) ih (.inr (.inr (.inr (.inl ⟨rfl, by_, rfl, by omega⟩)))) (by omega) hc
  | @sums N a w p by_ x s d hw _ he hp hl ih =>
    intro W S hc
    exact up1 (v := a) ih (.inr (.inr (.inr (.inr (.inl ⟨hw, p, by_, rfl, by omega⟩))))) (by omega) hc
  | @first N a k by_ os x s d _ h1 h2 h3 h4 ih =>
    intro W S hc
    exact up1 (v := a) ih (.inr (.inr (.inr (.inr (.inr ⟨rfl, k, by_, os, rfl, by omega, h4⟩))))) (by omega) hc
  | @same N w a b x s t da db hw _ _ i1 i2 =>
    intro W S hc
    exact up2 i1 i2 (.inl ⟨hw, rfl⟩) (by omega) hc
  | @pairs N w a b ps x y s t da db hw _ _ hl h1 h2 i1 i2 =>
    intro W S hc
    exact up2 i1 i2 (.inr ⟨hw, ps, rfl, hl⟩) (by omega) hc
  | up _ ih =>
    intro W S hc
    obtain ⟨k, S1, L, c⟩ := ih hc
    exact ⟨k, S1, L.up, c⟩
  | @rounds N n K a b x s t da db h1 h2 _ _ i1 i2 =>
    intro W S hc
    obtain ⟨k, S1, L, c⟩ := i1 hc
    have l1 := L.facts.1.len
    obtain ⟨K, rfl⟩ : ∃ k : Nat, K = k := ⟨K.toNat, by omega⟩
    have seq : ∀ K : Nat, ∃ (f g : Nat → Nat) (T U : Nat → Sn), (f 0, T 0) = lay1 S1 "once" [] k ∧ (∀ t, t < K → Lay (dput W (.str n) (.int (f t : Nat))) (T t) b (g t) (U t) db) ∧ (∀ t, t < K → (f (t + 1), T (t + 1)) = rnd (U t) (f t) (g t)) ∧ f K < (T K).L.length ∧ S1.L.length ≤ (T K).L.length ∧ ((T K).L.length : Int) ≤ S1.L.length + 1 + K * (t + 1) := by
      intro K
      induction K with
      | zero =>
        have := lay1_le S1 "once" [] k
        exact ⟨fun _ => (lay1 S1 "once" [] k).1, fun _ => 0, fun _ => (lay1 S1 "once" [] k).2, fun _ => S1, rfl, fun t ht => by omega, fun t ht => by omega, this.2.1, this.1.len, by have := this.2.2; show ((lay1 S1 "once" [] k).2.L.length : Int) ≤ _; omega⟩
      | succ K ih =>
        obtain ⟨f, g, T, U, q1, q2, q3, q4, q5, q6⟩ := ih
        obtain ⟨j, V, LV, cV⟩ := i2 (W := dput W (.str n) (.int (f K : Nat))) (S := T K) fun m y hm => by
          rw [dget_dput]
          rcases hm with ⟨rfl, _⟩ | ⟨hne, hm⟩
          · rw [if_pos rfl]; exact ⟨_, rfl, q4⟩
          · rw [if_neg (Ne.symm hne)]
            obtain ⟨k, e1, e2⟩ := hc m y hm
            exact ⟨k, e1, by omega⟩
        have lv := LV.facts.1.len
        have rl := rnd_le V (f K) j
        refine ⟨fun i => if i = K + 1 then (rnd V (f K) j).1 else f i, fun i => if i = K then j else g i, fun i => if i = K + 1 then (rnd V (f K) j).2 else T i, fun i => if i = K then V else U i, ?_, fun i hi => ?_, fun i hi => ?_, ?_, ?_, ?_⟩
        · show (if 0 = K + 1 then _ else f 0, if 0 = K + 1 then _ else T 0) = _
          rw [if_neg (by omega), if_neg (by omega)]; exact q1
        · show Lay (dput W (.str n) (.int ((if i = K + 1 then _ else f i : Nat) : Int))) (if i = K + 1 then _ else T i) b (if i = K then j else g i) (if i = K then V else U i) db
          rw [if_neg (by omega), if_neg (by omega)]
          by_cases e : i = K
          · rw [if_pos e, if_pos e, e]; exact LV
          · rw [if_neg e, if_neg e]; exact q2 i (by omega)
        · show ((if i + 1 = K + 1 then _ else f (i + 1)), (if i + 1 = K + 1 then _ else T (i + 1))) = rnd (if i = K then V else U i) (if i = K + 1 then _ else f i) (if i = K then j else g i)
          rw [if_neg (show ¬ i = K + 1 by omega)]
          by_cases e : i = K
          · rw [if_pos (by omega), if_pos (by omega), if_pos e, if_pos e, e]
          · rw [if_neg (by omega), if_neg (by omega), if_neg e, if_neg e]; exact q3 i (by omega)
        · show (if K + 1 = K + 1 then _ else _) < (if K + 1 = K + 1 then (rnd V (f K) j).2 else _).L.length
          rw [if_pos rfl, if_pos rfl]; exact rl.2.1
        · show _ ≤ (if K + 1 = K + 1 then (rnd V (f K) j).2 else _).L.length
          rw [if_pos rfl]; have := rl.1.len; omega
        · show ((if K + 1 = K + 1 then (rnd V (f K) j).2 else T (K + 1)).L.length : Int) ≤ _
          rw [if_pos rfl]
          have := rl.2.2
          rw [show ((K + 1 : Nat) : Int) * (t + 1) = K * (t + 1) + (t + 1) by rw [Int.natCast_add, Int.add_mul]; omega]
          omega
    obtain ⟨f, g, T, U, q1, q2, q3, q4, q5, q6⟩ := seq K
    refine ⟨f K, T K, (Lay.rounds (L.ups (Nat.le_max_left da db)) q1 (fun t ht => (q2 t ht).ups (Nat.le_max_right da db)) q3 (by omega)).ups (by omega), ?_⟩
    rw [Int.mul_add] at q6 ⊢
    have e1 : (K : Int) * 2 = 2 * K := Int.mul_comm _ _
    omega
end Law

namespace Law
open PySem L2 VL
/-! alike: a datum is alike itself -/
/-- pure data of so many levels -/
def PlA : Nat → VL.D → Prop
  | 0, _ => False
  | _ + 1, .int _ => True
  | _ + 1, .str _ => True
  | _ + 1, .bl _ => True
  | n + 1, .tup xs => xs.length ≤ 10000 ∧ ∀ x ∈ xs, PlA n x
  | _, _ => False
theorem whole_int {i : Int} {S : Sto} : f__law_whole [.int i] S = .ok (.bl true) S := by
  have g := isi_ok (d := .int i) (st := S) (T := "int") rfl (by decide)
  have g2 := isi_ok (d := .int i) (st := S) (T := "bool") rfl (by decide)
  have e1 : isT (.int i) S "int" = true := by simp [isT, tyOfD]
  have e2 : isT (.int i) S "bool" = false := by simp [isT, tyOfD]
  rw [e1] at g
  rw [e2] at g2
  simp -implicitDefEqProofs +decide only [varF_ap, cF_ap, opF_ap, opK_ap, bF_ap, boolK_ap, andT_ap, andK_ap, orT_ap, orK_ap, notT_ap, notK_ap, yesT_ap, andV_ap, andVK_ap, orV_ap, orVK_ap, notV_ap, notVK_ap, ifF_ap, ifFK_ap, nilA_ap, consA_ap, consK_ap, consJ_ap, tupA_ap, lstA_ap, newO_ap, dicF_ap, callF_ap, un1_ap, methF_ap, nonO_ap, someO_ap, someK_ap, slF_ap, slK_ap, slJ_ap, itF_ap, itA_ap, nilS_ap, bkS_ap, ctS_ap, seqS_ap, seqK_nx, seqK_rt, seqK_bk, seqK_ct, dropS_ap, dropK_ap, retS_ap, retK_ap, retN_ap, ifS_ap, ifK_ap, setS_ap, setK_ap, asgS_ap, asgK_ap, asgJ_ap, nameG_ap, nilG_ap, consG_ap, consGK_ap, fnF_ap, fnK_nx, fnK_rt, forS_ap, forK_ap, negD_ap, addI_ap, varK_ap, startE, yes2, isN, List.map_cons, List.map_nil, List.length_cons, List.length_nil, List.replicate, List.append_nil, List.cons_append, List.nil_append, List.getElem?_cons_zero, List.getElem?_cons_succ, List.set_cons_zero, List.set_cons_succ, R.bind_ok, R.bind_ex, R.bind_bad, R.noex_ok, if_true, if_false, Bool.false_eq_true, Bool.true_eq_false, ite_true, ite_false, reduceIte, Nat.reduceAdd, Nat.reduceSub, Nat.zero_add, Nat.sub_self, Nat.sub_zero, decide_true, decide_false, Bool.not_true, Bool.not_false, subD_ap, ltD_ap, leD_ap, gtD_ap, geD_ap, mulD_ap, modD_ap, divD_ap, powD_ap, tupK_ok, lstK_ok, methK_ok, tupG_ok, eqS_t, eqS_f, neS_t, neS_f, eqI_ap, neI_ap, inT_nil, inT_hit, inT_miss, ne_eq, not_false_eq_true, f__law_whole, b__law_whole, g, g2]
theorem Pl.alike {B : Prop} : ∀ {n : Nat} {d : VL.D}, Pl B n d → PlA n d
  | 0, _, h => by cases h
  | n + 1, d, h => by
    rcases h with ⟨i, rfl⟩ | ⟨_, b, rfl⟩ | ⟨s, rfl⟩ | ⟨xs, rfl, h2, h3⟩
    · trivial
    · trivial
    · trivial
    · exact ⟨by omega, fun x hx => Pl.alike (h3 x hx)⟩
theorem zip_self {xs : List VL.D} : xs.zip xs = xs.map fun x => (x, x) := by
  induction xs with
  | nil => rfl
  | cons x xs ih => rw [List.zip_cons_cons, ih, List.map_cons]
theorem alike_all {d : Nat} {a b : VL.D} {xs : List VL.D} {st : Sto} {c : Chk} (ih : ∀ (x : VL.D) (S : Sto), PlA d x → ∃ j, f__law_alike d [x, x] S = .ok (.bl true) (S ++ j)) (hz : zipD [a, b] st = .ok ((xs.zip xs).map pairD, c) st) (hc : ∀ S, Le st S → ChkOk c S) (h : ∀ x ∈ xs, PlA d x) (hl : xs.length ≤ 10000) :
    ∃ j, (lcF (itA zipD (consA (varF 0) (consA (varF 1) nilA))) [2, 3] (tupG 2 (consG (nameG 2) (consG (nameG 3) nilG))) yesT (callF (f__law_alike d) (consA (varF 2) (consA (varF 3) nilA)))) [some a, some b, none, none] st = .ok (.ref st.length) (st ++ .lst (xs.map fun _ => .bl true) :: j) := by
  have hit : (itA zipD (consA (varF 0) (consA (varF 1) nilA))) [some a, some b, none, none] st = .ok ((xs.zip xs).map pairD, c) st := by simp -implicitDefEqProofs only [varF_ap, cF_ap, opF_ap, opK_ap, bF_ap, boolK_ap, andT_ap, andK_ap, orT_ap, orK_ap, notT_ap, notK_ap, yesT_ap, andV_ap, andVK_ap, orV_ap, orVK_ap, notV_ap, notVK_ap, ifF_ap, ifFK_ap, nilA_ap, consA_ap, consK_ap, consJ_ap, tupA_ap, tupK_ap, lstA_ap, lstK_ap, newO_ap, dicF_ap, callF_ap, un1_ap, methF_ap, methK_ap, nonO_ap, someO_ap, someK_ap, slF_ap, slK_ap, slJ_ap, itF_ap, itA_ap, nilS_ap, bkS_ap, ctS_ap, seqS_ap, seqK_nx, seqK_rt, seqK_bk, seqK_ct, dropS_ap, dropK_ap, retS_ap, retK_ap, retN_ap, ifS_ap, ifK_ap, setS_ap, setK_ap, asgS_ap, asgK_ap, asgJ_ap, nameG_ap, nilG_ap, consG_ap, consGK_ap, tupG_ap, fnF_ap, fnK_nx, fnK_rt, forS_ap, forK_ap, intD_ap, negD_ap, addI_ap, varK_ap, startE, yes2, isN, List.map_cons, List.map_nil, List.length_cons, List.length_nil, List.replicate, List.append_nil, List.cons_append, List.nil_append, List.getElem?_cons_zero, List.getElem?_cons_succ, List.set_cons_zero, List.set_cons_succ, R.bind_ok, R.bind_ex, R.bind_bad, R.noex_ok, if_true, if_false, Bool.false_eq_true, Bool.true_eq_false, ite_true, ite_false, reduceIte, Nat.reduceAdd, Nat.reduceSub, Nat.zero_add, Nat.sub_self, Nat.sub_zero, decide_true, decide_false, Bool.not_true, Bool.not_false, hz]
  obtain ⟨j, e⟩ := lcF_all (vs := [2, 3]) (gf := tupG 2 (consG (nameG 2) (consG (nameG 3) nilG))) (te := callF (f__law_alike d) (consA (varF 2) (consA (varF 3) nilA))) (fun _ => .bl true) hit hc (by rw [zip_self, List.length_map, List.length_map, sizeLine_eq']; omega) fun x hx S hS => by
    rw [zip_self, List.map_map] at hx
    obtain ⟨y, hy, rfl⟩ := List.mem_map.mp hx
    obtain ⟨j, hj⟩ := ih y S (h y hy)
    exact ⟨_, j, rfl, by simp -implicitDefEqProofs only [varF_ap, cF_ap, opF_ap, opK_ap, bF_ap, boolK_ap, andT_ap, andK_ap, orT_ap, orK_ap, notT_ap, notK_ap, yesT_ap, andV_ap, andVK_ap, orV_ap, orVK_ap, notV_ap, notVK_ap, ifF_ap, ifFK_ap, nilA_ap, consA_ap, consK_ap, consJ_ap, tupA_ap, tupK_ap, lstA_ap, lstK_ap, newO_ap, dicF_ap, callF_ap, un1_ap, methF_ap, methK_ap, nonO_ap, someO_ap, someK_ap, slF_ap, slK_ap, slJ_ap, itF_ap, itA_ap, nilS_ap, bkS_ap, ctS_ap, seqS_ap, seqK_nx, seqK_rt, seqK_bk, seqK_ct, dropS_ap, dropK_ap, retS_ap, retK_ap, retN_ap, ifS_ap, ifK_ap, setS_ap, setK_ap, asgS_ap, asgK_ap, asgJ_ap, nameG_ap, nilG_ap, consG_ap, consGK_ap, tupG_ap, fnF_ap, fnK_nx, fnK_rt, forS_ap, forK_ap, intD_ap, negD_ap, addI_ap, varK_ap, startE, yes2, isN, List.map_cons, List.map_nil, List.length_cons, List.length_nil, List.replicate, List.append_nil, List.cons_append, List.nil_append, List.getElem?_cons_zero, List.getElem?_cons_succ, List.set_cons_zero, List.set_cons_succ, R.bind_ok, R.bind_ex, R.bind_bad, R.noex_ok, if_true, if_false, Bool.false_eq_true, Bool.true_eq_false, ite_true, ite_false, reduceIte, Nat.reduceAdd, Nat.reduceSub, Nat.zero_add, Nat.sub_self, Nat.sub_zero, decide_true, decide_false, Bool.not_true, Bool.not_false, wipeE, hj]⟩
  exact ⟨j, by rw [e, zip_self, List.map_map, List.map_map]; rfl⟩
theorem all_true {xs : List VL.D} : (xs.map fun _ => VL.D.bl true) = (xs.map fun _ => true).map VL.D.bl := by rw [List.map_map]; rfl
theorem alike_self : ∀ (d : Nat) (x : VL.D) (st : Sto), PlA d x → ∃ j, f__law_alike d [x, x] st = .ok (.bl true) (st ++ j)
  | 0, _, _, h => h.elim
  | d + 1, .tup xs, st, h => by
    have i1 : isiD [.tup xs, .ty "tuple"] st = .ok (.bl true) st := rfl
    have i2 : isiD [.tup xs, .ty "list"] st = .ok (.bl false) st := rfl
    obtain ⟨j, e⟩ := alike_all (a := .tup xs) (b := .tup xs) (c := []) (alike_self d) (show zipD [.tup xs, .tup xs] st = _ from rfl) chk_nil h.2 h.1
    have al : allD [.ref st.length] (st ++ .lst (xs.map fun _ => .bl true) :: j) = .ok (.bl true) (st ++ .lst (xs.map fun _ => .bl true) :: j) := by
      rw [allD_ok (bs := xs.map fun _ => true) (by rw [listAt_at, all_true])]
      simp
    exact ⟨.lst (xs.map fun _ => .bl true) :: j, by simp -implicitDefEqProofs +decide only [varF_ap, cF_ap, opF_ap, opK_ap, bF_ap, boolK_ap, andT_ap, andK_ap, orT_ap, orK_ap, notT_ap, notK_ap, yesT_ap, andV_ap, andVK_ap, orV_ap, orVK_ap, notV_ap, notVK_ap, ifF_ap, ifFK_ap, nilA_ap, consA_ap, consK_ap, consJ_ap, tupA_ap, lstA_ap, newO_ap, dicF_ap, callF_ap, un1_ap, methF_ap, nonO_ap, someO_ap, someK_ap, slF_ap, slK_ap, slJ_ap, itF_ap, itA_ap, nilS_ap, bkS_ap, ctS_ap, seqS_ap, seqK_nx, seqK_rt, seqK_bk, seqK_ct, dropS_ap, dropK_ap, retS_ap, retK_ap, retN_ap, ifS_ap, ifK_ap, setS_ap, setK_ap, asgS_ap, asgK_ap, asgJ_ap, nameG_ap, nilG_ap, consG_ap, consGK_ap, fnF_ap, fnK_nx, fnK_rt, forS_ap, forK_ap, negD_ap, addI_ap, varK_ap, startE, yes2, isN, List.map_cons, List.map_nil, List.length_cons, List.length_nil, List.replicate, List.append_nil, List.cons_append, List.nil_append, List.getElem?_cons_zero, List.getElem?_cons_succ, List.set_cons_zero, List.set_cons_succ, R.bind_ok, R.bind_ex, R.bind_bad, R.noex_ok, if_true, if_false, Bool.false_eq_true, Bool.true_eq_false, ite_true, ite_false, reduceIte, Nat.reduceAdd, Nat.reduceSub, Nat.zero_add, Nat.sub_self, Nat.sub_zero, decide_true, decide_false, Bool.not_true, Bool.not_false, subD_ap, ltD_ap, leD_ap, gtD_ap, geD_ap, mulD_ap, modD_ap, divD_ap, powD_ap, tupK_ok, lstK_ok, methK_ok, tupG_ok, eqS_t, eqS_f, neS_t, neS_f, eqI_ap, neI_ap, inT_nil, inT_hit, inT_miss, ne_eq, not_false_eq_true, f__law_alike, b__law_alike, q0__law_alike, lenD_tup, i1, i2, e, al]⟩
  | d + 1, .int i, st, _ => by
    have i1 : isiD [.int i, .ty "tuple"] st = .ok (.bl false) st := rfl
    have i2 : isiD [.int i, .ty "list"] st = .ok (.bl false) st := rfl
    have i3 : isiD [.int i, .ty "bool"] st = .ok (.bl false) st := rfl
    have i4 : isiD [.int i, .ty "str"] st = .ok (.bl false) st := rfl
    have w : f__law_whole [.int i] st = .ok (.bl true) st := whole_int
    exact ⟨[], by simp -implicitDefEqProofs +decide only [varF_ap, cF_ap, opF_ap, opK_ap, bF_ap, boolK_ap, andT_ap, andK_ap, orT_ap, orK_ap, notT_ap, notK_ap, yesT_ap, andV_ap, andVK_ap, orV_ap, orVK_ap, notV_ap, notVK_ap, ifF_ap, ifFK_ap, nilA_ap, consA_ap, consK_ap, consJ_ap, tupA_ap, lstA_ap, newO_ap, dicF_ap, callF_ap, un1_ap, methF_ap, nonO_ap, someO_ap, someK_ap, slF_ap, slK_ap, slJ_ap, itF_ap, itA_ap, nilS_ap, bkS_ap, ctS_ap, seqS_ap, seqK_nx, seqK_rt, seqK_bk, seqK_ct, dropS_ap, dropK_ap, retS_ap, retK_ap, retN_ap, ifS_ap, ifK_ap, setS_ap, setK_ap, asgS_ap, asgK_ap, asgJ_ap, nameG_ap, nilG_ap, consG_ap, consGK_ap, fnF_ap, fnK_nx, fnK_rt, forS_ap, forK_ap, negD_ap, addI_ap, varK_ap, startE, yes2, isN, List.map_cons, List.map_nil, List.length_cons, List.length_nil, List.replicate, List.append_nil, List.cons_append, List.nil_append, List.getElem?_cons_zero, List.getElem?_cons_succ, List.set_cons_zero, List.set_cons_succ, R.bind_ok, R.bind_ex, R.bind_bad, R.noex_ok, if_true, if_false, Bool.false_eq_true, Bool.true_eq_false, ite_true, ite_false, reduceIte, Nat.reduceAdd, Nat.reduceSub, Nat.zero_add, Nat.sub_self, Nat.sub_zero, decide_true, decide_false, Bool.not_true, Bool.not_false, subD_ap, ltD_ap, leD_ap, gtD_ap, geD_ap, mulD_ap, modD_ap, divD_ap, powD_ap, tupK_ok, lstK_ok, methK_ok, tupG_ok, eqS_t, eqS_f, neS_t, neS_f, eqI_ap, neI_ap, inT_nil, inT_hit, inT_miss, ne_eq, not_false_eq_true, f__law_alike, b__law_alike, i1, i2, i3, i4, w]⟩
  | d + 1, .str i, st, _ => by
    have i1 : isiD [.str i, .ty "tuple"] st = .ok (.bl false) st := rfl
    have i2 : isiD [.str i, .ty "list"] st = .ok (.bl false) st := rfl
    have i3 : isiD [.str i, .ty "bool"] st = .ok (.bl false) st := rfl
    have i4 : isiD [.str i, .ty "str"] st = .ok (.bl true) st := rfl
    exact ⟨[], by simp -implicitDefEqProofs +decide only [varF_ap, cF_ap, opF_ap, opK_ap, bF_ap, boolK_ap, andT_ap, andK_ap, orT_ap, orK_ap, notT_ap, notK_ap, yesT_ap, andV_ap, andVK_ap, orV_ap, orVK_ap, notV_ap, notVK_ap, ifF_ap, ifFK_ap, nilA_ap, consA_ap, consK_ap, consJ_ap, tupA_ap, lstA_ap, newO_ap, dicF_ap, callF_ap, un1_ap, methF_ap, nonO_ap, someO_ap, someK_ap, slF_ap, slK_ap, slJ_ap, itF_ap, itA_ap, nilS_ap, bkS_ap, ctS_ap, seqS_ap, seqK_nx, seqK_rt, seqK_bk, seqK_ct, dropS_ap, dropK_ap, retS_ap, retK_ap, retN_ap, ifS_ap, ifK_ap, setS_ap, setK_ap, asgS_ap, asgK_ap, asgJ_ap, nameG_ap, nilG_ap, consG_ap, consGK_ap, fnF_ap, fnK_nx, fnK_rt, forS_ap, forK_ap, negD_ap, addI_ap, varK_ap, startE, yes2, isN, List.map_cons, List.map_nil, List.length_cons, List.length_nil, List.replicate, List.append_nil, List.cons_append, List.nil_append, List.getElem?_cons_zero, List.getElem?_cons_succ, List.set_cons_zero, List.set_cons_succ, R.bind_ok, R.bind_ex, R.bind_bad, R.noex_ok, if_true, if_false, Bool.false_eq_true, Bool.true_eq_false, ite_true, ite_false, reduceIte, Nat.reduceAdd, Nat.reduceSub, Nat.zero_add, Nat.sub_self, Nat.sub_zero, decide_true, decide_false, Bool.not_true, Bool.not_false, subD_ap, ltD_ap, leD_ap, gtD_ap, geD_ap, mulD_ap, modD_ap, divD_ap, powD_ap, tupK_ok, lstK_ok, methK_ok, tupG_ok, eqS_t, eqS_f, neS_t, neS_f, eqI_ap, neI_ap, inT_nil, inT_hit, inT_miss, ne_eq, not_false_eq_true, f__law_alike, b__law_alike, i1, i2, i3, i4]⟩
  | d + 1, .bl i, st, _ => by
    have i1 : isiD [.bl i, .ty "tuple"] st = .ok (.bl false) st := rfl
    have i2 : isiD [.bl i, .ty "list"] st = .ok (.bl false) st := rfl
    have i3 : isiD [.bl i, .ty "bool"] st = .ok (.bl true) st := rfl
    have q : eqD (.bl i) (.bl i) st = .ok (.bl true) st := by rw [eqD_ap, eqP_bl]; simp [eqK]
    exact ⟨[], by simp -implicitDefEqProofs +decide only [varF_ap, cF_ap, opF_ap, opK_ap, bF_ap, boolK_ap, andT_ap, andK_ap, orT_ap, orK_ap, notT_ap, notK_ap, yesT_ap, andV_ap, andVK_ap, orV_ap, orVK_ap, notV_ap, notVK_ap, ifF_ap, ifFK_ap, nilA_ap, consA_ap, consK_ap, consJ_ap, tupA_ap, lstA_ap, newO_ap, dicF_ap, callF_ap, un1_ap, methF_ap, nonO_ap, someO_ap, someK_ap, slF_ap, slK_ap, slJ_ap, itF_ap, itA_ap, nilS_ap, bkS_ap, ctS_ap, seqS_ap, seqK_nx, seqK_rt, seqK_bk, seqK_ct, dropS_ap, dropK_ap, retS_ap, retK_ap, retN_ap, ifS_ap, ifK_ap, setS_ap, setK_ap, asgS_ap, asgK_ap, asgJ_ap, nameG_ap, nilG_ap, consG_ap, consGK_ap, fnF_ap, fnK_nx, fnK_rt, forS_ap, forK_ap, negD_ap, addI_ap, varK_ap, startE, yes2, isN, List.map_cons, List.map_nil, List.length_cons, List.length_nil, List.replicate, List.append_nil, List.cons_append, List.nil_append, List.getElem?_cons_zero, List.getElem?_cons_succ, List.set_cons_zero, List.set_cons_succ, R.bind_ok, R.bind_ex, R.bind_bad, R.noex_ok, if_true, if_false, Bool.false_eq_true, Bool.true_eq_false, ite_true, ite_false, reduceIte, Nat.reduceAdd, Nat.reduceSub, Nat.zero_add, Nat.sub_self, Nat.sub_zero, decide_true, decide_false, Bool.not_true, Bool.not_false, subD_ap, ltD_ap, leD_ap, gtD_ap, geD_ap, mulD_ap, modD_ap, divD_ap, powD_ap, tupK_ok, lstK_ok, methK_ok, tupG_ok, eqS_t, eqS_f, neS_t, neS_f, eqI_ap, neI_ap, inT_nil, inT_hit, inT_miss, ne_eq, not_false_eq_true, f__law_alike, b__law_alike, i1, i2, i3, q]⟩
theorem alike_list {d m n : Nat} {xs : List VL.D} {st : Sto} (hm : listAt st m = some xs) (hn : listAt st n = some xs) (h : ∀ x ∈ xs, PlA d x) (hl : xs.length ≤ 10000) : ∃ j, f__law_alike (d + 1) [.ref m, .ref n] st = .ok (.bl true) (st ++ j) := by
  have ty : ∀ {k : Nat}, listAt st k = some xs → tyOfD (.ref k) st = some "list" := by
    intro k hk
    unfold listAt at hk
    unfold tyOfD
    split at hk <;> first | (cases hk; done) | simp_all
  have i1 : ∀ {k : Nat}, listAt st k = some xs → isiD [.ref k, .ty "tuple"] st = .ok (.bl false) st := fun hk => by simp only [isiD, ty hk]; rfl
  have i2 : ∀ {k : Nat}, listAt st k = some xs → isiD [.ref k, .ty "list"] st = .ok (.bl true) st := fun hk => by simp only [isiD, ty hk]; rfl
  have hz : zipD [.ref m, .ref n] st = .ok ((xs.zip xs).map pairD, chkAt st m ++ chkAt st n) st := by simp only [zipD, hm, hn]
  obtain ⟨j, e⟩ := alike_all (a := .ref m) (b := .ref n) (alike_self d) hz (fun S hS => (chk_at S hS).app (chk_at S hS)) h hl
  have al : allD [.ref st.length] (st ++ .lst (xs.map fun _ => .bl true) :: j) = .ok (.bl true) (st ++ .lst (xs.map fun _ => .bl true) :: j) := by
    rw [allD_ok (bs := xs.map fun _ => true) (by rw [listAt_at, all_true])]
    simp
  exact ⟨.lst (xs.map fun _ => .bl true) :: j, by simp -implicitDefEqProofs +decide only [varF_ap, cF_ap, opF_ap, opK_ap, bF_ap, boolK_ap, andT_ap, andK_ap, orT_ap, orK_ap, notT_ap, notK_ap, yesT_ap, andV_ap, andVK_ap, orV_ap, orVK_ap, notV_ap, notVK_ap, ifF_ap, ifFK_ap, nilA_ap, consA_ap, consK_ap, consJ_ap, tupA_ap, lstA_ap, newO_ap, dicF_ap, callF_ap, un1_ap, methF_ap, nonO_ap, someO_ap, someK_ap, slF_ap, slK_ap, slJ_ap, itF_ap, itA_ap, nilS_ap, bkS_ap, ctS_ap, seqS_ap, seqK_nx, seqK_rt, seqK_bk, seqK_ct, dropS_ap, dropK_ap, retS_ap, retK_ap, retN_ap, ifS_ap, ifK_ap, setS_ap, setK_ap, asgS_ap, asgK_ap, asgJ_ap, nameG_ap, nilG_ap, consG_ap, consGK_ap, fnF_ap, fnK_nx, fnK_rt, forS_ap, forK_ap, negD_ap, addI_ap, varK_ap, startE, yes2, isN, List.map_cons, List.map_nil, List.length_cons, List.length_nil, List.replicate, List.append_nil, List.cons_append, List.nil_append, List.getElem?_cons_zero, List.getElem?_cons_succ, List.set_cons_zero, List.set_cons_succ, R.bind_ok, R.bind_ex, R.bind_bad, R.noex_ok, if_true, if_false, Bool.false_eq_true, Bool.true_eq_false, ite_true, ite_false, reduceIte, Nat.reduceAdd, Nat.reduceSub, Nat.zero_add, Nat.sub_self, Nat.sub_zero, decide_true, decide_false, Bool.not_true, Bool.not_false, subD_ap, ltD_ap, leD_ap, gtD_ap, geD_ap, mulD_ap, modD_ap, divD_ap, powD_ap, tupK_ok, lstK_ok, methK_ok, tupG_ok, eqS_t, eqS_f, neS_t, neS_f, eqI_ap, neI_ap, inT_nil, inT_hit, inT_miss, ne_eq, not_false_eq_true, f__law_alike, b__law_alike, q0__law_alike, lenD_list hm, lenD_list hn, i1 hn, i1 hm, i2 hn, i2 hm, e, al]⟩
end Law

namespace Law
open PySem L2 VL
/-! k41: the law's own laying is the relation's -/
theorem lbes_one {w : Str} {args : List VL.D} {a y : VL.D} {st : Sto} (h : One w args) : f__law_besides [.tup (.str w :: a :: args), y] st = .ok (.tup args) st := by
  rcases h with ⟨rfl, C, rfl, h⟩ | ⟨rfl, rfl⟩ | ⟨rfl, es, rfl, h, k⟩ | ⟨rfl, b, rfl, h⟩ | ⟨hw, p, b, rfl, h⟩ | ⟨rfl, k, b, os, rfl, h, h'⟩
  · simp -implicitDefEqProofs +decide only [varF_ap, cF_ap, opF_ap, opK_ap, bF_ap, boolK_ap, andT_ap, andK_ap, orT_ap, orK_ap, notT_ap, notK_ap, yesT_ap, andV_ap, andVK_ap, orV_ap, orVK_ap, notV_ap, notVK_ap, ifF_ap, ifFK_ap, nilA_ap, consA_ap, consK_ap, consJ_ap, tupA_ap, lstA_ap, newO_ap, dicF_ap, callF_ap, un1_ap, methF_ap, nonO_ap, someO_ap, someK_ap, slF_ap, slK_ap, slJ_ap, itF_ap, itA_ap, nilS_ap, bkS_ap, ctS_ap, seqS_ap, seqK_nx, seqK_rt, seqK_bk, seqK_ct, dropS_ap, dropK_ap, retS_ap, retK_ap, retN_ap, ifS_ap, ifK_ap, setS_ap, setK_ap, asgS_ap, asgK_ap, asgJ_ap, nameG_ap, nilG_ap, consG_ap, consGK_ap, fnF_ap, fnK_nx, fnK_rt, forS_ap, forK_ap, negD_ap, addI_ap, varK_ap, startE, yes2, isN, List.map_cons, List.map_nil, List.length_cons, List.length_nil, List.replicate, List.append_nil, List.cons_append, List.nil_append, List.getElem?_cons_zero, List.getElem?_cons_succ, List.set_cons_zero, List.set_cons_succ, R.bind_ok, R.bind_ex, R.bind_bad, R.noex_ok, if_true, if_false, Bool.false_eq_true, Bool.true_eq_false, ite_true, ite_false, reduceIte, Nat.reduceAdd, Nat.reduceSub, Nat.zero_add, Nat.sub_self, Nat.sub_zero, decide_true, decide_false, Bool.not_true, Bool.not_false, subD_ap, ltD_ap, leD_ap, gtD_ap, geD_ap, mulD_ap, modD_ap, divD_ap, powD_ap, tupK_ok, lstK_ok, methK_ok, tupG_ok, eqS_t, eqS_f, neS_t, neS_f, eqI_ap, neI_ap, inT_nil, inT_hit, inT_miss, ne_eq, not_false_eq_true, f__law_besides, b__law_besides, jx0, jx2, sz (by decide : 1 ≤ 100), sz (by decide : 3 ≤ 100)]
  · simp -implicitDefEqProofs +decide only [varF_ap, cF_ap, opF_ap, opK_ap, bF_ap, boolK_ap, andT_ap, andK_ap, orT_ap, orK_ap, notT_ap, notK_ap, yesT_ap, andV_ap, andVK_ap, orV_ap, orVK_ap, notV_ap, notVK_ap, ifF_ap, ifFK_ap, nilA_ap, consA_ap, consK_ap, consJ_ap, tupA_ap, lstA_ap, newO_ap, dicF_ap, callF_ap, un1_ap, methF_ap, nonO_ap, someO_ap, someK_ap, slF_ap, slK_ap, slJ_ap, itF_ap, itA_ap, nilS_ap, bkS_ap, ctS_ap, seqS_ap, seqK_nx, seqK_rt, seqK_bk, seqK_ct, dropS_ap, dropK_ap, retS_ap, retK_ap, retN_ap, ifS_ap, ifK_ap, setS_ap, setK_ap, asgS_ap, asgK_ap, asgJ_ap, nameG_ap, nilG_ap, consG_ap, consGK_ap, fnF_ap, fnK_nx, fnK_rt, forS_ap, forK_ap, negD_ap, addI_ap, varK_ap, startE, yes2, isN, List.map_cons, List.map_nil, List.length_cons, List.length_nil, List.replicate, List.append_nil, List.cons_append, List.nil_append, List.getElem?_cons_zero, List.getElem?_cons_succ, List.set_cons_zero, List.set_cons_succ, R.bind_ok, R.bind_ex, R.bind_bad, R.noex_ok, if_true, if_false, Bool.false_eq_true, Bool.true_eq_false, ite_true, ite_false, reduceIte, Nat.reduceAdd, Nat.reduceSub, Nat.zero_add, Nat.sub_self, Nat.sub_zero, decide_true, decide_false, Bool.not_true, Bool.not_false, subD_ap, ltD_ap, leD_ap, gtD_ap, geD_ap, mulD_ap, modD_ap, divD_ap, powD_ap, tupK_ok, lstK_ok, methK_ok, tupG_ok, eqS_t, eqS_f, neS_t, neS_f, eqI_ap, neI_ap, inT_nil, inT_hit, inT_miss, ne_eq, not_false_eq_true, f__law_besides, b__law_besides, jx0, sz (by decide : 0 ≤ 100), sz (by decide : 3 ≤ 100), sz (by decide : 2 ≤ 100)]
  · simp -implicitDefEqProofs +decide only [varF_ap, cF_ap, opF_ap, opK_ap, bF_ap, boolK_ap, andT_ap, andK_ap, orT_ap, orK_ap, notT_ap, notK_ap, yesT_ap, andV_ap, andVK_ap, orV_ap, orVK_ap, notV_ap, notVK_ap, ifF_ap, ifFK_ap, nilA_ap, consA_ap, consK_ap, consJ_ap, tupA_ap, lstA_ap, newO_ap, dicF_ap, callF_ap, un1_ap, methF_ap, nonO_ap, someO_ap, someK_ap, slF_ap, slK_ap, slJ_ap, itF_ap, itA_ap, nilS_ap, bkS_ap, ctS_ap, seqS_ap, seqK_nx, seqK_rt, seqK_bk, seqK_ct, dropS_ap, dropK_ap, retS_ap, retK_ap, retN_ap, ifS_ap, ifK_ap, setS_ap, setK_ap, asgS_ap, asgK_ap, asgJ_ap, nameG_ap, nilG_ap, consG_ap, consGK_ap, fnF_ap, fnK_nx, fnK_rt, forS_ap, forK_ap, negD_ap, addI_ap, varK_ap, startE, yes2, isN, List.map_cons, List.map_nil, List.length_cons, List.length_nil, List.replicate, List.append_nil, List.cons_append, List.nil_append, List.getElem?_cons_zero, List.getElem?_cons_succ, List.set_cons_zero, List.set_cons_succ, R.bind_ok, R.bind_ex, R.bind_bad, R.noex_ok, if_true, if_false, Bool.false_eq_true, Bool.true_eq_false, ite_true, ite_false, reduceIte, Nat.reduceAdd, Nat.reduceSub, Nat.zero_add, Nat.sub_self, Nat.sub_zero, decide_true, decide_false, Bool.not_true, Bool.not_false, subD_ap, ltD_ap, leD_ap, gtD_ap, geD_ap, mulD_ap, modD_ap, divD_ap, powD_ap, tupK_ok, lstK_ok, methK_ok, tupG_ok, eqS_t, eqS_f, neS_t, neS_f, eqI_ap, neI_ap, inT_nil, inT_hit, inT_miss, ne_eq, not_false_eq_true, f__law_besides, b__law_besides, jx0, jx2, sz (by decide : 1 ≤ 100), sz (by decide : 3 ≤ 100)]
  · simp -implicitDefEqProofs +decide only [varF_ap, cF_ap, opF_ap, opK_ap, bF_ap, boolK_ap, andT_ap, andK_ap, orT_ap, orK_ap, notT_ap, notK_ap, yesT_ap, andV_ap, andVK_ap, orV_ap, orVK_ap, notV_ap, notVK_ap, ifF_ap, ifFK_ap, nilA_ap, consA_ap, consK_ap, consJ_ap, tupA_ap, lstA_ap, newO_ap, dicF_ap, callF_ap, un1_ap, methF_ap, nonO_ap, someO_ap, someK_ap, slF_ap, slK_ap, slJ_ap, itF_ap, itA_ap, nilS_ap, bkS_ap, ctS_ap, seqS_ap, seqK_nx, seqK_rt, seqK_bk, seqK_ct, dropS_ap, dropK_ap, retS_ap, retK_ap, retN_ap, ifS_ap, ifK_ap, setS_ap, setK_ap, asgS_ap, asgK_ap, asgJ_ap, nameG_ap, nilG_ap, consG_ap, consGK_ap, fnF_ap, fnK_nx, fnK_rt, forS_ap, forK_ap, negD_ap, addI_ap, varK_ap, startE, yes2, isN, List.map_cons, List.map_nil, List.length_cons, List.length_nil, List.replicate, List.append_nil, List.cons_append, List.nil_append, List.getElem?_cons_zero, List.getElem?_cons_succ, List.set_cons_zero, List.set_cons_succ, R.bind_ok, R.bind_ex, R.bind_bad, R.noex_ok, if_true, if_false, Bool.false_eq_true, Bool.true_eq_false, ite_true, ite_false, reduceIte, Nat.reduceAdd, Nat.reduceSub, Nat.zero_add, Nat.sub_self, Nat.sub_zero, decide_true, decide_false, Bool.not_true, Bool.not_false, subD_ap, ltD_ap, leD_ap, gtD_ap, geD_ap, mulD_ap, modD_ap, divD_ap, powD_ap, tupK_ok, lstK_ok, methK_ok, tupG_ok, eqS_t, eqS_f, neS_t, neS_f, eqI_ap, neI_ap, inT_nil, inT_hit, inT_miss, ne_eq, not_false_eq_true, f__law_besides, b__law_besides, jx0, jx2, sz (by decide : 1 ≤ 100), sz (by decide : 3 ≤ 100)]
  · rcases sums_ne hw with rfl | rfl | rfl <;> simp -implicitDefEqProofs +decide only [varF_ap, cF_ap, opF_ap, opK_ap, bF_ap, boolK_ap, andT_ap, andK_ap, orT_ap, orK_ap, notT_ap, notK_ap, yesT_ap, andV_ap, andVK_ap, orV_ap, orVK_ap, notV_ap, notVK_ap, ifF_ap, ifFK_ap, nilA_ap, consA_ap, consK_ap, consJ_ap, tupA_ap, lstA_ap, newO_ap, dicF_ap, callF_ap, un1_ap, methF_ap, nonO_ap, someO_ap, someK_ap, slF_ap, slK_ap, slJ_ap, itF_ap, itA_ap, nilS_ap, bkS_ap, ctS_ap, seqS_ap, seqK_nx, seqK_rt, seqK_bk, seqK_ct, dropS_ap, dropK_ap, retS_ap, retK_ap, retN_ap, ifS_ap, ifK_ap, setS_ap, setK_ap, asgS_ap, asgK_ap, asgJ_ap, nameG_ap, nilG_ap, consG_ap, consGK_ap, fnF_ap, fnK_nx, fnK_rt, forS_ap, forK_ap, negD_ap, addI_ap, varK_ap, startE, yes2, isN, List.map_cons, List.map_nil, List.length_cons, List.length_nil, List.replicate, List.append_nil, List.cons_append, List.nil_append, List.getElem?_cons_zero, List.getElem?_cons_succ, List.set_cons_zero, List.set_cons_succ, R.bind_ok, R.bind_ex, R.bind_bad, R.noex_ok, if_true, if_false, Bool.false_eq_true, Bool.true_eq_false, ite_true, ite_false, reduceIte, Nat.reduceAdd, Nat.reduceSub, Nat.zero_add, Nat.sub_self, Nat.sub_zero, decide_true, decide_false, Bool.not_true, Bool.not_false, subD_ap, ltD_ap, leD_ap, gtD_ap, geD_ap, mulD_ap, modD_ap, divD_ap, powD_ap, tupK_ok, lstK_ok, methK_ok, tupG_ok, eqS_t, eqS_f, neS_t, neS_f, eqI_ap, neI_ap, inT_nil, inT_hit, inT_miss, ne_eq, not_false_eq_true, f__law_besides, b__law_besides, jx0, jx2, jx3, sz (by decide : 2 ≤ 100), sz (by decide : 3 ≤ 100)]
  · simp -implicitDefEqProofs +decide only [varF_ap, cF_ap, opF_ap, opK_ap, bF_ap, boolK_ap, andT_ap, andK_ap, orT_ap, orK_ap, notT_ap, notK_ap, yesT_ap, andV_ap, andVK_ap, orV_ap, orVK_ap, notV_ap, notVK_ap, ifF_ap, ifFK_ap, nilA_ap, consA_ap, consK_ap, consJ_ap, tupA_ap, lstA_ap, newO_ap, dicF_ap, callF_ap, un1_ap, methF_ap, nonO_ap, someO_ap, someK_ap, slF_ap, slK_ap, slJ_ap, itF_ap, itA_ap, nilS_ap, bkS_ap, ctS_ap, seqS_ap, seqK_nx, seqK_rt, seqK_bk, seqK_ct, dropS_ap, dropK_ap, retS_ap, retK_ap, retN_ap, ifS_ap, ifK_ap, setS_ap, setK_ap, asgS_ap, asgK_ap, asgJ_ap, nameG_ap, nilG_ap, consG_ap, consGK_ap, fnF_ap, fnK_nx, fnK_rt, forS_ap, forK_ap, negD_ap, addI_ap, varK_ap, startE, yes2, isN, List.map_cons, List.map_nil, List.length_cons, List.length_nil, List.replicate, List.append_nil, List.cons_append, List.nil_append, List.getElem?_cons_zero, List.getElem?_cons_succ, List.set_cons_zero, List.set_cons_succ, R.bind_ok, R.bind_ex, R.bind_bad, R.noex_ok, if_true, if_false, Bool.false_eq_true, Bool.true_eq_false, ite_true, ite_false, reduceIte, Nat.reduceAdd, Nat.reduceSub, Nat.zero_add, Nat.sub_self, Nat.sub_zero, decide_true, decide_false, Bool.not_true, Bool.not_false, subD_ap, ltD_ap, leD_ap, gtD_ap, geD_ap, mulD_ap, modD_ap, divD_ap, powD_ap, tupK_ok, lstK_ok, methK_ok, tupG_ok, eqS_t, eqS_f, neS_t, neS_f, eqI_ap, neI_ap, inT_nil, inT_hit, inT_miss, ne_eq, not_false_eq_true, f__law_besides, b__law_besides, jx0, jx2, jx3, jx4, sz (by decide : 3 ≤ 100)]
theorem lbes_two {w : Str} {args : List VL.D} {a b : VL.D} {y : Int} {st : Sto} (h : Two w args) : f__law_besides [.tup (.str w :: a :: b :: args), .int y] st = .ok (.tup (bs2 w args y)) st := by
  rcases h with ⟨hw, rfl⟩ | ⟨hw, ps, rfl, h⟩
  · rw [bs2_ne (four_nl hw)]; rcases four_ne hw with rfl | rfl | rfl | rfl <;> (simp -implicitDefEqProofs +decide only [varF_ap, cF_ap, opF_ap, opK_ap, bF_ap, boolK_ap, andT_ap, andK_ap, orT_ap, orK_ap, notT_ap, notK_ap, yesT_ap, andV_ap, andVK_ap, orV_ap, orVK_ap, notV_ap, notVK_ap, ifF_ap, ifFK_ap, nilA_ap, consA_ap, consK_ap, consJ_ap, tupA_ap, lstA_ap, newO_ap, dicF_ap, callF_ap, un1_ap, methF_ap, nonO_ap, someO_ap, someK_ap, slF_ap, slK_ap, slJ_ap, itF_ap, itA_ap, nilS_ap, bkS_ap, ctS_ap, seqS_ap, seqK_nx, seqK_rt, seqK_bk, seqK_ct, dropS_ap, dropK_ap, retS_ap, retK_ap, retN_ap, ifS_ap, ifK_ap, setS_ap, setK_ap, asgS_ap, asgK_ap, asgJ_ap, nameG_ap, nilG_ap, consG_ap, consGK_ap, fnF_ap, fnK_nx, fnK_rt, forS_ap, forK_ap, negD_ap, addI_ap, varK_ap, startE, yes2, isN, List.map_cons, List.map_nil, List.length_cons, List.length_nil, List.replicate, List.append_nil, List.cons_append, List.nil_append, List.getElem?_cons_zero, List.getElem?_cons_succ, List.set_cons_zero, List.set_cons_succ, R.bind_ok, R.bind_ex, R.bind_bad, R.noex_ok, if_true, if_false, Bool.false_eq_true, Bool.true_eq_false, ite_true, ite_false, reduceIte, Nat.reduceAdd, Nat.reduceSub, Nat.zero_add, Nat.sub_self, Nat.sub_zero, decide_true, decide_false, Bool.not_true, Bool.not_false, subD_ap, ltD_ap, leD_ap, gtD_ap, geD_ap, mulD_ap, modD_ap, divD_ap, powD_ap, tupK_ok, lstK_ok, methK_ok, tupG_ok, eqS_t, eqS_f, neS_t, neS_f, eqI_ap, neI_ap, inT_nil, inT_hit, inT_miss, ne_eq, not_false_eq_true, f__law_besides, b__law_besides, jx0, sz (by decide : 0 ≤ 100), sz (by decide : 3 ≤ 100), sz (by decide : 2 ≤ 100)])
  · rcases tri_ne hw with rfl | rfl | rfl
    · rw [bs2_ne (w := "join") (by decide)]; simp -implicitDefEqProofs +decide only [varF_ap, cF_ap, opF_ap, opK_ap, bF_ap, boolK_ap, andT_ap, andK_ap, orT_ap, orK_ap, notT_ap, notK_ap, yesT_ap, andV_ap, andVK_ap, orV_ap, orVK_ap, notV_ap, notVK_ap, ifF_ap, ifFK_ap, nilA_ap, consA_ap, consK_ap, consJ_ap, tupA_ap, lstA_ap, newO_ap, dicF_ap, callF_ap, un1_ap, methF_ap, nonO_ap, someO_ap, someK_ap, slF_ap, slK_ap, slJ_ap, itF_ap, itA_ap, nilS_ap, bkS_ap, ctS_ap, seqS_ap, seqK_nx, seqK_rt, seqK_bk, seqK_ct, dropS_ap, dropK_ap, retS_ap, retK_ap, retN_ap, ifS_ap, ifK_ap, setS_ap, setK_ap, asgS_ap, asgK_ap, asgJ_ap, nameG_ap, nilG_ap, consG_ap, consGK_ap, fnF_ap, fnK_nx, fnK_rt, forS_ap, forK_ap, negD_ap, addI_ap, varK_ap, startE, yes2, isN, List.map_cons, List.map_nil, List.length_cons, List.length_nil, List.replicate, List.append_nil, List.cons_append, List.nil_append, List.getElem?_cons_zero, List.getElem?_cons_succ, List.set_cons_zero, List.set_cons_succ, R.bind_ok, R.bind_ex, R.bind_bad, R.noex_ok, if_true, if_false, Bool.false_eq_true, Bool.true_eq_false, ite_true, ite_false, reduceIte, Nat.reduceAdd, Nat.reduceSub, Nat.zero_add, Nat.sub_self, Nat.sub_zero, decide_true, decide_false, Bool.not_true, Bool.not_false, subD_ap, ltD_ap, leD_ap, gtD_ap, geD_ap, mulD_ap, modD_ap, divD_ap, powD_ap, tupK_ok, lstK_ok, methK_ok, tupG_ok, eqS_t, eqS_f, neS_t, neS_f, eqI_ap, neI_ap, inT_nil, inT_hit, inT_miss, ne_eq, not_false_eq_true, f__law_besides, b__law_besides, jx0, jx3, sz (by decide : 1 ≤ 100), sz (by decide : 3 ≤ 100), sz (by decide : 2 ≤ 100)]
    · unfold bs2; rw [if_pos rfl]; simp -implicitDefEqProofs +decide only [varF_ap, cF_ap, opF_ap, opK_ap, bF_ap, boolK_ap, andT_ap, andK_ap, orT_ap, orK_ap, notT_ap, notK_ap, yesT_ap, andV_ap, andVK_ap, orV_ap, orVK_ap, notV_ap, notVK_ap, ifF_ap, ifFK_ap, nilA_ap, consA_ap, consK_ap, consJ_ap, tupA_ap, lstA_ap, newO_ap, dicF_ap, callF_ap, un1_ap, methF_ap, nonO_ap, someO_ap, someK_ap, slF_ap, slK_ap, slJ_ap, itF_ap, itA_ap, nilS_ap, bkS_ap, ctS_ap, seqS_ap, seqK_nx, seqK_rt, seqK_bk, seqK_ct, dropS_ap, dropK_ap, retS_ap, retK_ap, retN_ap, ifS_ap, ifK_ap, setS_ap, setK_ap, asgS_ap, asgK_ap, asgJ_ap, nameG_ap, nilG_ap, consG_ap, consGK_ap, fnF_ap, fnK_nx, fnK_rt, forS_ap, forK_ap, negD_ap, addI_ap, varK_ap, startE, yes2, isN, List.map_cons, List.map_nil, List.length_cons, List.length_nil, List.replicate, List.append_nil, List.cons_append, List.nil_append, List.getElem?_cons_zero, List.getElem?_cons_succ, List.set_cons_zero, List.set_cons_succ, R.bind_ok, R.bind_ex, R.bind_bad, R.noex_ok, if_true, if_false, Bool.false_eq_true, Bool.true_eq_false, ite_true, ite_false, reduceIte, Nat.reduceAdd, Nat.reduceSub, Nat.zero_add, Nat.sub_self, Nat.sub_zero, decide_true, decide_false, Bool.not_true, Bool.not_false, subD_ap, ltD_ap, leD_ap, gtD_ap, geD_ap, mulD_ap, modD_ap, divD_ap, powD_ap, tupK_ok, lstK_ok, methK_ok, tupG_ok, eqS_t, eqS_f, neS_t, neS_f, eqI_ap, neI_ap, inT_nil, inT_hit, inT_miss, ne_eq, not_false_eq_true, f__law_besides, b__law_besides, jx0, jx3, sz (by decide : 1 ≤ 100), sz (by decide : 3 ≤ 100), sz (by decide : 2 ≤ 100)]
    · rw [bs2_ne (w := "notin") (by decide)]; simp -implicitDefEqProofs +decide only [varF_ap, cF_ap, opF_ap, opK_ap, bF_ap, boolK_ap, andT_ap, andK_ap, orT_ap, orK_ap, notT_ap, notK_ap, yesT_ap, andV_ap, andVK_ap, orV_ap, orVK_ap, notV_ap, notVK_ap, ifF_ap, ifFK_ap, nilA_ap, consA_ap, consK_ap, consJ_ap, tupA_ap, lstA_ap, newO_ap, dicF_ap, callF_ap, un1_ap, methF_ap, nonO_ap, someO_ap, someK_ap, slF_ap, slK_ap, slJ_ap, itF_ap, itA_ap, nilS_ap, bkS_ap, ctS_ap, seqS_ap, seqK_nx, seqK_rt, seqK_bk, seqK_ct, dropS_ap, dropK_ap, retS_ap, retK_ap, retN_ap, ifS_ap, ifK_ap, setS_ap, setK_ap, asgS_ap, asgK_ap, asgJ_ap, nameG_ap, nilG_ap, consG_ap, consGK_ap, fnF_ap, fnK_nx, fnK_rt, forS_ap, forK_ap, negD_ap, addI_ap, varK_ap, startE, yes2, isN, List.map_cons, List.map_nil, List.length_cons, List.length_nil, List.replicate, List.append_nil, List.cons_append, List.nil_append, List.getElem?_cons_zero, List.getElem?_cons_succ, List.set_cons_zero, List.set_cons_succ, R.bind_ok, R.bind_ex, R.bind_bad, R.noex_ok, if_true, if_false, Bool.false_eq_true, Bool.true_eq_false, ite_true, ite_false, reduceIte, Nat.reduceAdd, Nat.reduceSub, Nat.zero_add, Nat.sub_self, Nat.sub_zero, decide_true, decide_false, Bool.not_true, Bool.not_false, subD_ap, ltD_ap, leD_ap, gtD_ap, geD_ap, mulD_ap, modD_ap, divD_ap, powD_ap, tupK_ok, lstK_ok, methK_ok, tupG_ok, eqS_t, eqS_f, neS_t, neS_f, eqI_ap, neI_ap, inT_nil, inT_hit, inT_miss, ne_eq, not_false_eq_true, f__law_besides, b__law_besides, jx0, jx3, sz (by decide : 1 ≤ 100), sz (by decide : 3 ≤ 100), sz (by decide : 2 ≤ 100)]
theorem lwid_one {w : Str} {args : List VL.D} {b k : Nat} {W : List Int} {st : Sto} (h : One w args) (hb : st[b]? = some (.lst (W.map .int))) (hk : k < W.length) : f__law_wide [nod w args [k], .ref b] st = .ok (.int (wd w args (W.getD k 0) 0)) st := by
  have hi := ix_w hb hk
  unfold nod
  rcases h with ⟨rfl, C, rfl, h⟩ | ⟨rfl, rfl⟩ | ⟨rfl, es, rfl, h, k⟩ | ⟨rfl, b, rfl, h⟩ | ⟨hw, p, b, rfl, h⟩ | ⟨rfl, k, b, os, rfl, h, h'⟩
  · simp -implicitDefEqProofs +decide only [varF_ap, cF_ap, opF_ap, opK_ap, bF_ap, boolK_ap, andT_ap, andK_ap, orT_ap, orK_ap, notT_ap, notK_ap, yesT_ap, andV_ap, andVK_ap, orV_ap, orVK_ap, notV_ap, notVK_ap, ifF_ap, ifFK_ap, nilA_ap, consA_ap, consK_ap, consJ_ap, tupA_ap, lstA_ap, newO_ap, dicF_ap, callF_ap, un1_ap, methF_ap, nonO_ap, someO_ap, someK_ap, slF_ap, slK_ap, slJ_ap, itF_ap, itA_ap, nilS_ap, bkS_ap, ctS_ap, seqS_ap, seqK_nx, seqK_rt, seqK_bk, seqK_ct, dropS_ap, dropK_ap, retS_ap, retK_ap, retN_ap, ifS_ap, ifK_ap, setS_ap, setK_ap, asgS_ap, asgK_ap, asgJ_ap, nameG_ap, nilG_ap, consG_ap, consGK_ap, fnF_ap, fnK_nx, fnK_rt, forS_ap, forK_ap, negD_ap, addI_ap, varK_ap, startE, yes2, isN, List.map_cons, List.map_nil, List.length_cons, List.length_nil, List.replicate, List.append_nil, List.cons_append, List.nil_append, List.getElem?_cons_zero, List.getElem?_cons_succ, List.set_cons_zero, List.set_cons_succ, R.bind_ok, R.bind_ex, R.bind_bad, R.noex_ok, if_true, if_false, Bool.false_eq_true, Bool.true_eq_false, ite_true, ite_false, reduceIte, Nat.reduceAdd, Nat.reduceSub, Nat.zero_add, Nat.sub_self, Nat.sub_zero, decide_true, decide_false, Bool.not_true, Bool.not_false, subD_ap, ltD_ap, leD_ap, gtD_ap, geD_ap, mulD_ap, modD_ap, divD_ap, powD_ap, tupK_ok, lstK_ok, methK_ok, tupG_ok, eqS_t, eqS_f, neS_t, neS_f, eqI_ap, neI_ap, inT_nil, inT_hit, inT_miss, ne_eq, not_false_eq_true, f__law_wide, b__law_wide, jx0, jx2, hi, sz (by decide : 3 ≤ 100), sz (by decide : 2 ≤ 100)]; rfl
  · simp -implicitDefEqProofs +decide only [varF_ap, cF_ap, opF_ap, opK_ap, bF_ap, boolK_ap, andT_ap, andK_ap, orT_ap, orK_ap, notT_ap, notK_ap, yesT_ap, andV_ap, andVK_ap, orV_ap, orVK_ap, notV_ap, notVK_ap, ifF_ap, ifFK_ap, nilA_ap, consA_ap, consK_ap, consJ_ap, tupA_ap, lstA_ap, newO_ap, dicF_ap, callF_ap, un1_ap, methF_ap, nonO_ap, someO_ap, someK_ap, slF_ap, slK_ap, slJ_ap, itF_ap, itA_ap, nilS_ap, bkS_ap, ctS_ap, seqS_ap, seqK_nx, seqK_rt, seqK_bk, seqK_ct, dropS_ap, dropK_ap, retS_ap, retK_ap, retN_ap, ifS_ap, ifK_ap, setS_ap, setK_ap, asgS_ap, asgK_ap, asgJ_ap, nameG_ap, nilG_ap, consG_ap, consGK_ap, fnF_ap, fnK_nx, fnK_rt, forS_ap, forK_ap, negD_ap, addI_ap, varK_ap, startE, yes2, isN, List.map_cons, List.map_nil, List.length_cons, List.length_nil, List.replicate, List.append_nil, List.cons_append, List.nil_append, List.getElem?_cons_zero, List.getElem?_cons_succ, List.set_cons_zero, List.set_cons_succ, R.bind_ok, R.bind_ex, R.bind_bad, R.noex_ok, if_true, if_false, Bool.false_eq_true, Bool.true_eq_false, ite_true, ite_false, reduceIte, Nat.reduceAdd, Nat.reduceSub, Nat.zero_add, Nat.sub_self, Nat.sub_zero, decide_true, decide_false, Bool.not_true, Bool.not_false, subD_ap, ltD_ap, leD_ap, gtD_ap, geD_ap, mulD_ap, modD_ap, divD_ap, powD_ap, tupK_ok, lstK_ok, methK_ok, tupG_ok, eqS_t, eqS_f, neS_t, neS_f, eqI_ap, neI_ap, inT_nil, inT_hit, inT_miss, ne_eq, not_false_eq_true, f__law_wide, b__law_wide, jx0, jx2, hi, sz (by decide : 3 ≤ 100), sz (by decide : 2 ≤ 100)]; rfl
  · simp -implicitDefEqProofs +decide only [varF_ap, cF_ap, opF_ap, opK_ap, bF_ap, boolK_ap, andT_ap, andK_ap, orT_ap, orK_ap, notT_ap, notK_ap, yesT_ap, andV_ap, andVK_ap, orV_ap, orVK_ap, notV_ap, notVK_ap, ifF_ap, ifFK_ap, nilA_ap, consA_ap, consK_ap, consJ_ap, tupA_ap, lstA_ap, newO_ap, dicF_ap, callF_ap, un1_ap, methF_ap, nonO_ap, someO_ap, someK_ap, slF_ap, slK_ap, slJ_ap, itF_ap, itA_ap, nilS_ap, bkS_ap, ctS_ap, seqS_ap, seqK_nx, seqK_rt, seqK_bk, seqK_ct, dropS_ap, dropK_ap, retS_ap, retK_ap, retN_ap, ifS_ap, ifK_ap, setS_ap, setK_ap, asgS_ap, asgK_ap, asgJ_ap, nameG_ap, nilG_ap, consG_ap, consGK_ap, fnF_ap, fnK_nx, fnK_rt, forS_ap, forK_ap, negD_ap, addI_ap, varK_ap, startE, yes2, isN, List.map_cons, List.map_nil, List.length_cons, List.length_nil, List.replicate, List.append_nil, List.cons_append, List.nil_append, List.getElem?_cons_zero, List.getElem?_cons_succ, List.set_cons_zero, List.set_cons_succ, R.bind_ok, R.bind_ex, R.bind_bad, R.noex_ok, if_true, if_false, Bool.false_eq_true, Bool.true_eq_false, ite_true, ite_false, reduceIte, Nat.reduceAdd, Nat.reduceSub, Nat.zero_add, Nat.sub_self, Nat.sub_zero, decide_true, decide_false, Bool.not_true, Bool.not_false, subD_ap, ltD_ap, leD_ap, gtD_ap, geD_ap, mulD_ap, modD_ap, divD_ap, powD_ap, tupK_ok, lstK_ok, methK_ok, tupG_ok, eqS_t, eqS_f, neS_t, neS_f, eqI_ap, neI_ap, inT_nil, inT_hit, inT_miss, ne_eq, not_false_eq_true, f__law_wide, b__law_wide, jx0, jx1, lenD_tup, sz (by decide : 3 ≤ 100), sz (by decide : 2 ≤ 100)]; rfl
  · simp -implicitDefEqProofs +decide only [varF_ap, cF_ap, opF_ap, opK_ap, bF_ap, boolK_ap, andT_ap, andK_ap, orT_ap, orK_ap, notT_ap, notK_ap, yesT_ap, andV_ap, andVK_ap, orV_ap, orVK_ap, notV_ap, notVK_ap, ifF_ap, ifFK_ap, nilA_ap, consA_ap, consK_ap, consJ_ap, tupA_ap, lstA_ap, newO_ap, dicF_ap, callF_ap, un1_ap, methF_ap, nonO_ap, someO_ap, someK_ap, slF_ap, slK_ap, slJ_ap, itF_ap, itA_ap, nilS_ap, bkS_ap, ctS_ap, seqS_ap, seqK_nx, seqK_rt, seqK_bk, seqK_ct, dropS_ap, dropK_ap, retS_ap, retK_ap, retN_ap, ifS_ap, ifK_ap, setS_ap, setK_ap, asgS_ap, asgK_ap, asgJ_ap, nameG_ap, nilG_ap, consG_ap, consGK_ap, fnF_ap, fnK_nx, fnK_rt, forS_ap, forK_ap, negD_ap, addI_ap, varK_ap, startE, yes2, isN, List.map_cons, List.map_nil, List.length_cons, List.length_nil, List.replicate, List.append_nil, List.cons_append, List.nil_append, List.getElem?_cons_zero, List.getElem?_cons_succ, List.set_cons_zero, List.set_cons_succ, R.bind_ok, R.bind_ex, R.bind_bad, R.noex_ok, if_true, if_false, Bool.false_eq_true, Bool.true_eq_false, ite_true, ite_false, reduceIte, Nat.reduceAdd, Nat.reduceSub, Nat.zero_add, Nat.sub_self, Nat.sub_zero, decide_true, decide_false, Bool.not_true, Bool.not_false, subD_ap, ltD_ap, leD_ap, gtD_ap, geD_ap, mulD_ap, modD_ap, divD_ap, powD_ap, tupK_ok, lstK_ok, methK_ok, tupG_ok, eqS_t, eqS_f, neS_t, neS_f, eqI_ap, neI_ap, inT_nil, inT_hit, inT_miss, ne_eq, not_false_eq_true, f__law_wide, b__law_wide, jx0, jx1, lenD_tup, addI_ap, sz (by decide : 3 ≤ 100), sz (by decide : 2 ≤ 100)]; rw [Int.add_comm]; rfl
  · rcases sums_ne hw with rfl | rfl | rfl <;> (simp -implicitDefEqProofs +decide only [varF_ap, cF_ap, opF_ap, opK_ap, bF_ap, boolK_ap, andT_ap, andK_ap, orT_ap, orK_ap, notT_ap, notK_ap, yesT_ap, andV_ap, andVK_ap, orV_ap, orVK_ap, notV_ap, notVK_ap, ifF_ap, ifFK_ap, nilA_ap, consA_ap, consK_ap, consJ_ap, tupA_ap, lstA_ap, newO_ap, dicF_ap, callF_ap, un1_ap, methF_ap, nonO_ap, someO_ap, someK_ap, slF_ap, slK_ap, slJ_ap, itF_ap, itA_ap, nilS_ap, bkS_ap, ctS_ap, seqS_ap, seqK_nx, seqK_rt, seqK_bk, seqK_ct, dropS_ap, dropK_ap, retS_ap, retK_ap, retN_ap, ifS_ap, ifK_ap, setS_ap, setK_ap, asgS_ap, asgK_ap, asgJ_ap, nameG_ap, nilG_ap, consG_ap, consGK_ap, fnF_ap, fnK_nx, fnK_rt, forS_ap, forK_ap, negD_ap, addI_ap, varK_ap, startE, yes2, isN, List.map_cons, List.map_nil, List.length_cons, List.length_nil, List.replicate, List.append_nil, List.cons_append, List.nil_append, List.getElem?_cons_zero, List.getElem?_cons_succ, List.set_cons_zero, List.set_cons_succ, R.bind_ok, R.bind_ex, R.bind_bad, R.noex_ok, if_true, if_false, Bool.false_eq_true, Bool.true_eq_false, ite_true, ite_false, reduceIte, Nat.reduceAdd, Nat.reduceSub, Nat.zero_add, Nat.sub_self, Nat.sub_zero, decide_true, decide_false, Bool.not_true, Bool.not_false, subD_ap, ltD_ap, leD_ap, gtD_ap, geD_ap, mulD_ap, modD_ap, divD_ap, powD_ap, tupK_ok, lstK_ok, methK_ok, tupG_ok, eqS_t, eqS_f, neS_t, neS_f, eqI_ap, neI_ap, inT_nil, inT_hit, inT_miss, ne_eq, not_false_eq_true, f__law_wide, b__law_wide, jx0, jx1, lenD_tup, addI_ap, sz (by decide : 3 ≤ 100), sz (by decide : 2 ≤ 100)]; rw [Int.add_comm]; rfl)
  · simp -implicitDefEqProofs +decide only [varF_ap, cF_ap, opF_ap, opK_ap, bF_ap, boolK_ap, andT_ap, andK_ap, orT_ap, orK_ap, notT_ap, notK_ap, yesT_ap, andV_ap, andVK_ap, orV_ap, orVK_ap, notV_ap, notVK_ap, ifF_ap, ifFK_ap, nilA_ap, consA_ap, consK_ap, consJ_ap, tupA_ap, lstA_ap, newO_ap, dicF_ap, callF_ap, un1_ap, methF_ap, nonO_ap, someO_ap, someK_ap, slF_ap, slK_ap, slJ_ap, itF_ap, itA_ap, nilS_ap, bkS_ap, ctS_ap, seqS_ap, seqK_nx, seqK_rt, seqK_bk, seqK_ct, dropS_ap, dropK_ap, retS_ap, retK_ap, retN_ap, ifS_ap, ifK_ap, setS_ap, setK_ap, asgS_ap, asgK_ap, asgJ_ap, nameG_ap, nilG_ap, consG_ap, consGK_ap, fnF_ap, fnK_nx, fnK_rt, forS_ap, forK_ap, negD_ap, addI_ap, varK_ap, startE, yes2, isN, List.map_cons, List.map_nil, List.length_cons, List.length_nil, List.replicate, List.append_nil, List.cons_append, List.nil_append, List.getElem?_cons_zero, List.getElem?_cons_succ, List.set_cons_zero, List.set_cons_succ, R.bind_ok, R.bind_ex, R.bind_bad, R.noex_ok, if_true, if_false, Bool.false_eq_true, Bool.true_eq_false, ite_true, ite_false, reduceIte, Nat.reduceAdd, Nat.reduceSub, Nat.zero_add, Nat.sub_self, Nat.sub_zero, decide_true, decide_false, Bool.not_true, Bool.not_false, subD_ap, ltD_ap, leD_ap, gtD_ap, geD_ap, mulD_ap, modD_ap, divD_ap, powD_ap, tupK_ok, lstK_ok, methK_ok, tupG_ok, eqS_t, eqS_f, neS_t, neS_f, eqI_ap, neI_ap, inT_nil, inT_hit, inT_miss, ne_eq, not_false_eq_true, f__law_wide, b__law_wide, jx0, jx2, hi, sz (by decide : 3 ≤ 100), sz (by decide : 2 ≤ 100)]; rfl
theorem lwid_two {w : Str} {args bs : List VL.D} {b k j : Nat} {W : List Int} {st : Sto} (h : Two w args) (hb : st[b]? = some (.lst (W.map .int))) (hk : k < W.length) (hj : j < W.length) : f__law_wide [nod w bs [k, j], .ref b] st = .ok (.int (wd w args (W.getD k 0) (W.getD j 0))) st := by
  have hi := ix_w hb hk
  have hi2 := ix_w hb hj
  unfold nod
  rcases h with ⟨hw, rfl⟩ | ⟨hw, ps, rfl, h⟩
  · rcases four_ne hw with rfl | rfl | rfl | rfl <;> (simp -implicitDefEqProofs +decide only [varF_ap, cF_ap, opF_ap, opK_ap, bF_ap, boolK_ap, andT_ap, andK_ap, orT_ap, orK_ap, notT_ap, notK_ap, yesT_ap, andV_ap, andVK_ap, orV_ap, orVK_ap, notV_ap, notVK_ap, ifF_ap, ifFK_ap, nilA_ap, consA_ap, consK_ap, consJ_ap, tupA_ap, lstA_ap, newO_ap, dicF_ap, callF_ap, un1_ap, methF_ap, nonO_ap, someO_ap, someK_ap, slF_ap, slK_ap, slJ_ap, itF_ap, itA_ap, nilS_ap, bkS_ap, ctS_ap, seqS_ap, seqK_nx, seqK_rt, seqK_bk, seqK_ct, dropS_ap, dropK_ap, retS_ap, retK_ap, retN_ap, ifS_ap, ifK_ap, setS_ap, setK_ap, asgS_ap, asgK_ap, asgJ_ap, nameG_ap, nilG_ap, consG_ap, consGK_ap, fnF_ap, fnK_nx, fnK_rt, forS_ap, forK_ap, negD_ap, addI_ap, varK_ap, startE, yes2, isN, List.map_cons, List.map_nil, List.length_cons, List.length_nil, List.replicate, List.append_nil, List.cons_append, List.nil_append, List.getElem?_cons_zero, List.getElem?_cons_succ, List.set_cons_zero, List.set_cons_succ, R.bind_ok, R.bind_ex, R.bind_bad, R.noex_ok, if_true, if_false, Bool.false_eq_true, Bool.true_eq_false, ite_true, ite_false, reduceIte, Nat.reduceAdd, Nat.reduceSub, Nat.zero_add, Nat.sub_self, Nat.sub_zero, decide_true, decide_false, Bool.not_true, Bool.not_false, subD_ap, ltD_ap, leD_ap, gtD_ap, geD_ap, mulD_ap, modD_ap, divD_ap, powD_ap, tupK_ok, lstK_ok, methK_ok, tupG_ok, eqS_t, eqS_f, neS_t, neS_f, eqI_ap, neI_ap, inT_nil, inT_hit, inT_miss, ne_eq, not_false_eq_true, f__law_wide, b__law_wide, jx0, jx2, hi, sz (by decide : 3 ≤ 100), sz (by decide : 2 ≤ 100)]; rfl)
  · rcases tri_ne hw with rfl | rfl | rfl <;> (simp -implicitDefEqProofs +decide only [varF_ap, cF_ap, opF_ap, opK_ap, bF_ap, boolK_ap, andT_ap, andK_ap, orT_ap, orK_ap, notT_ap, notK_ap, yesT_ap, andV_ap, andVK_ap, orV_ap, orVK_ap, notV_ap, notVK_ap, ifF_ap, ifFK_ap, nilA_ap, consA_ap, consK_ap, consJ_ap, tupA_ap, lstA_ap, newO_ap, dicF_ap, callF_ap, un1_ap, methF_ap, nonO_ap, someO_ap, someK_ap, slF_ap, slK_ap, slJ_ap, itF_ap, itA_ap, nilS_ap, bkS_ap, ctS_ap, seqS_ap, seqK_nx, seqK_rt, seqK_bk, seqK_ct, dropS_ap, dropK_ap, retS_ap, retK_ap, retN_ap, ifS_ap, ifK_ap, setS_ap, setK_ap, asgS_ap, asgK_ap, asgJ_ap, nameG_ap, nilG_ap, consG_ap, consGK_ap, fnF_ap, fnK_nx, fnK_rt, forS_ap, forK_ap, negD_ap, addI_ap, varK_ap, startE, yes2, isN, List.map_cons, List.map_nil, List.length_cons, List.length_nil, List.replicate, List.append_nil, List.cons_append, List.nil_append, List.getElem?_cons_zero, List.getElem?_cons_succ, List.set_cons_zero, List.set_cons_succ, R.bind_ok, R.bind_ex, R.bind_bad, R.noex_ok, if_true, if_false, Bool.false_eq_true, Bool.true_eq_false, ite_true, ite_false, reduceIte, Nat.reduceAdd, Nat.reduceSub, Nat.zero_add, Nat.sub_self, Nat.sub_zero, decide_true, decide_false, Bool.not_true, Bool.not_false, subD_ap, ltD_ap, leD_ap, gtD_ap, geD_ap, mulD_ap, modD_ap, divD_ap, powD_ap, tupK_ok, lstK_ok, methK_ok, tupG_ok, eqS_t, eqS_f, neS_t, neS_f, eqI_ap, neI_ap, inT_nil, inT_hit, inT_miss, ne_eq, not_false_eq_true, f__law_wide, b__law_wide, jx0, jx1, jx2, hi, hi2, addI_ap, sz (by decide : 3 ≤ 100), sz (by decide : 2 ≤ 100)]; rfl)
theorem lwid_tab {n : Str} {w : Int} {b : Nat} {st : Sto} : f__law_wide [.tup [.str "table", .tup [.str n, .int w], .tup []], .ref b] st = .ok (.int w) st := by
  simp -implicitDefEqProofs +decide only [varF_ap, cF_ap, opF_ap, opK_ap, bF_ap, boolK_ap, andT_ap, andK_ap, orT_ap, orK_ap, notT_ap, notK_ap, yesT_ap, andV_ap, andVK_ap, orV_ap, orVK_ap, notV_ap, notVK_ap, ifF_ap, ifFK_ap, nilA_ap, consA_ap, consK_ap, consJ_ap, tupA_ap, lstA_ap, newO_ap, dicF_ap, callF_ap, un1_ap, methF_ap, nonO_ap, someO_ap, someK_ap, slF_ap, slK_ap, slJ_ap, itF_ap, itA_ap, nilS_ap, bkS_ap, ctS_ap, seqS_ap, seqK_nx, seqK_rt, seqK_bk, seqK_ct, dropS_ap, dropK_ap, retS_ap, retK_ap, retN_ap, ifS_ap, ifK_ap, setS_ap, setK_ap, asgS_ap, asgK_ap, asgJ_ap, nameG_ap, nilG_ap, consG_ap, consGK_ap, fnF_ap, fnK_nx, fnK_rt, forS_ap, forK_ap, negD_ap, addI_ap, varK_ap, startE, yes2, isN, List.map_cons, List.map_nil, List.length_cons, List.length_nil, List.replicate, List.append_nil, List.cons_append, List.nil_append, List.getElem?_cons_zero, List.getElem?_cons_succ, List.set_cons_zero, List.set_cons_succ, R.bind_ok, R.bind_ex, R.bind_bad, R.noex_ok, if_true, if_false, Bool.false_eq_true, Bool.true_eq_false, ite_true, ite_false, reduceIte, Nat.reduceAdd, Nat.reduceSub, Nat.zero_add, Nat.sub_self, Nat.sub_zero, decide_true, decide_false, Bool.not_true, Bool.not_false, subD_ap, ltD_ap, leD_ap, gtD_ap, geD_ap, mulD_ap, modD_ap, divD_ap, powD_ap, tupK_ok, lstK_ok, methK_ok, tupG_ok, eqS_t, eqS_f, neS_t, neS_f, eqI_ap, neI_ap, inT_nil, inT_hit, inT_miss, ne_eq, not_false_eq_true, f__law_wide, b__law_wide, jx0, jx1]
theorem lput_ok {a b c : Nat} {S : Sn} {st : Sto} {nd : VL.D} {w : Int} (h : At a b c S st) (hab : a ≠ b) (ok : OkS S) (hk : Nd nd) (hz : S.L.length < sizeLine) (hw : ∀ s : Sto, s[b]? = some (.lst (S.W.map .int)) → f__law_wide [nd, .ref b] s = .ok (.int w) s) :
    ∃ st', f__law_put [.tup [.ref c, .ref a, .ref b], nd] st = .ok (.int ((S.put nd w).1 : Nat)) st' ∧ At a b c (S.put nd w).2 st' ∧ Kp [a, b, c] st st' := by
  rcases S.put_cases nd w with ⟨j, p, h1, h2, h3, _⟩ | ⟨h1, h2⟩
  · rw [h2]
    have k1 := kin_old h.d ok hk.kOk h1
    have k2 := kix_at h.d ok.keys hk.kOk h1
    exact ⟨st, by simp -implicitDefEqProofs +decide only [varF_ap, cF_ap, opF_ap, opK_ap, bF_ap, boolK_ap, andT_ap, andK_ap, orT_ap, orK_ap, notT_ap, notK_ap, yesT_ap, andV_ap, andVK_ap, orV_ap, orVK_ap, notV_ap, notVK_ap, ifF_ap, ifFK_ap, nilA_ap, consA_ap, consK_ap, consJ_ap, tupA_ap, lstA_ap, newO_ap, dicF_ap, callF_ap, un1_ap, methF_ap, nonO_ap, someO_ap, someK_ap, slF_ap, slK_ap, slJ_ap, itF_ap, itA_ap, nilS_ap, bkS_ap, ctS_ap, seqS_ap, seqK_nx, seqK_rt, seqK_bk, seqK_ct, dropS_ap, dropK_ap, retS_ap, retK_ap, retN_ap, ifS_ap, ifK_ap, setS_ap, setK_ap, asgS_ap, asgK_ap, asgJ_ap, nameG_ap, nilG_ap, consG_ap, consGK_ap, fnF_ap, fnK_nx, fnK_rt, forS_ap, forK_ap, negD_ap, addI_ap, varK_ap, startE, yes2, isN, List.map_cons, List.map_nil, List.length_cons, List.length_nil, List.replicate, List.append_nil, List.cons_append, List.nil_append, List.getElem?_cons_zero, List.getElem?_cons_succ, List.set_cons_zero, List.set_cons_succ, R.bind_ok, R.bind_ex, R.bind_bad, R.noex_ok, if_true, if_false, Bool.false_eq_true, Bool.true_eq_false, ite_true, ite_false, reduceIte, Nat.reduceAdd, Nat.reduceSub, Nat.zero_add, Nat.sub_self, Nat.sub_zero, decide_true, decide_false, Bool.not_true, Bool.not_false, subD_ap, ltD_ap, leD_ap, gtD_ap, geD_ap, mulD_ap, modD_ap, divD_ap, powD_ap, tupK_ok, lstK_ok, methK_ok, tupG_ok, eqS_t, eqS_f, neS_t, neS_f, eqI_ap, neI_ap, inT_nil, inT_hit, inT_miss, ne_eq, not_false_eq_true, f__law_put, b__law_put, jx0, k1, k2], h, Kp.refl _⟩
  · rw [h2]
    obtain ⟨A, K⟩ := laid_at (w := w) h hab h1
    obtain ⟨s1, s2, hs1, hs2, hs3, e1, e2, a1, a2, K1, K2⟩ := put_writes (nd := nd) (w := w) h hab hz ok
    have k1 := kin_new h.d ok hk.kOk h1
    have ok2 : OkS ⟨S.L ++ [nd], S.W ++ [w]⟩ := by have := ok.put (w := w) hk; rw [h2] at this; exact this
    have kx : kget (Sn.kvs ⟨S.L ++ [nd], S.W ++ [w]⟩) nd = some (.int (S.L.length : Nat)) := by
      have := kget_snoc (nd := nd) (xs := S.L) (i := 0) h1
      rw [Nat.zero_add] at this; exact this
    have k2 := kix_at A.d ok2.keys hk.kOk kx
    have ln : lenD [.ref a] st = .ok (.int (S.L.length : Nat)) st := lenD_list (listAt_lst h.l)
    have pp : kputS (callF lenD (consA (opF ixD (varF 0) (cF (.int 1))) nilA)) (opF ixD (varF 0) (cF (.int 0))) (varF 1) [some (.tup [.ref c, .ref a, .ref b]), some nd] st = .ok (.nx [some (.tup [.ref c, .ref a, .ref b]), some nd]) s1 := by
      rw [hs1]
      exact kputS_ap (s1 := st) (s2 := st) (s3 := st) (by simp -implicitDefEqProofs +decide only [varF_ap, cF_ap, opF_ap, opK_ap, bF_ap, boolK_ap, andT_ap, andK_ap, orT_ap, orK_ap, notT_ap, notK_ap, yesT_ap, andV_ap, andVK_ap, orV_ap, orVK_ap, notV_ap, notVK_ap, ifF_ap, ifFK_ap, nilA_ap, consA_ap, consK_ap, consJ_ap, tupA_ap, lstA_ap, newO_ap, dicF_ap, callF_ap, un1_ap, methF_ap, nonO_ap, someO_ap, someK_ap, slF_ap, slK_ap, slJ_ap, itF_ap, itA_ap, nilS_ap, bkS_ap, ctS_ap, seqS_ap, seqK_nx, seqK_rt, seqK_bk, seqK_ct, dropS_ap, dropK_ap, retS_ap, retK_ap, retN_ap, ifS_ap, ifK_ap, setS_ap, setK_ap, asgS_ap, asgK_ap, asgJ_ap, nameG_ap, nilG_ap, consG_ap, consGK_ap, fnF_ap, fnK_nx, fnK_rt, forS_ap, forK_ap, negD_ap, addI_ap, varK_ap, startE, yes2, isN, List.map_cons, List.map_nil, List.length_cons, List.length_nil, List.replicate, List.append_nil, List.cons_append, List.nil_append, List.getElem?_cons_zero, List.getElem?_cons_succ, List.set_cons_zero, List.set_cons_succ, R.bind_ok, R.bind_ex, R.bind_bad, R.noex_ok, if_true, if_false, Bool.false_eq_true, Bool.true_eq_false, ite_true, ite_false, reduceIte, Nat.reduceAdd, Nat.reduceSub, Nat.zero_add, Nat.sub_self, Nat.sub_zero, decide_true, decide_false, Bool.not_true, Bool.not_false, subD_ap, ltD_ap, leD_ap, gtD_ap, geD_ap, mulD_ap, modD_ap, divD_ap, powD_ap, tupK_ok, lstK_ok, methK_ok, tupG_ok, eqS_t, eqS_f, neS_t, neS_f, eqI_ap, neI_ap, inT_nil, inT_hit, inT_miss, ne_eq, not_false_eq_true, jx1, ln]) (by simp -implicitDefEqProofs +decide only [varF_ap, cF_ap, opF_ap, opK_ap, bF_ap, boolK_ap, andT_ap, andK_ap, orT_ap, orK_ap, notT_ap, notK_ap, yesT_ap, andV_ap, andVK_ap, orV_ap, orVK_ap, notV_ap, notVK_ap, ifF_ap, ifFK_ap, nilA_ap, consA_ap, consK_ap, consJ_ap, tupA_ap, lstA_ap, newO_ap, dicF_ap, callF_ap, un1_ap, methF_ap, nonO_ap, someO_ap, someK_ap, slF_ap, slK_ap, slJ_ap, itF_ap, itA_ap, nilS_ap, bkS_ap, ctS_ap, seqS_ap, seqK_nx, seqK_rt, seqK_bk, seqK_ct, dropS_ap, dropK_ap, retS_ap, retK_ap, retN_ap, ifS_ap, ifK_ap, setS_ap, setK_ap, asgS_ap, asgK_ap, asgJ_ap, nameG_ap, nilG_ap, consG_ap, consGK_ap, fnF_ap, fnK_nx, fnK_rt, forS_ap, forK_ap, negD_ap, addI_ap, varK_ap, startE, yes2, isN, List.map_cons, List.map_nil, List.length_cons, List.length_nil, List.replicate, List.append_nil, List.cons_append, List.nil_append, List.getElem?_cons_zero, List.getElem?_cons_succ, List.set_cons_zero, List.set_cons_succ, R.bind_ok, R.bind_ex, R.bind_bad, R.noex_ok, if_true, if_false, Bool.false_eq_true, Bool.true_eq_false, ite_true, ite_false, reduceIte, Nat.reduceAdd, Nat.reduceSub, Nat.zero_add, Nat.sub_self, Nat.sub_zero, decide_true, decide_false, Bool.not_true, Bool.not_false, subD_ap, ltD_ap, leD_ap, gtD_ap, geD_ap, mulD_ap, modD_ap, divD_ap, powD_ap, tupK_ok, lstK_ok, methK_ok, tupG_ok, eqS_t, eqS_f, neS_t, neS_f, eqI_ap, neI_ap, inT_nil, inT_hit, inT_miss, ne_eq, not_false_eq_true, jx0]) (by simp -implicitDefEqProofs +decide only [varF_ap, cF_ap, opF_ap, opK_ap, bF_ap, boolK_ap, andT_ap, andK_ap, orT_ap, orK_ap, notT_ap, notK_ap, yesT_ap, andV_ap, andVK_ap, orV_ap, orVK_ap, notV_ap, notVK_ap, ifF_ap, ifFK_ap, nilA_ap, consA_ap, consK_ap, consJ_ap, tupA_ap, lstA_ap, newO_ap, dicF_ap, callF_ap, un1_ap, methF_ap, nonO_ap, someO_ap, someK_ap, slF_ap, slK_ap, slJ_ap, itF_ap, itA_ap, nilS_ap, bkS_ap, ctS_ap, seqS_ap, seqK_nx, seqK_rt, seqK_bk, seqK_ct, dropS_ap, dropK_ap, retS_ap, retK_ap, retN_ap, ifS_ap, ifK_ap, setS_ap, setK_ap, asgS_ap, asgK_ap, asgJ_ap, nameG_ap, nilG_ap, consG_ap, consGK_ap, fnF_ap, fnK_nx, fnK_rt, forS_ap, forK_ap, negD_ap, addI_ap, varK_ap, startE, yes2, isN, List.map_cons, List.map_nil, List.length_cons, List.length_nil, List.replicate, List.append_nil, List.cons_append, List.nil_append, List.getElem?_cons_zero, List.getElem?_cons_succ, List.set_cons_zero, List.set_cons_succ, R.bind_ok, R.bind_ex, R.bind_bad, R.noex_ok, if_true, if_false, Bool.false_eq_true, Bool.true_eq_false, ite_true, ite_false, reduceIte, Nat.reduceAdd, Nat.reduceSub, Nat.zero_add, Nat.sub_self, Nat.sub_zero, decide_true, decide_false, Bool.not_true, Bool.not_false, subD_ap, ltD_ap, leD_ap, gtD_ap, geD_ap, mulD_ap, modD_ap, divD_ap, powD_ap, tupK_ok, lstK_ok, methK_ok, tupG_ok, eqS_t, eqS_f, neS_t, neS_f, eqI_ap, neI_ap, inT_nil, inT_hit, inT_miss, ne_eq, not_false_eq_true]) h.d ok.keys hk.kOk (by rw [Sn.kvs, kvsF_len]; exact hz)
    have t1 : tyD "list" (VL.D.ref a) s1 := tyD_list (listAt_lst e1)
    have t2 : tyD "list" (VL.D.ref b) s2 := tyD_list (listAt_lst e2)
    have w2 := hw s2 e2
    exact ⟨_, by simp -implicitDefEqProofs +decide only [varF_ap, cF_ap, opF_ap, opK_ap, bF_ap, boolK_ap, andT_ap, andK_ap, orT_ap, orK_ap, notT_ap, notK_ap, yesT_ap, andV_ap, andVK_ap, orV_ap, orVK_ap, notV_ap, notVK_ap, ifF_ap, ifFK_ap, nilA_ap, consA_ap, consK_ap, consJ_ap, tupA_ap, lstA_ap, newO_ap, dicF_ap, callF_ap, un1_ap, methF_ap, nonO_ap, someO_ap, someK_ap, slF_ap, slK_ap, slJ_ap, itF_ap, itA_ap, nilS_ap, bkS_ap, ctS_ap, seqS_ap, seqK_nx, seqK_rt, seqK_bk, seqK_ct, dropS_ap, dropK_ap, retS_ap, retK_ap, retN_ap, ifS_ap, ifK_ap, setS_ap, setK_ap, asgS_ap, asgK_ap, asgJ_ap, nameG_ap, nilG_ap, consG_ap, consGK_ap, fnF_ap, fnK_nx, fnK_rt, forS_ap, forK_ap, negD_ap, addI_ap, varK_ap, startE, yes2, isN, List.map_cons, List.map_nil, List.length_cons, List.length_nil, List.replicate, List.append_nil, List.cons_append, List.nil_append, List.getElem?_cons_zero, List.getElem?_cons_succ, List.set_cons_zero, List.set_cons_succ, R.bind_ok, R.bind_ex, R.bind_bad, R.noex_ok, if_true, if_false, Bool.false_eq_true, Bool.true_eq_false, ite_true, ite_false, reduceIte, Nat.reduceAdd, Nat.reduceSub, Nat.zero_add, Nat.sub_self, Nat.sub_zero, decide_true, decide_false, Bool.not_true, Bool.not_false, subD_ap, ltD_ap, leD_ap, gtD_ap, geD_ap, mulD_ap, modD_ap, divD_ap, powD_ap, tupK_ok, lstK_ok, methK_ok, tupG_ok, eqS_t, eqS_f, neS_t, neS_f, eqI_ap, neI_ap, inT_nil, inT_hit, inT_miss, ne_eq, not_false_eq_true, f__law_put, b__law_put, jx0, jx1, jx2, k1, pp, t1, a1, t2, w2, a2, k2], A, K⟩
section
variable {a b c : Nat} {S : Sn} {st : Sto}
theorem lput1 {w : Str} {args : List VL.D} {k : Nat} (h : At a b c S st) (hab : a ≠ b) (ok : OkS S) (hw : One w args) (hk : k < S.L.length) (hz : S.L.length < sizeLine) :
    ∃ st', f__law_put [.tup [.ref c, .ref a, .ref b], .tup [.str w, .tup args, .tup [.int (k : Nat)]]] st = .ok (.int ((lay1 S w args k).1 : Nat)) st' ∧ At a b c (lay1 S w args k).2 st' ∧ Kp [a, b, c] st st' :=
  lput_ok (nd := nod w args [k]) (w := wd w args (S.W.getD k 0) 0) h hab ok (nod_ok (by have := hw.len; omega) hw.pl (by simp)) hz fun s hs => lwid_one hw hs (by rw [ok.len]; exact hk)
theorem lput2 {w : Str} {args : List VL.D} {k j : Nat} (h : At a b c S st) (hab : a ≠ b) (ok : OkS S) (hw : Two w args) (hk : k < S.L.length) (hj : j < S.L.length) (hz : S.L.length < sizeLine) :
    ∃ st', f__law_put [.tup [.ref c, .ref a, .ref b], .tup [.str w, .tup (bs2 w args (S.W.getD j 0)), .tup [.int (k : Nat), .int (j : Nat)]]] st = .ok (.int ((lay2 S w args k j).1 : Nat)) st' ∧ At a b c (lay2 S w args k j).2 st' ∧ Kp [a, b, c] st st' :=
  lput_ok (nd := nod w (bs2 w args (S.W.getD j 0)) [k, j]) (w := wd w args (S.W.getD k 0) (S.W.getD j 0)) h hab ok (nod_ok (bs2_pl hw).1 (bs2_pl hw).2 (by simp)) hz fun s hs => lwid_two hw hs (by rw [ok.len]; exact hk) (by rw [ok.len]; exact hj)
theorem at_lt (h : At a b c S st) : a < st.length ∧ b < st.length ∧ c < st.length := ⟨(List.getElem?_eq_some_iff.mp h.l).1, (List.getElem?_eq_some_iff.mp h.w).1, (List.getElem?_eq_some_iff.mp h.d).1⟩
theorem dc_ne' {r : Nat} {W : List (VL.D × VL.D)} (h : At a b c S st) (hd : Dc r W st) (hc : r ≠ c) : r ∉ [a, b, c] := by
  intro z
  simp only [List.mem_cons, List.not_mem_nil, or_false] at z
  rcases z with rfl | rfl | rfl
  · have := hd.at_; rw [h.l] at this; cases this
  · have := hd.at_; rw [h.w] at this; cases this
  · exact hc rfl
theorem At.kp0 {st' : Sto} (h : At a b c S st) (k : Kp [] st st') : At a b c S st' := h.kp k (by simp) (by simp) (by simp)
end
theorem laid_ok {W : List (VL.D × VL.D)} {S S' : Sn} {v : VL.D} {k d : Nat} (h : Lay W S v k S' d) : ∀ {a b c r F : Nat} {st : Sto}, At a b c S st → a ≠ b → OkS S → S'.L.length < sizeLine → Dc r W st → W.length + d ≤ 1000 → r ≠ c → d + 1 ≤ F →
    ∃ st', f__law_laid F [.tup [.ref c, .ref a, .ref b], v, .ref r] st = .ok (.int (k : Nat)) st' ∧ At a b c S' st' ∧ Kp [a, b, c] st st' := by
  induction h with
  | @name W S nm k d h hk =>
    intro a b c r F st nt hab ok hz dc hl hrc hF
    obtain ⟨F, rfl⟩ : ∃ G, F = G + 1 := ⟨F - 1, by omega⟩
    have dx := dix_at dc h
    exact ⟨st, by simp -implicitDefEqProofs +decide only [varF_ap, cF_ap, opF_ap, opK_ap, bF_ap, boolK_ap, andT_ap, andK_ap, orT_ap, orK_ap, notT_ap, notK_ap, yesT_ap, andV_ap, andVK_ap, orV_ap, orVK_ap, notV_ap, notVK_ap, ifF_ap, ifFK_ap, nilA_ap, consA_ap, consK_ap, consJ_ap, tupA_ap, lstA_ap, newO_ap, dicF_ap, callF_ap, un1_ap, methF_ap, nonO_ap, someO_ap, someK_ap, slF_ap, slK_ap, slJ_ap, itF_ap, itA_ap, nilS_ap, bkS_ap, ctS_ap, seqS_ap, seqK_nx, seqK_rt, seqK_bk, seqK_ct, dropS_ap, dropK_ap, retS_ap, retK_ap, retN_ap, ifS_ap, ifK_ap, setS_ap, setK_ap, asgS_ap, asgK_ap, asgJ_ap, nameG_ap, nilG_ap, consG_ap, consGK_ap, fnF_ap, fnK_nx, fnK_rt, forS_ap, forK_ap, negD_ap, addI_ap, varK_ap, startE, yes2, isN, List.map_cons, List.map_nil, List.length_cons, List.length_nil, List.replicate, List.append_nil, List.cons_append, List.nil_append, List.getElem?_cons_zero, List.getElem?_cons_succ, List.set_cons_zero, List.set_cons_succ, R.bind_ok, R.bind_ex, R.bind_bad, R.noex_ok, if_true, if_false, Bool.false_eq_true, Bool.true_eq_false, ite_true, ite_false, reduceIte, Nat.reduceAdd, Nat.reduceSub, Nat.zero_add, Nat.sub_self, Nat.sub_zero, decide_true, decide_false, Bool.not_true, Bool.not_false, subD_ap, ltD_ap, leD_ap, gtD_ap, geD_ap, mulD_ap, modD_ap, divD_ap, powD_ap, tupK_ok, lstK_ok, methK_ok, tupG_ok, eqS_t, eqS_f, neS_t, neS_f, eqI_ap, neI_ap, inT_nil, inT_hit, inT_miss, ne_eq, not_false_eq_true, f__law_laid, b__law_laid, jx0, jx1, dx], nt, Kp.refl _⟩
  | @one W S S1 w x args k d ho hL ih =>
    intro a b c r F st nt hab ok hz dc hl hrc hF
    obtain ⟨F, rfl⟩ : ∃ G, F = G + 1 := ⟨F - 1, by omega⟩
    obtain ⟨l1, l2, l3⟩ := hL.facts
    have l4 := (lay1_le S1 w args k).1.len
    obtain ⟨s1, e1, nt1, kp1⟩ := ih (F := F) nt hab ok (by omega) dc (by omega) hrc (by omega)
    obtain ⟨s2, e2, nt2, kp2⟩ := lput1 nt1 hab (l3 ok) ho l2 (by omega)
    obtain ⟨w1, w2, _, w4⟩ := ho.word
    have i7 : ∀ s, inSq true (.str w) (.tup [.str "join", .str "left", .str "notin", .str "pour", .str "both", .str "either", .str "less"]) s = .ok (.bl true) s := fun s => no7 w4
    exact ⟨s2, by simp -implicitDefEqProofs +decide only [varF_ap, cF_ap, opF_ap, opK_ap, bF_ap, boolK_ap, andT_ap, andK_ap, orT_ap, orK_ap, notT_ap, notK_ap, yesT_ap, andV_ap, andVK_ap, orV_ap, orVK_ap, notV_ap, notVK_ap, ifF_ap, ifFK_ap, nilA_ap, consA_ap, consK_ap, consJ_ap, tupA_ap, lstA_ap, newO_ap, dicF_ap, callF_ap, un1_ap, methF_ap, nonO_ap, someO_ap, someK_ap, slF_ap, slK_ap, slJ_ap, itF_ap, itA_ap, nilS_ap, bkS_ap, ctS_ap, seqS_ap, seqK_nx, seqK_rt, seqK_bk, seqK_ct, dropS_ap, dropK_ap, retS_ap, retK_ap, retN_ap, ifS_ap, ifK_ap, setS_ap, setK_ap, asgS_ap, asgK_ap, asgJ_ap, nameG_ap, nilG_ap, consG_ap, consGK_ap, fnF_ap, fnK_nx, fnK_rt, forS_ap, forK_ap, negD_ap, addI_ap, varK_ap, startE, yes2, isN, List.map_cons, List.map_nil, List.length_cons, List.length_nil, List.replicate, List.append_nil, List.cons_append, List.nil_append, List.getElem?_cons_zero, List.getElem?_cons_succ, List.set_cons_zero, List.set_cons_succ, R.bind_ok, R.bind_ex, R.bind_bad, R.noex_ok, if_true, if_false, Bool.false_eq_true, Bool.true_eq_false, ite_true, ite_false, reduceIte, Nat.reduceAdd, Nat.reduceSub, Nat.zero_add, Nat.sub_self, Nat.sub_zero, decide_true, decide_false, Bool.not_true, Bool.not_false, subD_ap, ltD_ap, leD_ap, gtD_ap, geD_ap, mulD_ap, modD_ap, divD_ap, powD_ap, tupK_ok, lstK_ok, methK_ok, tupG_ok, eqS_t, eqS_f, neS_t, neS_f, eqI_ap, neI_ap, inT_nil, inT_hit, inT_miss, ne_eq, not_false_eq_true, f__law_laid, b__law_laid, jx0, jx1, w1, w2, e1, i7, lbes_one ho, e2, sz (by decide : 1 ≤ 100), sz (by decide : 3 ≤ 100), sz (by decide : 7 ≤ 100)], nt2, kp1.trans kp2⟩
  | @two W S S1 S2 w x y args k j d ho hL1 hL2 i1 i2 =>
    intro a b c r F st nt hab ok hz dc hl hrc hF
    obtain ⟨F, rfl⟩ : ∃ G, F = G + 1 := ⟨F - 1, by omega⟩
    obtain ⟨l1, l2, l3⟩ := hL1.facts
    obtain ⟨p1, p2, p3⟩ := hL2.facts
    have l4 := (lay2_le S2 w args k j).1.len
    have l5 := p1.len
    have nr := dc_ne' nt dc hrc
    obtain ⟨s1, e1, nt1, kp1⟩ := i1 (F := F) nt hab ok (by omega) dc (by omega) hrc (by omega)
    obtain ⟨s2, e2, nt2, kp2⟩ := i2 (F := F) nt1 hab (l3 ok) (by omega) (dc.kp kp1 nr) (by omega) hrc (by omega)
    obtain ⟨s3, e3, nt3, kp3⟩ := lput2 (k := k) (j := j) nt2 hab (p3 (l3 ok)) ho (by omega) p2 (by omega)
    obtain ⟨w1, w2, w3⟩ := ho.word
    have i7 : ∀ s, inSq true (.str w) (.tup [.str "join", .str "left", .str "notin", .str "pour", .str "both", .str "either", .str "less"]) s = .ok (.bl false) s := fun s => in7 w3
    have iw := ix_w nt2.w (k := j) (by rw [(p3 (l3 ok)).len]; exact p2)
    exact ⟨s3, by simp -implicitDefEqProofs +decide only [varF_ap, cF_ap, opF_ap, opK_ap, bF_ap, boolK_ap, andT_ap, andK_ap, orT_ap, orK_ap, notT_ap, notK_ap, yesT_ap, andV_ap, andVK_ap, orV_ap, orVK_ap, notV_ap, notVK_ap, ifF_ap, ifFK_ap, nilA_ap, consA_ap, consK_ap, consJ_ap, tupA_ap, lstA_ap, newO_ap, dicF_ap, callF_ap, un1_ap, methF_ap, nonO_ap, someO_ap, someK_ap, slF_ap, slK_ap, slJ_ap, itF_ap, itA_ap, nilS_ap, bkS_ap, ctS_ap, seqS_ap, seqK_nx, seqK_rt, seqK_bk, seqK_ct, dropS_ap, dropK_ap, retS_ap, retK_ap, retN_ap, ifS_ap, ifK_ap, setS_ap, setK_ap, asgS_ap, asgK_ap, asgJ_ap, nameG_ap, nilG_ap, consG_ap, consGK_ap, fnF_ap, fnK_nx, fnK_rt, forS_ap, forK_ap, negD_ap, addI_ap, varK_ap, startE, yes2, isN, List.map_cons, List.map_nil, List.length_cons, List.length_nil, List.replicate, List.append_nil, List.cons_append, List.nil_append, List.getElem?_cons_zero, List.getElem?_cons_succ, List.set_cons_zero, List.set_cons_succ, R.bind_ok, R.bind_ex, R.bind_bad, R.noex_ok, if_true, if_false, Bool.false_eq_true, Bool.true_eq_false, ite_true, ite_false, reduceIte, Nat.reduceAdd, Nat.reduceSub, Nat.zero_add, Nat.sub_self, Nat.sub_zero, decide_true, decide_false, Bool.not_true, Bool.not_false, subD_ap, ltD_ap, leD_ap, gtD_ap, geD_ap, mulD_ap, modD_ap, divD_ap, powD_ap, tupK_ok, lstK_ok, methK_ok, tupG_ok, eqS_t, eqS_f, neS_t, neS_f, eqI_ap, neI_ap, inT_nil, inT_hit, inT_miss, ne_eq, not_false_eq_true, f__law_laid, b__law_laid, jx0, jx1, jx2, w1, w2, e1, i7, e2, iw, lbes_two ho, e3, sz (by decide : 2 ≤ 100), sz (by decide : 3 ≤ 100), sz (by decide : 7 ≤ 100)], nt3, (kp1.trans kp2).trans kp3⟩
  | @rounds W S S1 nm x y k d K f g T U hL h0 hs hr hK i1 i2 =>
    intro a b c r F st nt hab ok hz dc hl hrc hF
    obtain ⟨F, rfl⟩ : ∃ G, F = G + 1 := ⟨F - 1, by omega⟩
    obtain ⟨l1, l2, l3⟩ := hL.facts
    have nr := dc_ne' nt dc hrc
    have e10 : f 0 = (lay1 S1 "once" [] k).1 := congrArg Prod.fst h0
    have e20 : T 0 = (lay1 S1 "once" [] k).2 := congrArg Prod.snd h0
    have es1 : ∀ t, t < K → f (t + 1) = (rnd (U t) (f t) (g t)).1 := fun t ht => congrArg Prod.fst (hr t ht)
    have es2 : ∀ t, t < K → T (t + 1) = (rnd (U t) (f t) (g t)).2 := fun t ht => congrArg Prod.snd (hr t ht)
    have okT : ∀ t, t ≤ K → OkS (T t) ∧ f t < (T t).L.length := by
      intro t
      induction t with
      | zero => intro _; rw [e10, e20]; exact ⟨lay1_ok (l3 ok) one_once, (lay1_le _ _ _ _).2.1⟩
      | succ t ih =>
        intro ht
        rw [es1 t (by omega), es2 t (by omega)]
        exact ⟨rnd_ok ((hs t (by omega)).facts.2.2 (ih (by omega)).1), (rnd_le _ _ _).2.1⟩
    have leT : ∀ j t, t + j = K → (T t).L.length ≤ (T K).L.length := by
      intro j
      induction j with
      | zero => intro t ht; rw [show t = K by omega]; exact Nat.le_refl _
      | succ j ih =>
        intro t ht
        have h1 := ih (t + 1) (by omega)
        have h2 := (hs t (by omega)).facts.1.len
        have h3 := (rnd_le (U t) (f t) (g t)).1.len
        rw [es2 t (by omega)] at h1
        omega
    have leT0 := leT K 0 (by omega)
    have l4 := (lay1_le S1 "once" [] k).1.len
    rw [← e20] at l4
    obtain ⟨s1, e1, nt1, kp1⟩ := i1 (F := F) nt hab ok (by omega) dc (by omega) hrc (by omega)
    obtain ⟨s2, e2, nt2, kp2⟩ := lput1 nt1 hab (l3 ok) one_once l2 (by omega)
    rw [← e20] at nt2
    rw [← e10] at e2
    have rg : rng1D [.int (K : Nat)] s2 = .ok (intsD 0 1 K, []) s2 := rng1_ok (by omega)
    obtain ⟨v, hv⟩ : ∃ v, v = VL.D.tup [.str "rounds", .str nm, .int (K : Nat), x, y] := ⟨_, rfl⟩
    obtain ⟨q, hq⟩ : ∃ q, q = VL.D.tup [.ref c, .ref a, .ref b] := ⟨_, rfl⟩
    rw [← hq] at e1 e2
    have v0 : ∀ s, ixD v (.int 0) s = .ok (.str "rounds") s := fun s => hv ▸ jx0
    have v1 : ∀ s, ixD v (.int 1) s = .ok (.str nm) s := fun s => hv ▸ jx1
    have v2 : ∀ s, ixD v (.int 2) s = .ok (.int (K : Nat)) s := fun s => hv ▸ jx2
    have v3 : ∀ s, ixD v (.int 3) s = .ok x s := fun s => hv ▸ jx3
    have v4 : ∀ s, ixD v (.int 4) s = .ok y s := fun s => hv ▸ jx4
    obtain ⟨e', s9, fl, z4, z5, z6, he, nt9, kp9⟩ := forL_inv (c := []) (gf := nameG 5) (b := l0__law_laid (f__law_laid F)) (ds := intsD 0 1 K) (env := [some q, some v, some (.ref r), some (.str "rounds"), some (.int (f 0 : Nat)), none, none, none, none]) (st := s2)
      (fun i env s => ∃ z4 z5 z6, env = [some q, some v, some (.ref r), some (.str "rounds"), some (.int (f i : Nat)), z4, z5, z6, none] ∧ At a b c (T i) s ∧ Kp [a, b, c] st s)
      ⟨none, none, none, rfl, nt2, kp1.trans kp2⟩ (fun _ _ _ _ => ChkOk.nil) fun i p env s hi ⟨z4, z5, z6, he, nts, kps⟩ => by
        subst he
        obtain ⟨hiK, rfl⟩ := intsD_get hi
        obtain ⟨okI, fI⟩ := okT i (by omega)
        obtain ⟨u1, u2, u3⟩ := (hs i hiK).facts
        have dcs := dc.kp kps nr
        have dd := dict_at dcs
        obtain ⟨q1, q2, q3⟩ := at_lt nts
        obtain ⟨W', hW'⟩ : ∃ W', W' = dput W (.str nm) (.int (f i : Nat)) := ⟨_, rfl⟩
        obtain ⟨sa, hsa⟩ : ∃ sa, sa = s ++ [VL.O.dic W] := ⟨_, rfl⟩
        rw [← hsa] at dd
        obtain ⟨sb, hsb⟩ : ∃ sb, sb = sa.set s.length (.dic W') := ⟨_, rfl⟩
        have ga : sa[s.length]? = some (.dic W) := hsa ▸ get_last
        have sbe : sb = s ++ [.dic W'] := by rw [hsb, hsa, set_last]
        have kab : Kp [] s sb := Kp.le (sbe ▸ Le.app _ _)
        have dcb : Dc s.length W' sb := ⟨by rw [sbe]; exact get_last, hW' ▸ keysOk_put dc.ok⟩
        have rc : s.length ≠ c := by omega
        have lw : W'.length ≤ W.length + 1 := hW' ▸ dput_len
        have lT := leT (K - (i + 1)) (i + 1) (by omega)
        have lr := (rnd_le (U i) (f i) (g i)).1.len
        rw [es2 i hiK] at lT
        have hs2 := @i2 i hiK
        rw [← hW'] at hs2
        obtain ⟨sc, e3, nt3, kp3⟩ := @hs2 a b c s.length F sb (nts.kp0 kab) hab okI (by omega) dcb (by omega) rc (by omega)
        obtain ⟨sd, e4, nt4, kp4⟩ := lput2 (k := f i) (j := g i) nt3 hab (u3 okI) two_pour (by have := u1.len; omega) u2 (by omega)
        have lp := (lay1_le (lay2 (U i) "pour" [] (f i) (g i)).2 "once" [] (lay2 (U i) "pour" [] (f i) (g i)).1).1.len
        have lp2 : (lay2 (U i) "pour" [] (f i) (g i)).2.L.length < sizeLine := by unfold rnd at lT; omega
        obtain ⟨se, e5, nt5, kp5⟩ := lput1 nt4 hab (lay2_ok (u3 okI) two_pour) one_once (lay2_le _ _ _ _ _).2.1 lp2
        have bp : bs2 "pour" [] ((U i).W.getD (g i) 0) = [] := bs2_ne (by decide)
        rw [bp] at e4
        rw [← hq] at e3 e4 e5
        have dp : dputS (varF 4) (varF 6) (opF ixD (varF 1) (cF (.int 1))) [some q, some v, some (.ref r), some (.str "rounds"), some (.int (f i : Nat)), some (.int (0 + (i : Nat) * 1)), some (.ref s.length), z6, none] sa = .ok (.nx [some q, some v, some (.ref r), some (.str "rounds"), some (.int (f i : Nat)), some (.int (0 + (i : Nat) * 1)), some (.ref s.length), z6, none]) sb := by
          rw [hsb, hW']
          exact dputS_ap (s1 := sa) (s2 := sa) (s3 := sa) (by simp -implicitDefEqProofs +decide only [varF_ap, cF_ap, opF_ap, opK_ap, bF_ap, boolK_ap, andT_ap, andK_ap, orT_ap, orK_ap, notT_ap, notK_ap, yesT_ap, andV_ap, andVK_ap, orV_ap, orVK_ap, notV_ap, notVK_ap, ifF_ap, ifFK_ap, nilA_ap, consA_ap, consK_ap, consJ_ap, tupA_ap, lstA_ap, newO_ap, dicF_ap, callF_ap, un1_ap, methF_ap, nonO_ap, someO_ap, someK_ap, slF_ap, slK_ap, slJ_ap, itF_ap, itA_ap, nilS_ap, bkS_ap, ctS_ap, seqS_ap, seqK_nx, seqK_rt, seqK_bk, seqK_ct, dropS_ap, dropK_ap, retS_ap, retK_ap, retN_ap, ifS_ap, ifK_ap, setS_ap, setK_ap, asgS_ap, asgK_ap, asgJ_ap, nameG_ap, nilG_ap, consG_ap, consGK_ap, fnF_ap, fnK_nx, fnK_rt, forS_ap, forK_ap, negD_ap, addI_ap, varK_ap, startE, yes2, isN, List.map_cons, List.map_nil, List.length_cons, List.length_nil, List.replicate, List.append_nil, List.cons_append, List.nil_append, List.getElem?_cons_zero, List.getElem?_cons_succ, List.set_cons_zero, List.set_cons_succ, R.bind_ok, R.bind_ex, R.bind_bad, R.noex_ok, if_true, if_false, Bool.false_eq_true, Bool.true_eq_false, ite_true, ite_false, reduceIte, Nat.reduceAdd, Nat.reduceSub, Nat.zero_add, Nat.sub_self, Nat.sub_zero, decide_true, decide_false, Bool.not_true, Bool.not_false, subD_ap, ltD_ap, leD_ap, gtD_ap, geD_ap, mulD_ap, modD_ap, divD_ap, powD_ap, tupK_ok, lstK_ok, methK_ok, tupG_ok, eqS_t, eqS_f, neS_t, neS_f, eqI_ap, neI_ap, inT_nil, inT_hit, inT_miss, ne_eq, not_false_eq_true]) (by simp -implicitDefEqProofs +decide only [varF_ap, cF_ap, opF_ap, opK_ap, bF_ap, boolK_ap, andT_ap, andK_ap, orT_ap, orK_ap, notT_ap, notK_ap, yesT_ap, andV_ap, andVK_ap, orV_ap, orVK_ap, notV_ap, notVK_ap, ifF_ap, ifFK_ap, nilA_ap, consA_ap, consK_ap, consJ_ap, tupA_ap, lstA_ap, newO_ap, dicF_ap, callF_ap, un1_ap, methF_ap, nonO_ap, someO_ap, someK_ap, slF_ap, slK_ap, slJ_ap, itF_ap, itA_ap, nilS_ap, bkS_ap, ctS_ap, seqS_ap, seqK_nx, seqK_rt, seqK_bk, seqK_ct, dropS_ap, dropK_ap, retS_ap, retK_ap, retN_ap, ifS_ap, ifK_ap, setS_ap, setK_ap, asgS_ap, asgK_ap, asgJ_ap, nameG_ap, nilG_ap, consG_ap, consGK_ap, fnF_ap, fnK_nx, fnK_rt, forS_ap, forK_ap, negD_ap, addI_ap, varK_ap, startE, yes2, isN, List.map_cons, List.map_nil, List.length_cons, List.length_nil, List.replicate, List.append_nil, List.cons_append, List.nil_append, List.getElem?_cons_zero, List.getElem?_cons_succ, List.set_cons_zero, List.set_cons_succ, R.bind_ok, R.bind_ex, R.bind_bad, R.noex_ok, if_true, if_false, Bool.false_eq_true, Bool.true_eq_false, ite_true, ite_false, reduceIte, Nat.reduceAdd, Nat.reduceSub, Nat.zero_add, Nat.sub_self, Nat.sub_zero, decide_true, decide_false, Bool.not_true, Bool.not_false, subD_ap, ltD_ap, leD_ap, gtD_ap, geD_ap, mulD_ap, modD_ap, divD_ap, powD_ap, tupK_ok, lstK_ok, methK_ok, tupG_ok, eqS_t, eqS_f, neS_t, neS_f, eqI_ap, neI_ap, inT_nil, inT_hit, inT_miss, ne_eq, not_false_eq_true]) (by simp -implicitDefEqProofs +decide only [varF_ap, cF_ap, opF_ap, opK_ap, bF_ap, boolK_ap, andT_ap, andK_ap, orT_ap, orK_ap, notT_ap, notK_ap, yesT_ap, andV_ap, andVK_ap, orV_ap, orVK_ap, notV_ap, notVK_ap, ifF_ap, ifFK_ap, nilA_ap, consA_ap, consK_ap, consJ_ap, tupA_ap, lstA_ap, newO_ap, dicF_ap, callF_ap, un1_ap, methF_ap, nonO_ap, someO_ap, someK_ap, slF_ap, slK_ap, slJ_ap, itF_ap, itA_ap, nilS_ap, bkS_ap, ctS_ap, seqS_ap, seqK_nx, seqK_rt, seqK_bk, seqK_ct, dropS_ap, dropK_ap, retS_ap, retK_ap, retN_ap, ifS_ap, ifK_ap, setS_ap, setK_ap, asgS_ap, asgK_ap, asgJ_ap, nameG_ap, nilG_ap, consG_ap, consGK_ap, fnF_ap, fnK_nx, fnK_rt, forS_ap, forK_ap, negD_ap, addI_ap, varK_ap, startE, yes2, isN, List.map_cons, List.map_nil, List.length_cons, List.length_nil, List.replicate, List.append_nil, List.cons_append, List.nil_append, List.getElem?_cons_zero, List.getElem?_cons_succ, List.set_cons_zero, List.set_cons_succ, R.bind_ok, R.bind_ex, R.bind_bad, R.noex_ok, if_true, if_false, Bool.false_eq_true, Bool.true_eq_false, ite_true, ite_false, reduceIte, Nat.reduceAdd, Nat.reduceSub, Nat.zero_add, Nat.sub_self, Nat.sub_zero, decide_true, decide_false, Bool.not_true, Bool.not_false, subD_ap, ltD_ap, leD_ap, gtD_ap, geD_ap, mulD_ap, modD_ap, divD_ap, powD_ap, tupK_ok, lstK_ok, methK_ok, tupG_ok, eqS_t, eqS_f, neS_t, neS_f, eqI_ap, neI_ap, inT_nil, inT_hit, inT_miss, ne_eq, not_false_eq_true, v1]) ga dc.ok (by rw [sizeLine_eq']; omega)
        refine ⟨_, _, [some q, some v, some (.ref r), some (.str "rounds"), some (.int (f (i + 1) : Nat)), some (.int (0 + (i : Nat) * 1)), some (.ref s.length), some (.int (g i : Nat)), none], se, rfl, ?_, _, _, _, rfl, ?_, ((kps.trans (kab.sub (by simp))).trans (kp3.trans kp4)).trans kp5⟩
        · rw [es1 i hiK]
          unfold rnd
          simp -implicitDefEqProofs +decide only [varF_ap, cF_ap, opF_ap, opK_ap, bF_ap, boolK_ap, andT_ap, andK_ap, orT_ap, orK_ap, notT_ap, notK_ap, yesT_ap, andV_ap, andVK_ap, orV_ap, orVK_ap, notV_ap, notVK_ap, ifF_ap, ifFK_ap, nilA_ap, consA_ap, consK_ap, consJ_ap, tupA_ap, lstA_ap, newO_ap, dicF_ap, callF_ap, un1_ap, methF_ap, nonO_ap, someO_ap, someK_ap, slF_ap, slK_ap, slJ_ap, itF_ap, itA_ap, nilS_ap, bkS_ap, ctS_ap, seqS_ap, seqK_nx, seqK_rt, seqK_bk, seqK_ct, dropS_ap, dropK_ap, retS_ap, retK_ap, retN_ap, ifS_ap, ifK_ap, setS_ap, setK_ap, asgS_ap, asgK_ap, asgJ_ap, nameG_ap, nilG_ap, consG_ap, consGK_ap, fnF_ap, fnK_nx, fnK_rt, forS_ap, forK_ap, negD_ap, addI_ap, varK_ap, startE, yes2, isN, List.map_cons, List.map_nil, List.length_cons, List.length_nil, List.replicate, List.append_nil, List.cons_append, List.nil_append, List.getElem?_cons_zero, List.getElem?_cons_succ, List.set_cons_zero, List.set_cons_succ, R.bind_ok, R.bind_ex, R.bind_bad, R.noex_ok, if_true, if_false, Bool.false_eq_true, Bool.true_eq_false, ite_true, ite_false, reduceIte, Nat.reduceAdd, Nat.reduceSub, Nat.zero_add, Nat.sub_self, Nat.sub_zero, decide_true, decide_false, Bool.not_true, Bool.not_false, subD_ap, ltD_ap, leD_ap, gtD_ap, geD_ap, mulD_ap, modD_ap, divD_ap, powD_ap, tupK_ok, lstK_ok, methK_ok, tupG_ok, eqS_t, eqS_f, neS_t, neS_f, eqI_ap, neI_ap, inT_nil, inT_hit, inT_miss, ne_eq, not_false_eq_true, l0__law_laid, dd, dp, v4, e3, e4, e5, sz (by decide : 0 ≤ 100), sz (by decide : 1 ≤ 100), sz (by decide : 2 ≤ 100), sz (by decide : 3 ≤ 100)]
        · rw [es2 i hiK]; exact nt5
    rw [intsD_len] at he nt9
    subst he
    refine ⟨s9, ?_, nt9, kp9⟩
    rw [← hv, ← hq]
    simp -implicitDefEqProofs +decide only [varF_ap, cF_ap, opF_ap, opK_ap, bF_ap, boolK_ap, andT_ap, andK_ap, orT_ap, orK_ap, notT_ap, notK_ap, yesT_ap, andV_ap, andVK_ap, orV_ap, orVK_ap, notV_ap, notVK_ap, ifF_ap, ifFK_ap, nilA_ap, consA_ap, consK_ap, consJ_ap, tupA_ap, lstA_ap, newO_ap, dicF_ap, callF_ap, un1_ap, methF_ap, nonO_ap, someO_ap, someK_ap, slF_ap, slK_ap, slJ_ap, itF_ap, itA_ap, nilS_ap, bkS_ap, ctS_ap, seqS_ap, seqK_nx, seqK_rt, seqK_bk, seqK_ct, dropS_ap, dropK_ap, retS_ap, retK_ap, retN_ap, ifS_ap, ifK_ap, setS_ap, setK_ap, asgS_ap, asgK_ap, asgJ_ap, nameG_ap, nilG_ap, consG_ap, consGK_ap, fnF_ap, fnK_nx, fnK_rt, forS_ap, forK_ap, negD_ap, addI_ap, varK_ap, startE, yes2, isN, List.map_cons, List.map_nil, List.length_cons, List.length_nil, List.replicate, List.append_nil, List.cons_append, List.nil_append, List.getElem?_cons_zero, List.getElem?_cons_succ, List.set_cons_zero, List.set_cons_succ, R.bind_ok, R.bind_ex, R.bind_bad, R.noex_ok, if_true, if_false, Bool.false_eq_true, Bool.true_eq_false, ite_true, ite_false, reduceIte, Nat.reduceAdd, Nat.reduceSub, Nat.zero_add, Nat.sub_self, Nat.sub_zero, decide_true, decide_false, Bool.not_true, Bool.not_false, subD_ap, ltD_ap, leD_ap, gtD_ap, geD_ap, mulD_ap, modD_ap, divD_ap, powD_ap, tupK_ok, lstK_ok, methK_ok, tupG_ok, eqS_t, eqS_f, neS_t, neS_f, eqI_ap, neI_ap, inT_nil, inT_hit, inT_miss, ne_eq, not_false_eq_true, f__law_laid, b__law_laid, v0, v2, v3, e1, e2, rg, fl, sz (by decide : 0 ≤ 100), sz (by decide : 1 ≤ 100), sz (by decide : 3 ≤ 100)]
end Law

namespace Law
open PySem L2 VL
/-! a new net; a table laid; the entries -/
theorem fsetS_ap {c f : Str} {fo fv : EF} {env : EnvD} {st s1 s2 : Sto} {v : VL.D} {n : Nat} {fs : List (Str × VL.D)} (h1 : fv env st = .ok v s1) (h2 : fo env s1 = .ok (.ref n) s2) (h3 : s2[n]? = some (.ins c fs)) (hl : fs.length < 1000) : fsetS c f fo fv env st = .ok (.nx env) (s2.set n (.ins c (putFD f v fs))) := by
  unfold fsetS
  rw [h1, R.bind_ok, h2, R.bind_ok]
  simp only [insAt_ins h3, if_pos hl]
theorem lst0 {env : EnvD} {S : Sto} : lstA nilA env S = .ok (.ref S.length) (S ++ [.lst []]) := by simp -implicitDefEqProofs +decide only [varF_ap, cF_ap, opF_ap, opK_ap, bF_ap, boolK_ap, andT_ap, andK_ap, orT_ap, orK_ap, notT_ap, notK_ap, yesT_ap, andV_ap, andVK_ap, orV_ap, orVK_ap, notV_ap, notVK_ap, ifF_ap, ifFK_ap, nilA_ap, consA_ap, consK_ap, consJ_ap, tupA_ap, lstA_ap, newO_ap, dicF_ap, callF_ap, un1_ap, methF_ap, nonO_ap, someO_ap, someK_ap, slF_ap, slK_ap, slJ_ap, itF_ap, itA_ap, nilS_ap, bkS_ap, ctS_ap, seqS_ap, seqK_nx, seqK_rt, seqK_bk, seqK_ct, dropS_ap, dropK_ap, retS_ap, retK_ap, retN_ap, ifS_ap, ifK_ap, setS_ap, setK_ap, asgS_ap, asgK_ap, asgJ_ap, nameG_ap, nilG_ap, consG_ap, consGK_ap, fnF_ap, fnK_nx, fnK_rt, forS_ap, forK_ap, negD_ap, addI_ap, varK_ap, startE, yes2, isN, List.map_cons, List.map_nil, List.length_cons, List.length_nil, List.replicate, List.append_nil, List.cons_append, List.nil_append, List.getElem?_cons_zero, List.getElem?_cons_succ, List.set_cons_zero, List.set_cons_succ, R.bind_ok, R.bind_ex, R.bind_bad, R.noex_ok, if_true, if_false, Bool.false_eq_true, Bool.true_eq_false, ite_true, ite_false, reduceIte, Nat.reduceAdd, Nat.reduceSub, Nat.zero_add, Nat.sub_self, Nat.sub_zero, decide_true, decide_false, Bool.not_true, Bool.not_false, subD_ap, ltD_ap, leD_ap, gtD_ap, geD_ap, mulD_ap, modD_ap, divD_ap, powD_ap, tupK_ok, lstK_ok, methK_ok, tupG_ok, eqS_t, eqS_f, neS_t, neS_f, eqI_ap, neI_ap, inT_nil, inT_hit, inT_miss, ne_eq, not_false_eq_true, sz (by decide : 0 ≤ 100)]
theorem net_new {st : Sto} : f_Net___init__ [.ref st.length] (st ++ [.ins "Net" []]) = .ok .non (st ++ [NET (st.length + 1) (st.length + 2) (st.length + 3), .lst [], .lst [], .dic []]) := by
  have a1 : fsetS "Net" "laid" (varF 0) (lstA nilA) [some (.ref st.length)] (st ++ [.ins "Net" []]) = .ok (.nx [some (.ref st.length)]) (st ++ .ins "Net" [("laid", .ref (st.length + 1))] :: [.lst []]) := by
    rw [fsetS_ap (s1 := st ++ .ins "Net" [] :: [.lst []]) (s2 := st ++ .ins "Net" [] :: [.lst []]) (v := .ref (st.length + 1)) (n := st.length) (fs := []) (by rw [lst0, List.append_assoc, List.length_append]; rfl) rfl get_at (by decide), set_at]; rfl
  have a2 : fsetS "Net" "wide" (varF 0) (lstA nilA) [some (.ref st.length)] (st ++ .ins "Net" [("laid", .ref (st.length + 1))] :: [.lst []]) = .ok (.nx [some (.ref st.length)]) (st ++ .ins "Net" [("laid", .ref (st.length + 1)), ("wide", .ref (st.length + 2))] :: [.lst [], .lst []]) := by
    rw [fsetS_ap (s1 := st ++ .ins "Net" [("laid", .ref (st.length + 1))] :: [.lst [], .lst []]) (s2 := st ++ .ins "Net" [("laid", .ref (st.length + 1))] :: [.lst [], .lst []]) (v := .ref (st.length + 2)) (n := st.length) (fs := [("laid", .ref (st.length + 1))]) (by rw [lst0, List.append_assoc, List.length_append]; rfl) rfl get_at (by decide : 1 < 1000), set_at]; rfl
  have a3 : fsetS "Net" "numbers" (varF 0) dicF [some (.ref st.length)] (st ++ .ins "Net" [("laid", .ref (st.length + 1)), ("wide", .ref (st.length + 2))] :: [.lst [], .lst []]) = .ok (.nx [some (.ref st.length)]) (st ++ NET (st.length + 1) (st.length + 2) (st.length + 3) :: [.lst [], .lst [], .dic []]) := by
    rw [fsetS_ap (s1 := st ++ .ins "Net" [("laid", .ref (st.length + 1)), ("wide", .ref (st.length + 2))] :: [.lst [], .lst [], .dic []]) (s2 := st ++ .ins "Net" [("laid", .ref (st.length + 1)), ("wide", .ref (st.length + 2))] :: [.lst [], .lst [], .dic []]) (v := .ref (st.length + 3)) (n := st.length) (fs := [("laid", .ref (st.length + 1)), ("wide", .ref (st.length + 2))]) (by rw [dicF_ap, List.append_assoc, List.length_append]; rfl) rfl get_at (by decide : 2 < 1000), set_at]; rfl
  simp -implicitDefEqProofs +decide only [varF_ap, cF_ap, opF_ap, opK_ap, bF_ap, boolK_ap, andT_ap, andK_ap, orT_ap, orK_ap, notT_ap, notK_ap, yesT_ap, andV_ap, andVK_ap, orV_ap, orVK_ap, notV_ap, notVK_ap, ifF_ap, ifFK_ap, nilA_ap, consA_ap, consK_ap, consJ_ap, tupA_ap, lstA_ap, newO_ap, dicF_ap, callF_ap, un1_ap, methF_ap, nonO_ap, someO_ap, someK_ap, slF_ap, slK_ap, slJ_ap, itF_ap, itA_ap, nilS_ap, bkS_ap, ctS_ap, seqS_ap, seqK_nx, seqK_rt, seqK_bk, seqK_ct, dropS_ap, dropK_ap, retS_ap, retK_ap, retN_ap, ifS_ap, ifK_ap, setS_ap, setK_ap, asgS_ap, asgK_ap, asgJ_ap, nameG_ap, nilG_ap, consG_ap, consGK_ap, fnF_ap, fnK_nx, fnK_rt, forS_ap, forK_ap, negD_ap, addI_ap, varK_ap, startE, yes2, isN, List.map_cons, List.map_nil, List.length_cons, List.length_nil, List.replicate, List.append_nil, List.cons_append, List.nil_append, List.getElem?_cons_zero, List.getElem?_cons_succ, List.set_cons_zero, List.set_cons_succ, R.bind_ok, R.bind_ex, R.bind_bad, R.noex_ok, if_true, if_false, Bool.false_eq_true, Bool.true_eq_false, ite_true, ite_false, reduceIte, Nat.reduceAdd, Nat.reduceSub, Nat.zero_add, Nat.sub_self, Nat.sub_zero, decide_true, decide_false, Bool.not_true, Bool.not_false, subD_ap, ltD_ap, leD_ap, gtD_ap, geD_ap, mulD_ap, modD_ap, divD_ap, powD_ap, tupK_ok, lstK_ok, methK_ok, tupG_ok, eqS_t, eqS_f, neS_t, neS_f, eqI_ap, neI_ap, inT_nil, inT_hit, inT_miss, ne_eq, not_false_eq_true, f_Net___init__, b_Net___init__, a1, a2, a3]
theorem makeF_ap {c : Str} {fn : Fn} {env : EnvD} {st s' : Sto} (h : fn [.ref st.length] (st ++ [.ins c []]) = .ok .non s') : makeF c fn nilA env st = .ok (.ref st.length) s' := by
  unfold makeF
  show ((fn [.ref st.length] (st ++ [.ins c []])).bind _) = _
  rw [h]; rfl
def tnd (nm : Str) (w : Int) : VL.D := .tup [.str "table", .tup [.str nm, .int w], .tup []]
theorem tnd_nd {nm : Str} {w : Int} : Nd (tnd nm w) := ⟨.tup (Nat.le_of_ble_eq_true rfl) (Pl.allC .str (Pl.allC (.tup (Nat.le_of_ble_eq_true rfl) (Pl.allC .str (Pl.allC .int Pl.all0))) (Pl.allC (.tup (Nat.zero_le _) Pl.all0) Pl.all0))), _, rfl⟩
theorem table_ok {n a b c : Nat} {S : Sn} {st : Sto} {nm : Str} {w : Int} (h : Nt n a b c S st) (hab : a ≠ b) (ok : OkS S) (hz : S.L.length < sizeLine) :
    ∃ st', f_Net_table [.ref n, .str nm, .int w] st = .ok (.int ((S.put (tnd nm w) w).1 : Nat)) st' ∧ Nt n a b c (S.put (tnd nm w) w).2 st' ∧ Kp [a, b, c] st st' := by
  obtain ⟨st', h1, h2, h3⟩ := put_ok (nd := tnd nm w) (w := w) h.net h.at_ hab ok tnd_nd hz
  have nn := net_ne h.net h.at_
  have m1 : ∀ {fa : AF} {env : EnvD}, methOK "Net" "put" f_Net_put fa env (.ref n) st = (fa env st).bind (fnC f_Net_put n) := net_meth h.net (mput (.inl rfl))
  have nd : tnd nm w = .tup [.str "table", .tup [.str nm, .int w], .tup []] := rfl
  have h1' := h1
  rw [nd] at h1'
  exact ⟨st', by simp -implicitDefEqProofs +decide only [varF_ap, cF_ap, opF_ap, opK_ap, bF_ap, boolK_ap, andT_ap, andK_ap, orT_ap, orK_ap, notT_ap, notK_ap, yesT_ap, andV_ap, andVK_ap, orV_ap, orVK_ap, notV_ap, notVK_ap, ifF_ap, ifFK_ap, nilA_ap, consA_ap, consK_ap, consJ_ap, tupA_ap, lstA_ap, newO_ap, dicF_ap, callF_ap, un1_ap, methF_ap, nonO_ap, someO_ap, someK_ap, slF_ap, slK_ap, slJ_ap, itF_ap, itA_ap, nilS_ap, bkS_ap, ctS_ap, seqS_ap, seqK_nx, seqK_rt, seqK_bk, seqK_ct, dropS_ap, dropK_ap, retS_ap, retK_ap, retN_ap, ifS_ap, ifK_ap, setS_ap, setK_ap, asgS_ap, asgK_ap, asgJ_ap, nameG_ap, nilG_ap, consG_ap, consGK_ap, fnF_ap, fnK_nx, fnK_rt, forS_ap, forK_ap, negD_ap, addI_ap, varK_ap, startE, yes2, isN, List.map_cons, List.map_nil, List.length_cons, List.length_nil, List.replicate, List.append_nil, List.cons_append, List.nil_append, List.getElem?_cons_zero, List.getElem?_cons_succ, List.set_cons_zero, List.set_cons_succ, R.bind_ok, R.bind_ex, R.bind_bad, R.noex_ok, if_true, if_false, Bool.false_eq_true, Bool.true_eq_false, ite_true, ite_false, reduceIte, Nat.reduceAdd, Nat.reduceSub, Nat.zero_add, Nat.sub_self, Nat.sub_zero, decide_true, decide_false, Bool.not_true, Bool.not_false, subD_ap, ltD_ap, leD_ap, gtD_ap, geD_ap, mulD_ap, modD_ap, divD_ap, powD_ap, tupK_ok, lstK_ok, methK_ok, tupG_ok, eqS_t, eqS_f, neS_t, neS_f, eqI_ap, neI_ap, inT_nil, inT_hit, inT_miss, ne_eq, not_false_eq_true, f_Net_table, b_Net_table, methO_ap, fnC_ap, m1, h1', sz (by decide : 0 ≤ 100), sz (by decide : 2 ≤ 100), sz (by decide : 3 ≤ 100)]; rw [nd], ⟨h3 _ _ nn h.net, h2⟩, h3⟩
/-- an entry let by -/
def TE (N : NmP) (e : VL.D) : Prop := ∃ v w s g q dp, e = .tup [v, .int w, .int s, .int g, .int q] ∧ dp ≤ 26 ∧ s ≤ 200 ∧ q = ((dp : Nat) : Int) ∧ 1 ≤ w ∧ w ≤ 12 ∧ Vw N v w s dp
theorem TE.en {N : NmP} {e : VL.D} (h : TE N e) : ∃ w dp, En N w dp e := by
  obtain ⟨v, w, s, g, q, dp, h1, _, _, h4, h5, h6, h7⟩ := h
  exact ⟨w, dp, v, s, g, q, h1, h4, h5, h6, h7⟩
def tabE (s : Str) (w : Int) : VL.D := .tup [.tup [.str "name", .str s], .int w, .int 1, .int 9, .int 0]
theorem tabE_te {N : NmP} {s : Str} {w : Int} (h : N s w) (h1 : 1 ≤ w) (h2 : w ≤ 12) : TE N (tabE s w) := ⟨_, w, 1, 9, 0, 0, rfl, by decide, by decide, rfl, h1, h2, .name h⟩
end Law

namespace Law
open PySem L2 VL
/-! k41: the law -/
/-- numbers of the names of which i are told -/
def NumD (ns : List Str) (i m : Nat) (W : List (VL.D × VL.D)) : Prop := keysOk W = true ∧ W.length ≤ i ∧ ∀ j s, j < i → ns[j]? = some s → ∃ k : Nat, dget W (.str s) = some (.int k) ∧ k < m
theorem NumD.put {ns : List Str} {i m m' k : Nat} {s : Str} {W : List (VL.D × VL.D)} (h : NumD ns i m W) (hs : ns[i]? = some s) (hm : m ≤ m') (hk : k < m') : NumD ns (i + 1) m' (dput W (.str s) (.int (k : Nat))) := by
  obtain ⟨h1, h2, h3⟩ := h
  refine ⟨keysOk_put h1, by have := dput_len (W := W) (s := s) (v := .int (k : Nat)); omega, fun j t hj ht => ?_⟩
  rw [dget_dput]
  by_cases e : s = t
  · rw [if_pos e]; exact ⟨k, rfl, hk⟩
  · rw [if_neg e]
    rcases Nat.lt_succ_iff_lt_or_eq.mp hj with hj | hj
    · obtain ⟨k', e1, e2⟩ := h3 j t hj ht
      exact ⟨k', e1, by omega⟩
    · subst hj
      rw [hs] at ht; cases ht
      exact absurd rfl e
/-- the tables told so far -/
def Tabs' (ns : List Str) (i : Nat) (ts : List VL.D) : Prop := ts.length = i ∧ ∀ e ∈ ts, ∃ s w, s ∈ ns ∧ e = tabE s w ∧ 1 ≤ w ∧ w ≤ 12
theorem four_ix {k : Nat} (h : k < 4) {S : Sto} : ∃ m : Nat, ixD (.ref S.length) (.int (0 + (k : Nat) * 1)) (S ++ [.lst [.int 2, .int 2, .int 3, .int 4]]) = .ok (.int (m : Nat)) (S ++ [.lst [.int 2, .int 2, .int 3, .int 4]]) := by
  have e : (0 : Int) + (k : Nat) * 1 = (k : Nat) := by omega
  rw [e]
  match k, h with
  | 0, _ => exact ⟨2, ixD_list listAt_last rfl⟩
  | 1, _ => exact ⟨2, ixD_list listAt_last rfl⟩
  | 2, _ => exact ⟨3, ixD_list listAt_last rfl⟩
  | 3, _ => exact ⟨4, ixD_list listAt_last rfl⟩
theorem true_law : ∀ ns : List Int, ns.length ≤ 63 → ∃ st, f_law [.ref 0] [.rl (ns.map VL.D.int)] = .ok (.bl true) st := fun sc hsc => by
  have h0 : listAt [VL.O.rl (sc.map VL.D.int)] 0 = some (sc.map VL.D.int) := rfl
  have T0l : [VL.O.rl (sc.map VL.D.int)].length = 1 := rfl
  generalize [VL.O.rl (sc.map VL.D.int)] = T0 at h0 T0l
  have v12 : (12 : Int).natAbs.log2 < 9000 := by decide +kernel
  have v4 : (4 : Int).natAbs.log2 < 9000 := by decide +kernel
  have v18 : (18 : Int).natAbs.log2 < 9000 := by decide +kernel
  obtain ⟨r, ns, m, T1, q1, L1, g1, hn4, hm1, hm2, hN⟩ := names_ok (c := sc.getD 0 0) (st := T0)
  obtain ⟨n0, n1, n2, n3, hns⟩ : ∃ n0 n1 n2 n3, ns = [n0, n1, n2, n3] := by
    match ns, hn4 with
    | [a, b, c, d], _ => exact ⟨a, b, c, d, rfl⟩
  have hn0 : n0 ∈ ns := hns ▸ List.mem_cons_self
  have rl : r < T1.length := (List.getElem?_eq_some_iff.mp g1).1
  have l1 : 0 < T1.length := by omega
  have h1 : listAt T1 0 = some (sc.map VL.D.int) := L1.listAt h0
  have ca : ∀ S, Kp [T1.length, T1.length + 1, T1.length + 2, T1.length + 3, T1.length + 4, T1.length + 5, T1.length + 6, T1.length + 7, T1.length + 8] T1 S → ∀ k : Nat, f__law_cell_at [.ref 0, .int k] S = .ok (.int (sc.getD k 0)) S := fun S h k => cell_at_ok (h.list (by simp; omega) h1)
  have ca0 : f__law_cell_at [.ref 0, .int 0] T0 = .ok (.int (sc.getD 0 0)) T0 := cell_at_ok (k := 0) h0
  obtain ⟨N, hNd⟩ : ∃ N : NmP, N = fun n _ => n ∈ ns := ⟨_, rfl⟩
  -- what stands ahead of the tables
  obtain ⟨T2, hT2⟩ : ∃ S, S = T1 ++ [VL.O.lst [], .dic [], NET (T1.length + 3) (T1.length + 4) (T1.length + 5), .lst [], .lst [], .dic [], .dic [], .lst [], .lst []] := ⟨_, rfl⟩
  have g2 : ∀ i o, [VL.O.lst [], .dic [], NET (T1.length + 3) (T1.length + 4) (T1.length + 5), .lst [], .lst [], .dic [], .dic [], .lst [], .lst []][i]? = some o → T2[T1.length + i]? = some o := fun i o h => by
    rw [hT2, List.getElem?_append_right (by omega), Nat.add_sub_cancel_left]; exact h
  obtain ⟨q, hq⟩ : ∃ q, q = VL.D.tup [.ref (T1.length + 6), .ref (T1.length + 7), .ref (T1.length + 8)] := ⟨_, rfl⟩
  obtain ⟨A1, hA1⟩ : ∃ S, S = T1 ++ [VL.O.lst []] := ⟨_, rfl⟩
  obtain ⟨A2, hA2⟩ : ∃ S, S = A1 ++ [VL.O.dic []] := ⟨_, rfl⟩
  have a1l : A1.length = T1.length + 1 := by rw [hA1, List.length_append]; rfl
  have a2l : A2.length = T1.length + 2 := by rw [hA2, List.length_append, a1l]; rfl
  obtain ⟨A3, hA3⟩ : ∃ S, S = A2 ++ [NET (A2.length + 1) (A2.length + 2) (A2.length + 3), .lst [], .lst [], .dic []] := ⟨_, rfl⟩
  have a3l : A3.length = T1.length + 6 := by rw [hA3, List.length_append, a2l]; rfl
  obtain ⟨A4, hA4⟩ : ∃ S, S = A3 ++ [VL.O.dic []] := ⟨_, rfl⟩
  have a4l : A4.length = T1.length + 7 := by rw [hA4, List.length_append, a3l]; rfl
  obtain ⟨A5, hA5⟩ : ∃ S, S = A4 ++ [VL.O.lst []] := ⟨_, rfl⟩
  have a5l : A5.length = T1.length + 8 := by rw [hA5, List.length_append, a4l]; rfl
  have w6 : A5 ++ [.lst []] = T2 := by
    rw [hA5, hA4, hA3, a2l, hA2, hA1, hT2]
    simp only [List.append_assoc, List.cons_append, List.nil_append]
  have mk : ∀ env, makeF "Net" f_Net___init__ nilA env A2 = .ok (.ref A2.length) A3 := fun env => makeF_ap (by rw [hA3]; exact net_new)
  have w1 := hA1.symm
  have w2 := hA2.symm
  have w4 := hA4.symm
  have w5 := hA5.symm
  have r4 : rng1D [.int 4] T2 = .ok (intsD 0 1 4, []) T2 := rng1_ok (w := 4) (by decide)
  -- the tables
  have step : ∀ i x env S, (intsD 0 1 4)[i]? = some x → (∃ z6 z7 Z ts W, env = [some (.ref 0), some (.ref r), some (.ref T1.length), some (.ref (T1.length + 1)), some (.ref (T1.length + 2)), some q, z6, z7, none, none, none, none, none, none, none, none, none] ∧ Kp [T1.length, T1.length + 1, T1.length + 2, T1.length + 3, T1.length + 4, T1.length + 5, T1.length + 6, T1.length + 7, T1.length + 8] T1 S ∧ Nt (T1.length + 2) (T1.length + 3) (T1.length + 4) (T1.length + 5) Z S ∧ At (T1.length + 7) (T1.length + 8) (T1.length + 6) Z S ∧ OkS Z ∧ Z.L.length ≤ i ∧ S[T1.length]? = some (.lst ts) ∧ Tabs' ns i ts ∧ S[T1.length + 1]? = some (.dic W) ∧ NumD ns i Z.L.length W) →
      ∃ e s1 e' s', nameG 6 x env S = .ok e s1 ∧ l0_law e s1 = .ok (.nx e') s' ∧ (∃ z6 z7 Z ts W, e' = [some (.ref 0), some (.ref r), some (.ref T1.length), some (.ref (T1.length + 1)), some (.ref (T1.length + 2)), some q, z6, z7, none, none, none, none, none, none, none, none, none] ∧ Kp [T1.length, T1.length + 1, T1.length + 2, T1.length + 3, T1.length + 4, T1.length + 5, T1.length + 6, T1.length + 7, T1.length + 8] T1 s' ∧ Nt (T1.length + 2) (T1.length + 3) (T1.length + 4) (T1.length + 5) Z s' ∧ At (T1.length + 7) (T1.length + 8) (T1.length + 6) Z s' ∧ OkS Z ∧ Z.L.length ≤ i + 1 ∧ s'[T1.length]? = some (.lst ts) ∧ Tabs' ns (i + 1) ts ∧ s'[T1.length + 1]? = some (.dic W) ∧ NumD ns (i + 1) Z.L.length W) := by
    intro i x env S hi ⟨z6, z7, Z, ts, W, he, kp, nt, at_, ok, hZ, gt, ht, gw, hW⟩
    subst he
    obtain ⟨hi4, rfl⟩ := intsD_get hi
    obtain ⟨s, hs⟩ : ∃ s, ns[i]? = some s := ⟨_, List.getElem?_eq_getElem (by omega)⟩
    have e0 : (0 : Int) + (i : Nat) * 1 = (i : Nat) := by omega
    obtain ⟨mm, fx⟩ := four_ix (S := S) hi4
    obtain ⟨S1, hS1⟩ : ∃ S1, S1 = S ++ [VL.O.lst [.int 2, .int 2, .int 3, .int 4]] := ⟨_, rfl⟩
    rw [← hS1, e0] at fx
    have k1 : ∀ ms, Kp ms S S1 := fun ms => Kp.le (hS1 ▸ Le.app _ _)
    have cc := ca S1 (kp.trans (k1 _)) mm
    obtain ⟨w, hw⟩ : ∃ w, w = 1 + sc.getD mm 0 % 12 := ⟨_, rfl⟩
    have ix : ∀ S', Kp [T1.length, T1.length + 1, T1.length + 2, T1.length + 3, T1.length + 4, T1.length + 5, T1.length + 6, T1.length + 7, T1.length + 8] T1 S' → ixD (.ref r) (.int (i : Nat)) S' = .ok (.str s) S' := fun S' h => ixD_list (h.list (by simp; omega) (listAt_lst g1)) (by rw [List.getElem?_map, hs]; rfl)
    -- the list of tables
    have gt1 : S1[T1.length]? = some (.lst ts) := k1 [] _ _ (by simp) gt
    obtain ⟨S2, hS2⟩ : ∃ S2, S2 = S1.set T1.length (.lst (ts ++ [tabE s w])) := ⟨_, rfl⟩
    have tl1 := (List.getElem?_eq_some_iff.mp gt1).1
    have ap : appD (.ref T1.length) [tabE s w] S1 = .ok .non S2 := by rw [hS2]; exact appD_ok gt1 (by rw [ht.1, sizeLine_eq']; omega)
    have ap' := ap
    unfold tabE at ap'
    have k2 : Kp [T1.length] S1 S2 := hS2 ▸ Kp.set (by simp)
    have gt2 : S2[T1.length]? = some (.lst (ts ++ [tabE s w])) := by rw [hS2, List.getElem?_set_self tl1]
    have k12 : Kp [T1.length] S S2 := (k1 _).trans k2
    have nt2 : Nt (T1.length + 2) (T1.length + 3) (T1.length + 4) (T1.length + 5) Z S2 := ⟨k12 _ _ (by simp) nt.net, nt.at_.kp k12 (by simp) (by simp) (by simp)⟩
    have at2 : At (T1.length + 7) (T1.length + 8) (T1.length + 6) Z S2 := at_.kp k12 (by simp) (by simp) (by simp)
    have gw2 : S2[T1.length + 1]? = some (.dic W) := k12 _ _ (by simp) gw
    obtain ⟨S3, t3, nt3, k3⟩ := table_ok (nm := s) (w := w) nt2 (by omega) ok (by rw [sizeLine_eq']; omega)
    obtain ⟨pl, pk, pn⟩ := Z.put_le (tnd s w) w
    have gw3 : S3[T1.length + 1]? = some (.dic W) := k3 _ _ (by simp) gw2
    obtain ⟨W', hW'⟩ : ∃ W', W' = dput W (.str s) (.int ((Z.put (tnd s w) w).1 : Nat)) := ⟨_, rfl⟩
    obtain ⟨S4, hS4⟩ : ∃ S4, S4 = S3.set (T1.length + 1) (.dic W') := ⟨_, rfl⟩
    have k4 : Kp [T1.length + 1] S3 S4 := hS4 ▸ Kp.set (by simp)
    have gw4 : S4[T1.length + 1]? = some (.dic W') := by rw [hS4, List.getElem?_set_self (List.getElem?_eq_some_iff.mp gw3).1]
    have nW : NumD ns (i + 1) (Z.put (tnd s w) w).2.L.length W' := hW' ▸ hW.put hs pl.len pk
    have sub : ∀ {ms : List Nat} {a b : Sto}, Kp ms a b → (∀ i ∈ ms, i ∈ [T1.length, T1.length + 1, T1.length + 2, T1.length + 3, T1.length + 4, T1.length + 5, T1.length + 6, T1.length + 7, T1.length + 8]) → Kp [T1.length, T1.length + 1, T1.length + 2, T1.length + 3, T1.length + 4, T1.length + 5, T1.length + 6, T1.length + 7, T1.length + 8] a b := fun h k => h.sub k
    have kA : Kp [T1.length, T1.length + 1, T1.length + 2, T1.length + 3, T1.length + 4, T1.length + 5, T1.length + 6, T1.length + 7, T1.length + 8] T1 S2 := kp.trans (sub k12 (by simp))
    have kB := kA.trans (sub k3 (by simp))
    have kC := kB.trans (sub k4 (by simp))
    have at4 : At (T1.length + 7) (T1.length + 8) (T1.length + 6) Z S4 := (at2.kp k3 (by simp) (by simp) (by simp)).kp k4 (by simp) (by simp) (by simp)
    obtain ⟨S5, t5, at5, k5⟩ := lput_ok (nd := tnd s w) (w := w) at4 (by omega) ok tnd_nd (by rw [sizeLine_eq']; omega) fun s _ => lwid_tab
    rw [← hq] at t5
    have t5' : f__law_put [q, .tup [.str "table", .tup [.str s, .int w], .tup []]] S4 = .ok (.int ((Z.put (tnd s w) w).1 : Nat)) S5 := t5
    have gw5 : S5[T1.length + 1]? = some (.dic W') := k5 _ _ (by simp) gw4
    have dx : dixD (.ref (T1.length + 1)) (.str s) S5 = .ok (.int ((Z.put (tnd s w) w).1 : Nat)) S5 := by
      refine dix_at ⟨gw5, nW.1⟩ ?_
      rw [hW', dget_dput, if_pos rfl]
    have kD := kC.trans (sub k5 (by simp))
    have nt5 : Nt (T1.length + 2) (T1.length + 3) (T1.length + 4) (T1.length + 5) (Z.put (tnd s w) w).2 S5 := ⟨k5 _ _ (by simp) (k4 _ _ (by simp) nt3.net), (nt3.at_.kp k4 (by simp) (by simp) (by simp)).kp k5 (by simp) (by simp) (by simp)⟩
    have ty : tyD "list" (VL.D.ref T1.length) S1 := tyD_list (listAt_lst gt1)
    have tm : ∀ {fa : AF} {env : EnvD}, methOK "Net" "table" f_Net_table fa env (.ref (T1.length + 2)) S2 = (fa env S2).bind (fnC f_Net_table (T1.length + 2)) := net_meth nt2.net (by decide)
    have dp : dputS (methO "Net" "table" f_Net_table (varF 4) (consA (opF ixD (varF 1) (varF 6)) (consA (varF 7) nilA))) (varF 3) (opF ixD (varF 1) (varF 6)) [some (.ref 0), some (.ref r), some (.ref T1.length), some (.ref (T1.length + 1)), some (.ref (T1.length + 2)), some q, some (.int (i : Nat)), some (.int w), none, none, none, none, none, none, none, none, none] S2 = .ok (.nx [some (.ref 0), some (.ref r), some (.ref T1.length), some (.ref (T1.length + 1)), some (.ref (T1.length + 2)), some q, some (.int (i : Nat)), some (.int w), none, none, none, none, none, none, none, none, none]) S4 := by
      rw [hS4, hW']
      exact dputS_ap (s1 := S3) (s2 := S3) (s3 := S3) (by simp -implicitDefEqProofs +decide only [varF_ap, cF_ap, opF_ap, opK_ap, bF_ap, boolK_ap, andT_ap, andK_ap, orT_ap, orK_ap, notT_ap, notK_ap, yesT_ap, andV_ap, andVK_ap, orV_ap, orVK_ap, notV_ap, notVK_ap, ifF_ap, ifFK_ap, nilA_ap, consA_ap, consK_ap, consJ_ap, tupA_ap, lstA_ap, newO_ap, dicF_ap, callF_ap, un1_ap, methF_ap, nonO_ap, someO_ap, someK_ap, slF_ap, slK_ap, slJ_ap, itF_ap, itA_ap, nilS_ap, bkS_ap, ctS_ap, seqS_ap, seqK_nx, seqK_rt, seqK_bk, seqK_ct, dropS_ap, dropK_ap, retS_ap, retK_ap, retN_ap, ifS_ap, ifK_ap, setS_ap, setK_ap, asgS_ap, asgK_ap, asgJ_ap, nameG_ap, nilG_ap, consG_ap, consGK_ap, fnF_ap, fnK_nx, fnK_rt, forS_ap, forK_ap, negD_ap, addI_ap, varK_ap, startE, yes2, isN, List.map_cons, List.map_nil, List.length_cons, List.length_nil, List.replicate, List.append_nil, List.cons_append, List.nil_append, List.getElem?_cons_zero, List.getElem?_cons_succ, List.set_cons_zero, List.set_cons_succ, R.bind_ok, R.bind_ex, R.bind_bad, R.noex_ok, if_true, if_false, Bool.false_eq_true, Bool.true_eq_false, ite_true, ite_false, reduceIte, Nat.reduceAdd, Nat.reduceSub, Nat.zero_add, Nat.sub_self, Nat.sub_zero, decide_true, decide_false, Bool.not_true, Bool.not_false, subD_ap, ltD_ap, leD_ap, gtD_ap, geD_ap, mulD_ap, modD_ap, divD_ap, powD_ap, tupK_ok, lstK_ok, methK_ok, tupG_ok, eqS_t, eqS_f, neS_t, neS_f, eqI_ap, neI_ap, inT_nil, inT_hit, inT_miss, ne_eq, not_false_eq_true, methO_ap, fnC_ap, tm, e0, ix S2 kA, t3]) (by simp -implicitDefEqProofs +decide only [varF_ap, cF_ap, opF_ap, opK_ap, bF_ap, boolK_ap, andT_ap, andK_ap, orT_ap, orK_ap, notT_ap, notK_ap, yesT_ap, andV_ap, andVK_ap, orV_ap, orVK_ap, notV_ap, notVK_ap, ifF_ap, ifFK_ap, nilA_ap, consA_ap, consK_ap, consJ_ap, tupA_ap, lstA_ap, newO_ap, dicF_ap, callF_ap, un1_ap, methF_ap, nonO_ap, someO_ap, someK_ap, slF_ap, slK_ap, slJ_ap, itF_ap, itA_ap, nilS_ap, bkS_ap, ctS_ap, seqS_ap, seqK_nx, seqK_rt, seqK_bk, seqK_ct, dropS_ap, dropK_ap, retS_ap, retK_ap, retN_ap, ifS_ap, ifK_ap, setS_ap, setK_ap, asgS_ap, asgK_ap, asgJ_ap, nameG_ap, nilG_ap, consG_ap, consGK_ap, fnF_ap, fnK_nx, fnK_rt, forS_ap, forK_ap, negD_ap, addI_ap, varK_ap, startE, yes2, isN, List.map_cons, List.map_nil, List.length_cons, List.length_nil, List.replicate, List.append_nil, List.cons_append, List.nil_append, List.getElem?_cons_zero, List.getElem?_cons_succ, List.set_cons_zero, List.set_cons_succ, R.bind_ok, R.bind_ex, R.bind_bad, R.noex_ok, if_true, if_false, Bool.false_eq_true, Bool.true_eq_false, ite_true, ite_false, reduceIte, Nat.reduceAdd, Nat.reduceSub, Nat.zero_add, Nat.sub_self, Nat.sub_zero, decide_true, decide_false, Bool.not_true, Bool.not_false, subD_ap, ltD_ap, leD_ap, gtD_ap, geD_ap, mulD_ap, modD_ap, divD_ap, powD_ap, tupK_ok, lstK_ok, methK_ok, tupG_ok, eqS_t, eqS_f, neS_t, neS_f, eqI_ap, neI_ap, inT_nil, inT_hit, inT_miss, ne_eq, not_false_eq_true]) (by simp -implicitDefEqProofs +decide only [varF_ap, cF_ap, opF_ap, opK_ap, bF_ap, boolK_ap, andT_ap, andK_ap, orT_ap, orK_ap, notT_ap, notK_ap, yesT_ap, andV_ap, andVK_ap, orV_ap, orVK_ap, notV_ap, notVK_ap, ifF_ap, ifFK_ap, nilA_ap, consA_ap, consK_ap, consJ_ap, tupA_ap, lstA_ap, newO_ap, dicF_ap, callF_ap, un1_ap, methF_ap, nonO_ap, someO_ap, someK_ap, slF_ap, slK_ap, slJ_ap, itF_ap, itA_ap, nilS_ap, bkS_ap, ctS_ap, seqS_ap, seqK_nx, seqK_rt, seqK_bk, seqK_ct, dropS_ap, dropK_ap, retS_ap, retK_ap, retN_ap, ifS_ap, ifK_ap, setS_ap, setK_ap, asgS_ap, asgK_ap, asgJ_ap, nameG_ap, nilG_ap, consG_ap, consGK_ap, fnF_ap, fnK_nx, fnK_rt, forS_ap, forK_ap, negD_ap, addI_ap, varK_ap, startE, yes2, isN, List.map_cons, List.map_nil, List.length_cons, List.length_nil, List.replicate, List.append_nil, List.cons_append, List.nil_append, List.getElem?_cons_zero, List.getElem?_cons_succ, List.set_cons_zero, List.set_cons_succ, R.bind_ok, R.bind_ex, R.bind_bad, R.noex_ok, if_true, if_false, Bool.false_eq_true, Bool.true_eq_false, ite_true, ite_false, reduceIte, Nat.reduceAdd, Nat.reduceSub, Nat.zero_add, Nat.sub_self, Nat.sub_zero, decide_true, decide_false, Bool.not_true, Bool.not_false, subD_ap, ltD_ap, leD_ap, gtD_ap, geD_ap, mulD_ap, modD_ap, divD_ap, powD_ap, tupK_ok, lstK_ok, methK_ok, tupG_ok, eqS_t, eqS_f, neS_t, neS_f, eqI_ap, neI_ap, inT_nil, inT_hit, inT_miss, ne_eq, not_false_eq_true, e0, ix S3 kB]) gw3 hW.1 (by have := hW.2.1; rw [sizeLine_eq']; omega)
    have nei : ∀ k : Int, neD (.int k) (.int k) S5 = .ok (.bl false) S5 := fun k => by rw [neI_ap, decide_eq_true rfl]; rfl
    have p1 := hS1.symm
    refine ⟨_, _, [some (.ref 0), some (.ref r), some (.ref T1.length), some (.ref (T1.length + 1)), some (.ref (T1.length + 2)), some q, some (.int (0 + (i : Nat) * 1)), some (.int w), none, none, none, none, none, none, none, none, none], S5, rfl, ?_, _, _, _, ts ++ [tabE s w], W', rfl, kD, nt5, at5, ok.put tnd_nd, by omega, ?_, ⟨by rw [List.length_append, ht.1]; rfl, fun e he => ?_⟩, gw5, nW⟩
    · simp -implicitDefEqProofs +decide only [varF_ap, cF_ap, opF_ap, opK_ap, bF_ap, boolK_ap, andT_ap, andK_ap, orT_ap, orK_ap, notT_ap, notK_ap, yesT_ap, andV_ap, andVK_ap, orV_ap, orVK_ap, notV_ap, notVK_ap, ifF_ap, ifFK_ap, nilA_ap, consA_ap, consK_ap, consJ_ap, tupA_ap, lstA_ap, newO_ap, dicF_ap, callF_ap, un1_ap, methF_ap, nonO_ap, someO_ap, someK_ap, slF_ap, slK_ap, slJ_ap, itF_ap, itA_ap, nilS_ap, bkS_ap, ctS_ap, seqS_ap, seqK_nx, seqK_rt, seqK_bk, seqK_ct, dropS_ap, dropK_ap, retS_ap, retK_ap, retN_ap, ifS_ap, ifK_ap, setS_ap, setK_ap, asgS_ap, asgK_ap, asgJ_ap, nameG_ap, nilG_ap, consG_ap, consGK_ap, fnF_ap, fnK_nx, fnK_rt, forS_ap, forK_ap, negD_ap, addI_ap, varK_ap, startE, yes2, isN, List.map_cons, List.map_nil, List.length_cons, List.length_nil, List.replicate, List.append_nil, List.cons_append, List.nil_append, List.getElem?_cons_zero, List.getElem?_cons_succ, List.set_cons_zero, List.set_cons_succ, R.bind_ok, R.bind_ex, R.bind_bad, R.noex_ok, if_true, if_false, Bool.false_eq_true, Bool.true_eq_false, ite_true, ite_false, reduceIte, Nat.reduceAdd, Nat.reduceSub, Nat.zero_add, Nat.sub_self, Nat.sub_zero, decide_true, decide_false, Bool.not_true, Bool.not_false, subD_ap, ltD_ap, leD_ap, gtD_ap, geD_ap, mulD_ap, modD_ap, divD_ap, powD_ap, tupK_ok, lstK_ok, methK_ok, tupG_ok, eqS_t, eqS_f, neS_t, neS_f, eqI_ap, neI_ap, inT_nil, inT_hit, inT_miss, ne_eq, not_false_eq_true, l0_law, p1, fx, cc, v12, ← hw, e0, ix S1 (kp.trans (k1 _)), ty, ap', dp, ix S4 kC, t5', ix S5 kD, dx, nei, sz (by decide : 0 ≤ 100), sz (by decide : 2 ≤ 100), sz (by decide : 3 ≤ 100), sz (by decide : 4 ≤ 100), sz (by decide : 5 ≤ 100)]
    · exact k5 _ _ (by simp) (k4 _ _ (by simp) (k3 _ _ (by simp) gt2))
    · rcases List.mem_append.mp he with he | he
      · exact ht.2 e he
      · obtain rfl := List.mem_singleton.mp he
        exact ⟨s, w, List.mem_of_getElem? hs, rfl, by omega, by omega⟩
  obtain ⟨e', T4, f4, z6, z7, Z, ts, W, he, kp4, nt4, at4, ok4, hZ4, gt4, ht4, gw4, hW4⟩ := forL_inv (c := []) (gf := nameG 6) (b := l0_law) (ds := intsD 0 1 4) (env := [some (.ref 0), some (.ref r), some (.ref T1.length), some (.ref (T1.length + 1)), some (.ref (T1.length + 2)), some q, none, none, none, none, none, none, none, none, none, none, none]) (st := T2) _
    ⟨none, none, ⟨[], []⟩, [], [], rfl, Kp.le (hT2 ▸ Le.app _ _), ⟨g2 2 _ rfl, ⟨g2 3 _ rfl, g2 4 _ rfl, g2 5 _ rfl⟩⟩, ⟨g2 7 _ rfl, g2 8 _ rfl, g2 6 _ rfl⟩, ⟨rfl, fun x hx => nomatch hx⟩, Nat.zero_le _, g2 0 _ rfl, ⟨rfl, fun x hx => nomatch hx⟩, g2 1 _ rfl, rfl, Nat.le_refl _, fun j s hj => absurd hj (Nat.not_lt_zero _)⟩ (fun _ _ _ _ => ChkOk.nil) step
  rw [intsD_len] at hZ4 ht4 hW4
  subst he
  -- the entries
  have gtl : listAt T4 T1.length = some ts := listAt_lst gt4
  have tN : ∀ e ∈ ts, TE N e := fun e he => by
    obtain ⟨s, w, hs, rfl, w1, w2⟩ := ht4.2 e he
    exact tabE_te (by rw [hNd]; exact hs) w1 w2
  have pick : ∀ c : Int, ∃ e, TE N e ∧ ∀ S, Le T4 S → ixD (.ref T1.length) (.int (c % 4)) S = .ok e S := fun c => by
    obtain ⟨k, hk⟩ : ∃ k : Nat, c % 4 = k := ⟨(c % 4).toNat, by omega⟩
    obtain ⟨e, he⟩ : ∃ e, ts[k]? = some e := ⟨_, List.getElem?_eq_getElem (by rw [ht4.1]; omega)⟩
    exact ⟨e, tN e (List.mem_of_getElem? he), fun S h => by rw [hk]; exact ixD_list (h.listAt gtl) he⟩
  have h4 : listAt T4 0 = some (sc.map VL.D.int) := kp4.list (by simp; omega) h1
  have g4 : listAt T4 r = some (ns.map .str) := kp4.list (by simp; omega) (listAt_lst g1)
  have ca5 : f__law_cell_at [.ref 0, .int 5] T4 = .ok (.int (sc.getD 5 0)) T4 := cell_at_ok (k := 5) h4
  obtain ⟨now0, n1', n2'⟩ := pick (sc.getD 5 0)
  obtain ⟨kept0, p1, p2⟩ := pick (sc.getD 5 0 / 4)
  have ln : lenD [.ref 0] T4 = .ok (.int sc.length) T4 := by rw [lenD_list h4, List.length_map]
  obtain ⟨mm, hmm, hmm2⟩ : ∃ mm : Nat, (min (sc.length : Int) 63 - 6).toNat = mm ∧ mm + 6 ≤ max 6 sc.length := ⟨_, rfl, by omega⟩
  have rg : rng2D [.int 6, .int (min (sc.length : Int) 63)] T4 = .ok (intsD 6 1 mm, []) T4 := by
    show (if _ then _ else _) = _
    rw [if_pos ⟨by decide, by decide, by rw [pow62]; omega, by rw [pow62]; omega⟩, hmm]
  have r64 : ∀ x : Int, VL.MulOk 64 x := mul_l (by decide)
  obtain ⟨TL, hTL⟩ : ∃ TL : SF, TL = ifS (orT (bF (opF gtD (opF ixD (varF 8) (cF (.int 2))) (cF (.int 200)))) (orT (bF (opF gtD (opF ixD (varF 8) (cF (.int 3))) (cF (.int 1900)))) (bF (opF gtD (opF ixD (varF 8) (cF (.int 4))) (cF (.int 26)))))) (setS 8 (opF ixD (varF 2) (opF modD (opF divD (varF 11) (cF (.int 18))) (cF (.int 4))))) nilS := ⟨_, rfl⟩
  have l1e : l1_law = seqS (setS 11 (opF ixD (varF 0) (varF 10)))
    (seqS (ifS (bF (opF ltD (opF modD (varF 11) (cF (.int 18))) (cF (.int 2)))) (seqS (setS 9 (varF 8))
    (setS 8 (opF ixD (varF 2) (opF modD (opF divD (varF 11) (cF (.int 18))) (cF (.int 4)))))) (setS 8 (callF f__law_next (consA (varF 11) (consA (callF f__law_mixed (consA (opF addD (opF mulD (cF (.int 64)) (varF 11)) (varF 10)) nilA)) (consA (varF 8) (consA (varF 9) (consA (callF f__law_fresh (consA (varF 1) (consA (varF 10) nilA))) nilA)))))))) TL) := by rw [hTL]; rfl
  obtain ⟨e', T6, f6, now, kept, e10, e11, rfl, L6, kn, kk⟩ := forL_inv (c := []) (gf := nameG 10) (b := l1_law) (ds := intsD 6 1 mm) (env := [some (.ref 0), some (.ref r), some (.ref T1.length), some (.ref (T1.length + 1)), some (.ref (T1.length + 2)), some q, z6, z7, some now0, some kept0, none, none, none, none, none, none, none]) (st := T4)
    (fun i env S => ∃ now kept e10 e11, env = [some (.ref 0), some (.ref r), some (.ref T1.length), some (.ref (T1.length + 1)), some (.ref (T1.length + 2)), some q, z6, z7, some now, some kept, e10, e11, none, none, none, none, none] ∧ Le T4 S ∧ TE N now ∧ TE N kept)
    ⟨now0, kept0, none, none, rfl, Le.refl _, n1', p1⟩ (fun _ _ _ _ => ChkOk.nil) fun i x env S hi ⟨now, kept, e10, e11, he, LS, kn, kk⟩ => by
      subst he
      obtain ⟨him, rfl⟩ := intsD_get hi
      rw [show (6 : Int) + (i : Nat) * 1 = ((6 + i : Nat) : Int) by omega]
      have hk6 : 6 + i < sc.length := by omega
      obtain ⟨c, hc⟩ : ∃ c, sc[6 + i]? = some c := ⟨_, List.getElem?_eq_getElem hk6⟩
      have ic : ixD (.ref 0) (.int ((6 + i : Nat) : Int)) S = .ok (.int c) S := ixD_list (LS.listAt h4) (by rw [List.getElem?_map, hc]; rfl)
      obtain ⟨t, t1, t2⟩ := pick (c / 18)
      have tail : ∀ (now kept : VL.D) (S' : Sto), Le T4 S' → (∃ w dp, En N w dp now) → ∃ now' , TE N now' ∧
          TL [some (.ref 0), some (.ref r), some (.ref T1.length), some (.ref (T1.length + 1)), some (.ref (T1.length + 2)), some q, z6, z7, some now, some kept, some (.int ((6 + i : Nat) : Int)), some (.int c), none, none, none, none, none] S' = .ok (.nx [some (.ref 0), some (.ref r), some (.ref T1.length), some (.ref (T1.length + 1)), some (.ref (T1.length + 2)), some q, z6, z7, some now', some kept, some (.int ((6 + i : Nat) : Int)), some (.int c), none, none, none, none, none]) S' := by
        intro now kept S' hS' ⟨w, dp, v, s, g, q', hnow, hq', b1, b2, b3⟩
        have j2 : ixD now (.int 2) S' = .ok (.int s) S' := by rw [hnow]; exact jx2
        have j3 : ixD now (.int 3) S' = .ok (.int g) S' := by rw [hnow]; exact jx3
        have j4 : ixD now (.int 4) S' = .ok (.int q') S' := by rw [hnow]; exact jx4
        by_cases g0 : s > 200
        · have d0 : decide (s > 200) = true := decide_eq_true g0
          exact ⟨t, t1, by rw [hTL]; simp -implicitDefEqProofs +decide only [varF_ap, cF_ap, opF_ap, opK_ap, bF_ap, boolK_ap, andT_ap, andK_ap, orT_ap, orK_ap, notT_ap, notK_ap, yesT_ap, andV_ap, andVK_ap, orV_ap, orVK_ap, notV_ap, notVK_ap, ifF_ap, ifFK_ap, nilA_ap, consA_ap, consK_ap, consJ_ap, tupA_ap, lstA_ap, newO_ap, dicF_ap, callF_ap, un1_ap, methF_ap, nonO_ap, someO_ap, someK_ap, slF_ap, slK_ap, slJ_ap, itF_ap, itA_ap, nilS_ap, bkS_ap, ctS_ap, seqS_ap, seqK_nx, seqK_rt, seqK_bk, seqK_ct, dropS_ap, dropK_ap, retS_ap, retK_ap, retN_ap, ifS_ap, ifK_ap, setS_ap, setK_ap, asgS_ap, asgK_ap, asgJ_ap, nameG_ap, nilG_ap, consG_ap, consGK_ap, fnF_ap, fnK_nx, fnK_rt, forS_ap, forK_ap, negD_ap, addI_ap, varK_ap, startE, yes2, isN, List.map_cons, List.map_nil, List.length_cons, List.length_nil, List.replicate, List.append_nil, List.cons_append, List.nil_append, List.getElem?_cons_zero, List.getElem?_cons_succ, List.set_cons_zero, List.set_cons_succ, R.bind_ok, R.bind_ex, R.bind_bad, R.noex_ok, if_true, if_false, Bool.false_eq_true, Bool.true_eq_false, ite_true, ite_false, reduceIte, Nat.reduceAdd, Nat.reduceSub, Nat.zero_add, Nat.sub_self, Nat.sub_zero, decide_true, decide_false, Bool.not_true, Bool.not_false, subD_ap, ltD_ap, leD_ap, gtD_ap, geD_ap, mulD_ap, modD_ap, divD_ap, powD_ap, tupK_ok, lstK_ok, methK_ok, tupG_ok, eqS_t, eqS_f, neS_t, neS_f, eqI_ap, neI_ap, inT_nil, inT_hit, inT_miss, ne_eq, not_false_eq_true, j2, d0, v18, t2 S' hS']⟩
        · have d0 : decide (s > 200) = false := decide_eq_false g0
          by_cases g1 : g > 1900
          · have d1 : decide (g > 1900) = true := decide_eq_true g1
            exact ⟨t, t1, by rw [hTL]; simp -implicitDefEqProofs +decide only [varF_ap, cF_ap, opF_ap, opK_ap, bF_ap, boolK_ap, andT_ap, andK_ap, orT_ap, orK_ap, notT_ap, notK_ap, yesT_ap, andV_ap, andVK_ap, orV_ap, orVK_ap, notV_ap, notVK_ap, ifF_ap, ifFK_ap, nilA_ap, consA_ap, consK_ap, consJ_ap, tupA_ap, lstA_ap, newO_ap, dicF_ap, callF_ap, un1_ap, methF_ap, nonO_ap, someO_ap, someK_ap, slF_ap, slK_ap, slJ_ap, itF_ap, itA_ap, nilS_ap, bkS_ap, ctS_ap, seqS_ap, seqK_nx, seqK_rt, seqK_bk, seqK_ct, dropS_ap, dropK_ap, retS_ap, retK_ap, retN_ap, ifS_ap, ifK_ap, setS_ap, setK_ap, asgS_ap, asgK_ap, asgJ_ap, nameG_ap, nilG_ap, consG_ap, consGK_ap, fnF_ap, fnK_nx, fnK_rt, forS_ap, forK_ap, negD_ap, addI_ap, varK_ap, startE, yes2, isN, List.map_cons, List.map_nil, List.length_cons, List.length_nil, List.replicate, List.append_nil, List.cons_append, List.nil_append, List.getElem?_cons_zero, List.getElem?_cons_succ, List.set_cons_zero, List.set_cons_succ, R.bind_ok, R.bind_ex, R.bind_bad, R.noex_ok, if_true, if_false, Bool.false_eq_true, Bool.true_eq_false, ite_true, ite_false, reduceIte, Nat.reduceAdd, Nat.reduceSub, Nat.zero_add, Nat.sub_self, Nat.sub_zero, decide_true, decide_false, Bool.not_true, Bool.not_false, subD_ap, ltD_ap, leD_ap, gtD_ap, geD_ap, mulD_ap, modD_ap, divD_ap, powD_ap, tupK_ok, lstK_ok, methK_ok, tupG_ok, eqS_t, eqS_f, neS_t, neS_f, eqI_ap, neI_ap, inT_nil, inT_hit, inT_miss, ne_eq, not_false_eq_true, j2, d0, j3, j4, d1, v18, t2 S' hS']⟩
          · have d1 : decide (g > 1900) = false := decide_eq_false g1
            by_cases g2 : q' > 26
            · have d2 : decide (q' > 26) = true := decide_eq_true g2
              exact ⟨t, t1, by rw [hTL]; simp -implicitDefEqProofs +decide only [varF_ap, cF_ap, opF_ap, opK_ap, bF_ap, boolK_ap, andT_ap, andK_ap, orT_ap, orK_ap, notT_ap, notK_ap, yesT_ap, andV_ap, andVK_ap, orV_ap, orVK_ap, notV_ap, notVK_ap, ifF_ap, ifFK_ap, nilA_ap, consA_ap, consK_ap, consJ_ap, tupA_ap, lstA_ap, newO_ap, dicF_ap, callF_ap, un1_ap, methF_ap, nonO_ap, someO_ap, someK_ap, slF_ap, slK_ap, slJ_ap, itF_ap, itA_ap, nilS_ap, bkS_ap, ctS_ap, seqS_ap, seqK_nx, seqK_rt, seqK_bk, seqK_ct, dropS_ap, dropK_ap, retS_ap, retK_ap, retN_ap, ifS_ap, ifK_ap, setS_ap, setK_ap, asgS_ap, asgK_ap, asgJ_ap, nameG_ap, nilG_ap, consG_ap, consGK_ap, fnF_ap, fnK_nx, fnK_rt, forS_ap, forK_ap, negD_ap, addI_ap, varK_ap, startE, yes2, isN, List.map_cons, List.map_nil, List.length_cons, List.length_nil, List.replicate, List.append_nil, List.cons_append, List.nil_append, List.getElem?_cons_zero, List.getElem?_cons_succ, List.set_cons_zero, List.set_cons_succ, R.bind_ok, R.bind_ex, R.bind_bad, R.noex_ok, if_true, if_false, Bool.false_eq_true, Bool.true_eq_false, ite_true, ite_false, reduceIte, Nat.reduceAdd, Nat.reduceSub, Nat.zero_add, Nat.sub_self, Nat.sub_zero, decide_true, decide_false, Bool.not_true, Bool.not_false, subD_ap, ltD_ap, leD_ap, gtD_ap, geD_ap, mulD_ap, modD_ap, divD_ap, powD_ap, tupK_ok, lstK_ok, methK_ok, tupG_ok, eqS_t, eqS_f, neS_t, neS_f, eqI_ap, neI_ap, inT_nil, inT_hit, inT_miss, ne_eq, not_false_eq_true, j2, d0, j3, j4, d1, d2, v18, t2 S' hS']⟩
            · have d2 : decide (q' > 26) = false := decide_eq_false g2
              exact ⟨now, ⟨v, w, s, g, q', dp, hnow, by omega, by omega, hq', b1, b2, b3⟩, by rw [hTL]; simp -implicitDefEqProofs +decide only [varF_ap, cF_ap, opF_ap, opK_ap, bF_ap, boolK_ap, andT_ap, andK_ap, orT_ap, orK_ap, notT_ap, notK_ap, yesT_ap, andV_ap, andVK_ap, orV_ap, orVK_ap, notV_ap, notVK_ap, ifF_ap, ifFK_ap, nilA_ap, consA_ap, consK_ap, consJ_ap, tupA_ap, lstA_ap, newO_ap, dicF_ap, callF_ap, un1_ap, methF_ap, nonO_ap, someO_ap, someK_ap, slF_ap, slK_ap, slJ_ap, itF_ap, itA_ap, nilS_ap, bkS_ap, ctS_ap, seqS_ap, seqK_nx, seqK_rt, seqK_bk, seqK_ct, dropS_ap, dropK_ap, retS_ap, retK_ap, retN_ap, ifS_ap, ifK_ap, setS_ap, setK_ap, asgS_ap, asgK_ap, asgJ_ap, nameG_ap, nilG_ap, consG_ap, consGK_ap, fnF_ap, fnK_nx, fnK_rt, forS_ap, forK_ap, negD_ap, addI_ap, varK_ap, startE, yes2, isN, List.map_cons, List.map_nil, List.length_cons, List.length_nil, List.replicate, List.append_nil, List.cons_append, List.nil_append, List.getElem?_cons_zero, List.getElem?_cons_succ, List.set_cons_zero, List.set_cons_succ, R.bind_ok, R.bind_ex, R.bind_bad, R.noex_ok, if_true, if_false, Bool.false_eq_true, Bool.true_eq_false, ite_true, ite_false, reduceIte, Nat.reduceAdd, Nat.reduceSub, Nat.zero_add, Nat.sub_self, Nat.sub_zero, decide_true, decide_false, Bool.not_true, Bool.not_false, subD_ap, ltD_ap, leD_ap, gtD_ap, geD_ap, mulD_ap, modD_ap, divD_ap, powD_ap, tupK_ok, lstK_ok, methK_ok, tupG_ok, eqS_t, eqS_f, neS_t, neS_f, eqI_ap, neI_ap, inT_nil, inT_hit, inT_miss, ne_eq, not_false_eq_true, j2, d0, j3, j4, d1, d2]⟩
      by_cases hc2 : c % 18 < 2
      · have d : decide (c % 18 < 2) = true := decide_eq_true hc2
        obtain ⟨now', k1, k2⟩ := tail t now S LS t1.en
        exact ⟨_, _, _, S, rfl, by simp -implicitDefEqProofs +decide only [varF_ap, cF_ap, opF_ap, opK_ap, bF_ap, boolK_ap, andT_ap, andK_ap, orT_ap, orK_ap, notT_ap, notK_ap, yesT_ap, andV_ap, andVK_ap, orV_ap, orVK_ap, notV_ap, notVK_ap, ifF_ap, ifFK_ap, nilA_ap, consA_ap, consK_ap, consJ_ap, tupA_ap, lstA_ap, newO_ap, dicF_ap, callF_ap, un1_ap, methF_ap, nonO_ap, someO_ap, someK_ap, slF_ap, slK_ap, slJ_ap, itF_ap, itA_ap, nilS_ap, bkS_ap, ctS_ap, seqS_ap, seqK_nx, seqK_rt, seqK_bk, seqK_ct, dropS_ap, dropK_ap, retS_ap, retK_ap, retN_ap, ifS_ap, ifK_ap, setS_ap, setK_ap, asgS_ap, asgK_ap, asgJ_ap, nameG_ap, nilG_ap, consG_ap, consGK_ap, fnF_ap, fnK_nx, fnK_rt, forS_ap, forK_ap, negD_ap, addI_ap, varK_ap, startE, yes2, isN, List.map_cons, List.map_nil, List.length_cons, List.length_nil, List.replicate, List.append_nil, List.cons_append, List.nil_append, List.getElem?_cons_zero, List.getElem?_cons_succ, List.set_cons_zero, List.set_cons_succ, R.bind_ok, R.bind_ex, R.bind_bad, R.noex_ok, if_true, if_false, Bool.false_eq_true, Bool.true_eq_false, ite_true, ite_false, reduceIte, Nat.reduceAdd, Nat.reduceSub, Nat.zero_add, Nat.sub_self, Nat.sub_zero, decide_true, decide_false, Bool.not_true, Bool.not_false, subD_ap, ltD_ap, leD_ap, gtD_ap, geD_ap, mulD_ap, modD_ap, divD_ap, powD_ap, tupK_ok, lstK_ok, methK_ok, tupG_ok, eqS_t, eqS_f, neS_t, neS_f, eqI_ap, neI_ap, inT_nil, inT_hit, inT_miss, ne_eq, not_false_eq_true, l1e, ic, d, v18, t2 S LS, k2], now', now, some (.int ((6 + i : Nat) : Int)), some (.int c), rfl, LS, k1, kn⟩
      · have d : decide (c % 18 < 2) = false := decide_eq_false hc2
        obtain ⟨x, da, ha⟩ := kn.en
        obtain ⟨y, db, hb⟩ := kk.en
        have fresh := fresh_ok (S := S) (r := r) (n0 := n0) (ns := [n1, n2, n3]) (k := 6 + i) (by rw [← hns]; exact LS.listAt g4) (by rw [(hN n0 hn0).len]; omega)
        have mx := mixed_ok (c := 64 * c + ((6 + i : Nat) : Int)) (st := S)
        obtain ⟨kn1, kn2⟩ := keys_ne (k := 6 + i) hN hn0
        have l2 : (fr n0 (6 + i)).length ≤ 100 := by rw [fr_len, (hN n0 hn0).len]; omega
        have nei : fr n0 (6 + i) ≠ fr n0 (6 + i) ++ "i" := ne_len (by rw [fr_len, fri_len]; omega)
        obtain ⟨w', dz, e, S', x1, x2, x3⟩ := next_ok (n := mixed (64 * c + ((6 + i : Nat) : Int))) (st := S) (by omega : 2 ≤ c % 18) ha hb nei l2 (fun w h => by rw [hNd] at h; exact kn1 _ h rfl) (fun w h => by rw [hNd] at h; exact kn2 _ h rfl)
        obtain ⟨now', k1, k2⟩ := tail e kept S' (LS.trans x2) ⟨w', dz, x3⟩
        exact ⟨_, _, _, S', rfl, by simp -implicitDefEqProofs +decide only [varF_ap, cF_ap, opF_ap, opK_ap, bF_ap, boolK_ap, andT_ap, andK_ap, orT_ap, orK_ap, notT_ap, notK_ap, yesT_ap, andV_ap, andVK_ap, orV_ap, orVK_ap, notV_ap, notVK_ap, ifF_ap, ifFK_ap, nilA_ap, consA_ap, consK_ap, consJ_ap, tupA_ap, lstA_ap, newO_ap, dicF_ap, callF_ap, un1_ap, methF_ap, nonO_ap, someO_ap, someK_ap, slF_ap, slK_ap, slJ_ap, itF_ap, itA_ap, nilS_ap, bkS_ap, ctS_ap, seqS_ap, seqK_nx, seqK_rt, seqK_bk, seqK_ct, dropS_ap, dropK_ap, retS_ap, retK_ap, retN_ap, ifS_ap, ifK_ap, setS_ap, setK_ap, asgS_ap, asgK_ap, asgJ_ap, nameG_ap, nilG_ap, consG_ap, consGK_ap, fnF_ap, fnK_nx, fnK_rt, forS_ap, forK_ap, negD_ap, addI_ap, varK_ap, startE, yes2, isN, List.map_cons, List.map_nil, List.length_cons, List.length_nil, List.replicate, List.append_nil, List.cons_append, List.nil_append, List.getElem?_cons_zero, List.getElem?_cons_succ, List.set_cons_zero, List.set_cons_succ, R.bind_ok, R.bind_ex, R.bind_bad, R.noex_ok, if_true, if_false, Bool.false_eq_true, Bool.true_eq_false, ite_true, ite_false, reduceIte, Nat.reduceAdd, Nat.reduceSub, Nat.zero_add, Nat.sub_self, Nat.sub_zero, decide_true, decide_false, Bool.not_true, Bool.not_false, subD_ap, ltD_ap, leD_ap, gtD_ap, geD_ap, mulD_ap, modD_ap, divD_ap, powD_ap, tupK_ok, lstK_ok, methK_ok, tupG_ok, eqS_t, eqS_f, neS_t, neS_f, eqI_ap, neI_ap, inT_nil, inT_hit, inT_miss, ne_eq, not_false_eq_true, l1e, ic, d, r64, mx, fresh, x1, k2], now', kept, some (.int ((6 + i : Nat) : Int)), some (.int c), rfl, LS.trans x2, k1, kk⟩
  -- the names swapped
  have gw6 : T6[T1.length + 1]? = some (.dic W) := L6.get gw4
  have g6 : listAt T6 r = some (ns.map .str) := L6.listAt g4
  obtain ⟨k0, q0, q0l⟩ := hW4.2.2 0 n0 (by decide) (by rw [hns]; rfl)
  obtain ⟨k1, q1', q1l⟩ := hW4.2.2 1 n1 (by decide) (by rw [hns]; rfl)
  obtain ⟨U1, hU1⟩ : ∃ U, U = T6 ++ [VL.O.dic W] := ⟨_, rfl⟩
  obtain ⟨Wa, hWa⟩ : ∃ V, V = dput W (.str n0) (.int (k1 : Nat)) := ⟨_, rfl⟩
  obtain ⟨Wb, hWb⟩ : ∃ V, V = dput Wa (.str n1) (.int (k0 : Nat)) := ⟨_, rfl⟩
  obtain ⟨U2, hU2⟩ : ∃ U, U = T6 ++ [VL.O.dic Wa] := ⟨_, rfl⟩
  obtain ⟨U3, hU3⟩ : ∃ U, U = T6 ++ [VL.O.dic Wb] := ⟨_, rfl⟩
  have d1 : dictD [.ref (T1.length + 1)] T6 = .ok (.ref T6.length) U1 := by rw [hU1]; exact dict_at ⟨gw6, hW4.1⟩
  have LU : ∀ V, Le T6 (T6 ++ [VL.O.dic V]) := fun V => Le.app _ _
  have nx : ∀ (j : Nat) (s : Str), ns[j]? = some s → ∀ V, ixD (.ref r) (.int (j : Nat)) (T6 ++ [VL.O.dic V]) = .ok (.str s) (T6 ++ [VL.O.dic V]) := fun j s h V => ixD_list ((LU V).listAt g6) (by rw [List.getElem?_map, h]; rfl)
  have nx0 : ∀ V, ixD (.ref r) (.int 0) (T6 ++ [VL.O.dic V]) = .ok (.str n0) (T6 ++ [VL.O.dic V]) := fun V => nx 0 n0 (by rw [hns]; rfl) V
  have nx1 : ∀ V, ixD (.ref r) (.int 1) (T6 ++ [VL.O.dic V]) = .ok (.str n1) (T6 ++ [VL.O.dic V]) := fun V => nx 1 n1 (by rw [hns]; rfl) V
  have dxx : ∀ (s : Str) (d : VL.D), dget W (.str s) = some d → ∀ V, dixD (.ref (T1.length + 1)) (.str s) (T6 ++ [VL.O.dic V]) = .ok d (T6 ++ [VL.O.dic V]) := fun s d h V => dix_at ⟨(LU V).get gw6, hW4.1⟩ h
  have okA : keysOk Wa = true := hWa ▸ keysOk_put hW4.1
  have okB : keysOk Wb = true := hWb ▸ keysOk_put okA
  have lA : Wa.length ≤ 5 := by have := dput_len (W := W) (s := n0) (v := .int (k1 : Nat)); rw [← hWa] at this; have := hW4.2.1; omega
  have lB : Wb.length ≤ 6 := by have := dput_len (W := Wa) (s := n1) (v := .int (k0 : Nat)); rw [← hWb] at this; omega
  have dp1 : dputS (opF dixD (varF 3) (opF ixD (varF 1) (cF (.int 1)))) (varF 12) (opF ixD (varF 1) (cF (.int 0))) [some (.ref 0), some (.ref r), some (.ref T1.length), some (.ref (T1.length + 1)), some (.ref (T1.length + 2)), some q, z6, z7, some now, some kept, e10, e11, some (.ref T6.length), none, none, none, none] U1 = .ok (.nx [some (.ref 0), some (.ref r), some (.ref T1.length), some (.ref (T1.length + 1)), some (.ref (T1.length + 2)), some q, z6, z7, some now, some kept, e10, e11, some (.ref T6.length), none, none, none, none]) U2 := by
    rw [hU1, hU2]
    have := dputS_ap (fv := opF dixD (varF 3) (opF ixD (varF 1) (cF (.int 1)))) (fo := varF 12) (fk := opF ixD (varF 1) (cF (.int 0))) (env := [some (.ref 0), some (.ref r), some (.ref T1.length), some (.ref (T1.length + 1)), some (.ref (T1.length + 2)), some q, z6, z7, some now, some kept, e10, e11, some (.ref T6.length), none, none, none, none]) (st := T6 ++ [VL.O.dic W]) (v := .int (k1 : Nat)) (k := n0) (n := T6.length) (s1 := T6 ++ [VL.O.dic W]) (s2 := T6 ++ [VL.O.dic W]) (s3 := T6 ++ [VL.O.dic W]) (by have a := nx1 W; have b := dxx n1 _ q1' W; simp -implicitDefEqProofs +decide only [varF_ap, cF_ap, opF_ap, opK_ap, bF_ap, boolK_ap, andT_ap, andK_ap, orT_ap, orK_ap, notT_ap, notK_ap, yesT_ap, andV_ap, andVK_ap, orV_ap, orVK_ap, notV_ap, notVK_ap, ifF_ap, ifFK_ap, nilA_ap, consA_ap, consK_ap, consJ_ap, tupA_ap, lstA_ap, newO_ap, dicF_ap, callF_ap, un1_ap, methF_ap, nonO_ap, someO_ap, someK_ap, slF_ap, slK_ap, slJ_ap, itF_ap, itA_ap, nilS_ap, bkS_ap, ctS_ap, seqS_ap, seqK_nx, seqK_rt, seqK_bk, seqK_ct, dropS_ap, dropK_ap, retS_ap, retK_ap, retN_ap, ifS_ap, ifK_ap, setS_ap, setK_ap, asgS_ap, asgK_ap, asgJ_ap, nameG_ap, nilG_ap, consG_ap, consGK_ap, fnF_ap, fnK_nx, fnK_rt, forS_ap, forK_ap, negD_ap, addI_ap, varK_ap, startE, yes2, isN, List.map_cons, List.map_nil, List.length_cons, List.length_nil, List.replicate, List.append_nil, List.cons_append, List.nil_append, List.getElem?_cons_zero, List.getElem?_cons_succ, List.set_cons_zero, List.set_cons_succ, R.bind_ok, R.bind_ex, R.bind_bad, R.noex_ok, if_true, if_false, Bool.false_eq_true, Bool.true_eq_false, ite_true, ite_false, reduceIte, Nat.reduceAdd, Nat.reduceSub, Nat.zero_add, Nat.sub_self, Nat.sub_zero, decide_true, decide_false, Bool.not_true, Bool.not_false, subD_ap, ltD_ap, leD_ap, gtD_ap, geD_ap, mulD_ap, modD_ap, divD_ap, powD_ap, tupK_ok, lstK_ok, methK_ok, tupG_ok, eqS_t, eqS_f, neS_t, neS_f, eqI_ap, neI_ap, inT_nil, inT_hit, inT_miss, ne_eq, not_false_eq_true, a, b]) (by simp -implicitDefEqProofs +decide only [varF_ap, cF_ap, opF_ap, opK_ap, bF_ap, boolK_ap, andT_ap, andK_ap, orT_ap, orK_ap, notT_ap, notK_ap, yesT_ap, andV_ap, andVK_ap, orV_ap, orVK_ap, notV_ap, notVK_ap, ifF_ap, ifFK_ap, nilA_ap, consA_ap, consK_ap, consJ_ap, tupA_ap, lstA_ap, newO_ap, dicF_ap, callF_ap, un1_ap, methF_ap, nonO_ap, someO_ap, someK_ap, slF_ap, slK_ap, slJ_ap, itF_ap, itA_ap, nilS_ap, bkS_ap, ctS_ap, seqS_ap, seqK_nx, seqK_rt, seqK_bk, seqK_ct, dropS_ap, dropK_ap, retS_ap, retK_ap, retN_ap, ifS_ap, ifK_ap, setS_ap, setK_ap, asgS_ap, asgK_ap, asgJ_ap, nameG_ap, nilG_ap, consG_ap, consGK_ap, fnF_ap, fnK_nx, fnK_rt, forS_ap, forK_ap, negD_ap, addI_ap, varK_ap, startE, yes2, isN, List.map_cons, List.map_nil, List.length_cons, List.length_nil, List.replicate, List.append_nil, List.cons_append, List.nil_append, List.getElem?_cons_zero, List.getElem?_cons_succ, List.set_cons_zero, List.set_cons_succ, R.bind_ok, R.bind_ex, R.bind_bad, R.noex_ok, if_true, if_false, Bool.false_eq_true, Bool.true_eq_false, ite_true, ite_false, reduceIte, Nat.reduceAdd, Nat.reduceSub, Nat.zero_add, Nat.sub_self, Nat.sub_zero, decide_true, decide_false, Bool.not_true, Bool.not_false, subD_ap, ltD_ap, leD_ap, gtD_ap, geD_ap, mulD_ap, modD_ap, divD_ap, powD_ap, tupK_ok, lstK_ok, methK_ok, tupG_ok, eqS_t, eqS_f, neS_t, neS_f, eqI_ap, neI_ap, inT_nil, inT_hit, inT_miss, ne_eq, not_false_eq_true]) (by have a := nx0 W; simp -implicitDefEqProofs +decide only [varF_ap, cF_ap, opF_ap, opK_ap, bF_ap, boolK_ap, andT_ap, andK_ap, orT_ap, orK_ap, notT_ap, notK_ap, yesT_ap, andV_ap, andVK_ap, orV_ap, orVK_ap, notV_ap, notVK_ap, ifF_ap, ifFK_ap, nilA_ap, consA_ap, consK_ap, consJ_ap, tupA_ap, lstA_ap, newO_ap, dicF_ap, callF_ap, un1_ap, methF_ap, nonO_ap, someO_ap, someK_ap, slF_ap, slK_ap, slJ_ap, itF_ap, itA_ap, nilS_ap, bkS_ap, ctS_ap, seqS_ap, seqK_nx, seqK_rt, seqK_bk, seqK_ct, dropS_ap, dropK_ap, retS_ap, retK_ap, retN_ap, ifS_ap, ifK_ap, setS_ap, setK_ap, asgS_ap, asgK_ap, asgJ_ap, nameG_ap, nilG_ap, consG_ap, consGK_ap, fnF_ap, fnK_nx, fnK_rt, forS_ap, forK_ap, negD_ap, addI_ap, varK_ap, startE, yes2, isN, List.map_cons, List.map_nil, List.length_cons, List.length_nil, List.replicate, List.append_nil, List.cons_append, List.nil_append, List.getElem?_cons_zero, List.getElem?_cons_succ, List.set_cons_zero, List.set_cons_succ, R.bind_ok, R.bind_ex, R.bind_bad, R.noex_ok, if_true, if_false, Bool.false_eq_true, Bool.true_eq_false, ite_true, ite_false, reduceIte, Nat.reduceAdd, Nat.reduceSub, Nat.zero_add, Nat.sub_self, Nat.sub_zero, decide_true, decide_false, Bool.not_true, Bool.not_false, subD_ap, ltD_ap, leD_ap, gtD_ap, geD_ap, mulD_ap, modD_ap, divD_ap, powD_ap, tupK_ok, lstK_ok, methK_ok, tupG_ok, eqS_t, eqS_f, neS_t, neS_f, eqI_ap, neI_ap, inT_nil, inT_hit, inT_miss, ne_eq, not_false_eq_true, a]) get_last hW4.1 (by have := hW4.2.1; rw [sizeLine_eq']; omega)
    rw [this, set_last, hWa]
  have dp2 : dputS (opF dixD (varF 3) (opF ixD (varF 1) (cF (.int 0)))) (varF 12) (opF ixD (varF 1) (cF (.int 1))) [some (.ref 0), some (.ref r), some (.ref T1.length), some (.ref (T1.length + 1)), some (.ref (T1.length + 2)), some q, z6, z7, some now, some kept, e10, e11, some (.ref T6.length), none, none, none, none] U2 = .ok (.nx [some (.ref 0), some (.ref r), some (.ref T1.length), some (.ref (T1.length + 1)), some (.ref (T1.length + 2)), some q, z6, z7, some now, some kept, e10, e11, some (.ref T6.length), none, none, none, none]) U3 := by
    rw [hU2, hU3]
    have := dputS_ap (fv := opF dixD (varF 3) (opF ixD (varF 1) (cF (.int 0)))) (fo := varF 12) (fk := opF ixD (varF 1) (cF (.int 1))) (env := [some (.ref 0), some (.ref r), some (.ref T1.length), some (.ref (T1.length + 1)), some (.ref (T1.length + 2)), some q, z6, z7, some now, some kept, e10, e11, some (.ref T6.length), none, none, none, none]) (st := T6 ++ [VL.O.dic Wa]) (v := .int (k0 : Nat)) (k := n1) (n := T6.length) (s1 := T6 ++ [VL.O.dic Wa]) (s2 := T6 ++ [VL.O.dic Wa]) (s3 := T6 ++ [VL.O.dic Wa]) (by have a := nx0 Wa; have b := dxx n0 _ q0 Wa; simp -implicitDefEqProofs +decide only [varF_ap, cF_ap, opF_ap, opK_ap, bF_ap, boolK_ap, andT_ap, andK_ap, orT_ap, orK_ap, notT_ap, notK_ap, yesT_ap, andV_ap, andVK_ap, orV_ap, orVK_ap, notV_ap, notVK_ap, ifF_ap, ifFK_ap, nilA_ap, consA_ap, consK_ap, consJ_ap, tupA_ap, lstA_ap, newO_ap, dicF_ap, callF_ap, un1_ap, methF_ap, nonO_ap, someO_ap, someK_ap, slF_ap, slK_ap, slJ_ap, itF_ap, itA_ap, nilS_ap, bkS_ap, ctS_ap, seqS_ap, seqK_nx, seqK_rt, seqK_bk, seqK_ct, dropS_ap, dropK_ap, retS_ap, retK_ap, retN_ap, ifS_ap, ifK_ap, setS_ap, setK_ap, asgS_ap, asgK_ap, asgJ_ap, nameG_ap, nilG_ap, consG_ap, consGK_ap, fnF_ap, fnK_nx, fnK_rt, forS_ap, forK_ap, negD_ap, addI_ap, varK_ap, startE, yes2, isN, List.map_cons, List.map_nil, List.length_cons, List.length_nil, List.replicate, List.append_nil, List.cons_append, List.nil_append, List.getElem?_cons_zero, List.getElem?_cons_succ, List.set_cons_zero, List.set_cons_succ, R.bind_ok, R.bind_ex, R.bind_bad, R.noex_ok, if_true, if_false, Bool.false_eq_true, Bool.true_eq_false, ite_true, ite_false, reduceIte, Nat.reduceAdd, Nat.reduceSub, Nat.zero_add, Nat.sub_self, Nat.sub_zero, decide_true, decide_false, Bool.not_true, Bool.not_false, subD_ap, ltD_ap, leD_ap, gtD_ap, geD_ap, mulD_ap, modD_ap, divD_ap, powD_ap, tupK_ok, lstK_ok, methK_ok, tupG_ok, eqS_t, eqS_f, neS_t, neS_f, eqI_ap, neI_ap, inT_nil, inT_hit, inT_miss, ne_eq, not_false_eq_true, a, b]) (by simp -implicitDefEqProofs +decide only [varF_ap, cF_ap, opF_ap, opK_ap, bF_ap, boolK_ap, andT_ap, andK_ap, orT_ap, orK_ap, notT_ap, notK_ap, yesT_ap, andV_ap, andVK_ap, orV_ap, orVK_ap, notV_ap, notVK_ap, ifF_ap, ifFK_ap, nilA_ap, consA_ap, consK_ap, consJ_ap, tupA_ap, lstA_ap, newO_ap, dicF_ap, callF_ap, un1_ap, methF_ap, nonO_ap, someO_ap, someK_ap, slF_ap, slK_ap, slJ_ap, itF_ap, itA_ap, nilS_ap, bkS_ap, ctS_ap, seqS_ap, seqK_nx, seqK_rt, seqK_bk, seqK_ct, dropS_ap, dropK_ap, retS_ap, retK_ap, retN_ap, ifS_ap, ifK_ap, setS_ap, setK_ap, asgS_ap, asgK_ap, asgJ_ap, nameG_ap, nilG_ap, consG_ap, consGK_ap, fnF_ap, fnK_nx, fnK_rt, forS_ap, forK_ap, negD_ap, addI_ap, varK_ap, startE, yes2, isN, List.map_cons, List.map_nil, List.length_cons, List.length_nil, List.replicate, List.append_nil, List.cons_append, List.nil_append, List.getElem?_cons_zero, List.getElem?_cons_succ, List.set_cons_zero, List.set_cons_succ, R.bind_ok, R.bind_ex, R.bind_bad, R.noex_ok, if_true, if_false, Bool.false_eq_true, Bool.true_eq_false, ite_true, ite_false, reduceIte, Nat.reduceAdd, Nat.reduceSub, Nat.zero_add, Nat.sub_self, Nat.sub_zero, decide_true, decide_false, Bool.not_true, Bool.not_false, subD_ap, ltD_ap, leD_ap, gtD_ap, geD_ap, mulD_ap, modD_ap, divD_ap, powD_ap, tupK_ok, lstK_ok, methK_ok, tupG_ok, eqS_t, eqS_f, neS_t, neS_f, eqI_ap, neI_ap, inT_nil, inT_hit, inT_miss, ne_eq, not_false_eq_true]) (by have a := nx1 Wa; simp -implicitDefEqProofs +decide only [varF_ap, cF_ap, opF_ap, opK_ap, bF_ap, boolK_ap, andT_ap, andK_ap, orT_ap, orK_ap, notT_ap, notK_ap, yesT_ap, andV_ap, andVK_ap, orV_ap, orVK_ap, notV_ap, notVK_ap, ifF_ap, ifFK_ap, nilA_ap, consA_ap, consK_ap, consJ_ap, tupA_ap, lstA_ap, newO_ap, dicF_ap, callF_ap, un1_ap, methF_ap, nonO_ap, someO_ap, someK_ap, slF_ap, slK_ap, slJ_ap, itF_ap, itA_ap, nilS_ap, bkS_ap, ctS_ap, seqS_ap, seqK_nx, seqK_rt, seqK_bk, seqK_ct, dropS_ap, dropK_ap, retS_ap, retK_ap, retN_ap, ifS_ap, ifK_ap, setS_ap, setK_ap, asgS_ap, asgK_ap, asgJ_ap, nameG_ap, nilG_ap, consG_ap, consGK_ap, fnF_ap, fnK_nx, fnK_rt, forS_ap, forK_ap, negD_ap, addI_ap, varK_ap, startE, yes2, isN, List.map_cons, List.map_nil, List.length_cons, List.length_nil, List.replicate, List.append_nil, List.cons_append, List.nil_append, List.getElem?_cons_zero, List.getElem?_cons_succ, List.set_cons_zero, List.set_cons_succ, R.bind_ok, R.bind_ex, R.bind_bad, R.noex_ok, if_true, if_false, Bool.false_eq_true, Bool.true_eq_false, ite_true, ite_false, reduceIte, Nat.reduceAdd, Nat.reduceSub, Nat.zero_add, Nat.sub_self, Nat.sub_zero, decide_true, decide_false, Bool.not_true, Bool.not_false, subD_ap, ltD_ap, leD_ap, gtD_ap, geD_ap, mulD_ap, modD_ap, divD_ap, powD_ap, tupK_ok, lstK_ok, methK_ok, tupG_ok, eqS_t, eqS_f, neS_t, neS_f, eqI_ap, neI_ap, inT_nil, inT_hit, inT_miss, ne_eq, not_false_eq_true, a]) get_last okA (by rw [sizeLine_eq']; omega)
    rw [this, set_last, hWb]
  have LU3 : Le T4 U3 := L6.trans (hU3 ▸ Le.app _ _)
  have cW : ∀ m, Z.L.length ≤ m → Cov N W m := fun m hm n x hn => by
    rw [hNd] at hn
    obtain ⟨j, hj⟩ := List.getElem?_of_mem hn
    obtain ⟨k, e1, e2⟩ := hW4.2.2 j n (by have := (List.getElem?_eq_some_iff.mp hj).1; omega) hj
    exact ⟨k, e1, by omega⟩
  have cB : ∀ m, Z.L.length ≤ m → Cov N Wb m := fun m hm n x hn => by
    obtain ⟨k, e1, e2⟩ := cW m hm n x hn
    rw [hWb, dget_dput]
    split
    · exact ⟨k0, rfl, by omega⟩
    · rw [hWa, dget_dput]
      split
      · exact ⟨k1, rfl, by omega⟩
      · exact ⟨k, e1, e2⟩
  -- the five layings
  obtain ⟨xs, hxs⟩ : ∃ xs, xs = [VL.D.tup [kept, .ref (T1.length + 1)], .tup [now, .ref (T1.length + 1)], .tup [now, .ref T6.length], .tup [kept, .ref T6.length], .tup [now, .ref (T1.length + 1)]] := ⟨_, rfl⟩
  obtain ⟨U4, hU4⟩ : ∃ U, U = U3 ++ [VL.O.lst xs] := ⟨_, rfl⟩
  have LU4 : Le T4 U4 := LU3.trans (hU4 ▸ Le.app _ _)
  have i4 : itD (.ref U3.length) U4 = .ok (xs, chkAt U4 U3.length) U4 := itD_list (by rw [hU4]; exact listAt_last)
  have gU4 : U4[U3.length]? = some (.lst xs) := hU4 ▸ get_last
  have l36 : T6.length < U3.length := by rw [hU3, List.length_append]; exact Nat.lt_succ_self _
  have l46 : T4.length ≤ T6.length := L6.len
  have q4l := (at_lt at4)
  have turn : ∀ i x env S, xs[i]? = some x → (∃ e13 e14 e15 e16 Y, env = [some (.ref 0), some (.ref r), some (.ref T1.length), some (.ref (T1.length + 1)), some (.ref (T1.length + 2)), some q, z6, z7, some now, some kept, e10, e11, some (.ref T6.length), e13, e14, e15, e16] ∧ Kp [T1.length + 3, T1.length + 4, T1.length + 5, T1.length + 6, T1.length + 7, T1.length + 8] U4 S ∧ Nt (T1.length + 2) (T1.length + 3) (T1.length + 4) (T1.length + 5) Y S ∧ At (T1.length + 7) (T1.length + 8) (T1.length + 6) Y S ∧ OkS Y ∧ Z.L.length ≤ Y.L.length ∧ Y.L.length ≤ 4 + 200 * i) →
      ∃ e s1 e' s', tupG 2 (consG (nameG 13) (consG (nameG 14) nilG)) x env S = .ok e s1 ∧ l2_law e s1 = .ok (.nx e') s' ∧ (∃ e13 e14 e15 e16 Y, e' = [some (.ref 0), some (.ref r), some (.ref T1.length), some (.ref (T1.length + 1)), some (.ref (T1.length + 2)), some q, z6, z7, some now, some kept, e10, e11, some (.ref T6.length), e13, e14, e15, e16] ∧ Kp [T1.length + 3, T1.length + 4, T1.length + 5, T1.length + 6, T1.length + 7, T1.length + 8] U4 s' ∧ Nt (T1.length + 2) (T1.length + 3) (T1.length + 4) (T1.length + 5) Y s' ∧ At (T1.length + 7) (T1.length + 8) (T1.length + 6) Y s' ∧ OkS Y ∧ Z.L.length ≤ Y.L.length ∧ Y.L.length ≤ 4 + 200 * (i + 1)) := by
    intro i x env S hi ⟨e13, e14, e15, e16, Y, he, kp, nt, at_, ok, hYZ, hY⟩
    subst he
    have hi5 : i < 5 := by have := (List.getElem?_eq_some_iff.mp hi).1; rw [hxs] at this; exact this
    obtain ⟨made, d, V, rfl, te, dc, cov, lV, dn⟩ : ∃ made d V, x = .tup [made, .ref d] ∧ TE N made ∧ Dc d V S ∧ Cov N V Y.L.length ∧ V.length ≤ 6 ∧ d ∉ [T1.length + 3, T1.length + 4, T1.length + 5, T1.length + 6, T1.length + 7, T1.length + 8] := by
      have hd1 : Dc (T1.length + 1) W S := ⟨kp _ _ (by simp) (hU4 ▸ (Le.app _ _).get (hU3 ▸ (Le.app _ _).get gw6)), hW4.1⟩
      have n2 : T6.length ∉ [T1.length + 3, T1.length + 4, T1.length + 5, T1.length + 6, T1.length + 7, T1.length + 8] := by simp; omega
      have hd2 : Dc T6.length Wb S := ⟨kp _ _ n2 (hU4 ▸ (Le.app _ _).get (hU3 ▸ get_last)), okB⟩
      have n1 : T1.length + 1 ∉ [T1.length + 3, T1.length + 4, T1.length + 5, T1.length + 6, T1.length + 7, T1.length + 8] := by simp
      have lW : W.length ≤ 6 := by have := hW4.2.1; omega
      have hx := List.mem_of_getElem? hi
      rw [hxs] at hx
      simp only [List.mem_cons, List.not_mem_nil, or_false] at hx
      rcases hx with rfl | rfl | rfl | rfl | rfl
      · exact ⟨_, _, W, rfl, kk, hd1, cW _ hYZ, lW, n1⟩
      · exact ⟨_, _, W, rfl, kn, hd1, cW _ hYZ, lW, n1⟩
      · exact ⟨_, _, Wb, rfl, kn, hd2, cB _ hYZ, lB, n2⟩
      · exact ⟨_, _, Wb, rfl, kk, hd2, cB _ hYZ, lB, n2⟩
      · exact ⟨_, _, W, rfl, kn, hd1, cW _ hYZ, lW, n1⟩
    obtain ⟨v, w, s, g, q', dp, rfl, hdp, hs2, hq', b1, b2, b3⟩ := te
    obtain ⟨k, Y', hL, hc⟩ := b3.lay cov
    obtain ⟨fL, fk, fo⟩ := hL.facts
    obtain ⟨Sa, hSa⟩ : ∃ U, U = S ++ [VL.O.dic V] := ⟨_, rfl⟩
    have dd : dictD [.ref d] S = .ok (.ref S.length) Sa := by rw [hSa]; exact dict_at dc
    have ka : ∀ ms, Kp ms S Sa := fun ms => Kp.le (hSa ▸ Le.app _ _)
    obtain ⟨aa, ab, ac⟩ := nt_lt nt
    obtain ⟨Sb, y1, nt1, kp1⟩ := lay_ok hL (F := 80) (r := S.length) (nt.kp (ka _)) (by omega) ok (by rw [sizeLine_eq']; omega) ⟨hSa ▸ get_last, dc.ok⟩ (by omega) (by omega) (by omega)
    have at1 : At (T1.length + 7) (T1.length + 8) (T1.length + 6) Y Sb := (at_.kp0 (ka _)).kp kp1 (by simp) (by simp) (by simp)
    have dn' := dn
    simp only [List.mem_cons, List.not_mem_nil, or_false, not_or] at dn'
    have dc1 : Dc d V Sb := (dc.kp (ka []) (by simp)).kp kp1 (by simp; omega)
    obtain ⟨Sc, y2, at2, kp2⟩ := laid_ok hL (F := 80) (r := d) at1 (by omega) ok (by rw [sizeLine_eq']; omega) dc1 (by omega) (by omega) (by omega)
    rw [← hq] at y2
    have nt2 : Nt (T1.length + 2) (T1.length + 3) (T1.length + 4) (T1.length + 5) Y' Sc := ⟨kp2 _ _ (by simp) nt1.net, nt1.at_.kp kp2 (by simp) (by simp) (by simp)⟩
    obtain ⟨f1, _, _⟩ := net_fld nt2.net
    obtain ⟨Sd, hSd⟩ : ∃ U, U = Sc ++ [VL.O.lst Y'.L] := ⟨_, rfl⟩
    have ll : listD [.ref (T1.length + 3)] Sc = .ok (.ref Sc.length) Sd := by simp only [listD, listAt_lst nt2.at_.l, hSd]; rfl
    have nodes : f_Net_nodes [.ref (T1.length + 2)] Sc = .ok (.ref Sc.length) Sd := by simp -implicitDefEqProofs +decide only [varF_ap, cF_ap, opF_ap, opK_ap, bF_ap, boolK_ap, andT_ap, andK_ap, orT_ap, orK_ap, notT_ap, notK_ap, yesT_ap, andV_ap, andVK_ap, orV_ap, orVK_ap, notV_ap, notVK_ap, ifF_ap, ifFK_ap, nilA_ap, consA_ap, consK_ap, consJ_ap, tupA_ap, lstA_ap, newO_ap, dicF_ap, callF_ap, un1_ap, methF_ap, nonO_ap, someO_ap, someK_ap, slF_ap, slK_ap, slJ_ap, itF_ap, itA_ap, nilS_ap, bkS_ap, ctS_ap, seqS_ap, seqK_nx, seqK_rt, seqK_bk, seqK_ct, dropS_ap, dropK_ap, retS_ap, retK_ap, retN_ap, ifS_ap, ifK_ap, setS_ap, setK_ap, asgS_ap, asgK_ap, asgJ_ap, nameG_ap, nilG_ap, consG_ap, consGK_ap, fnF_ap, fnK_nx, fnK_rt, forS_ap, forK_ap, negD_ap, addI_ap, varK_ap, startE, yes2, isN, List.map_cons, List.map_nil, List.length_cons, List.length_nil, List.replicate, List.append_nil, List.cons_append, List.nil_append, List.getElem?_cons_zero, List.getElem?_cons_succ, List.set_cons_zero, List.set_cons_succ, R.bind_ok, R.bind_ex, R.bind_bad, R.noex_ok, if_true, if_false, Bool.false_eq_true, Bool.true_eq_false, ite_true, ite_false, reduceIte, Nat.reduceAdd, Nat.reduceSub, Nat.zero_add, Nat.sub_self, Nat.sub_zero, decide_true, decide_false, Bool.not_true, Bool.not_false, subD_ap, ltD_ap, leD_ap, gtD_ap, geD_ap, mulD_ap, modD_ap, divD_ap, powD_ap, tupK_ok, lstK_ok, methK_ok, tupG_ok, eqS_t, eqS_f, neS_t, neS_f, eqI_ap, neI_ap, inT_nil, inT_hit, inT_miss, ne_eq, not_false_eq_true, f_Net_nodes, b_Net_nodes, f1, ll]
    have kd : Le Sc Sd := hSd ▸ Le.app _ _
    obtain ⟨j, al⟩ := alike_list (d := 11) (m := Sc.length) (n := T1.length + 7) (st := Sd) (xs := Y'.L) (hSd ▸ listAt_last) (kd.listAt (listAt_lst at2.l)) (fun x hx => (((fo ok).pl x hx).1.up (by decide : 8 ≤ 11)).alike) (by omega)
    obtain ⟨Se, hSe⟩ : ∃ U, U = Sd ++ j := ⟨_, rfl⟩
    rw [← hSe] at al
    have ke : Le Sc Se := kd.trans (hSe ▸ Le.app _ _)
    have mL : ∀ {fa : AF} {env : EnvD}, methOK "Net" "lay" (f_Net_lay 80) fa env (.ref (T1.length + 2)) S = (fa env S).bind (fnC (f_Net_lay 80) (T1.length + 2)) := net_meth nt.net (by decide)
    have mN : ∀ {fa : AF} {env : EnvD}, methOK "Net" "nodes" f_Net_nodes fa env (.ref (T1.length + 2)) Sc = (fa env Sc).bind (fnC f_Net_nodes (T1.length + 2)) := net_meth nt2.net (by decide)
    have nei : neD (.int (k : Nat)) (.int (k : Nat)) Sc = .ok (.bl false) Sc := by rw [neI_ap, decide_eq_true rfl]; rfl
    have jq : ixD q (.int 1) Sd = .ok (.ref (T1.length + 7)) Sd := hq ▸ jx1
    have kk1 : ∀ {ms : List Nat} {a b : Sto}, Kp ms a b → (∀ i ∈ ms, i ∈ [T1.length + 3, T1.length + 4, T1.length + 5, T1.length + 6, T1.length + 7, T1.length + 8]) → Kp [T1.length + 3, T1.length + 4, T1.length + 5, T1.length + 6, T1.length + 7, T1.length + 8] a b := fun h k => h.sub k
    refine ⟨_, _, [some (.ref 0), some (.ref r), some (.ref T1.length), some (.ref (T1.length + 1)), some (.ref (T1.length + 2)), some q, z6, z7, some now, some kept, e10, e11, some (.ref T6.length), some (.tup [v, .int w, .int s, .int g, .int q']), some (.ref d), some (.int (k : Nat)), some (.int (k : Nat))], Se, rfl, ?_, _, _, _, _, Y', rfl, (((kp.trans (ka _)).trans (kk1 kp1 (by simp))).trans (kk1 kp2 (by simp))).trans (Kp.le ke), nt2.kp (Kp.le ke), at2.kp0 (Kp.le ke), fo ok, by have := fL.len; omega, by omega⟩
    simp -implicitDefEqProofs +decide only [varF_ap, cF_ap, opF_ap, opK_ap, bF_ap, boolK_ap, andT_ap, andK_ap, orT_ap, orK_ap, notT_ap, notK_ap, yesT_ap, andV_ap, andVK_ap, orV_ap, orVK_ap, notV_ap, notVK_ap, ifF_ap, ifFK_ap, nilA_ap, consA_ap, consK_ap, consJ_ap, tupA_ap, lstA_ap, newO_ap, dicF_ap, callF_ap, un1_ap, methF_ap, nonO_ap, someO_ap, someK_ap, slF_ap, slK_ap, slJ_ap, itF_ap, itA_ap, nilS_ap, bkS_ap, ctS_ap, seqS_ap, seqK_nx, seqK_rt, seqK_bk, seqK_ct, dropS_ap, dropK_ap, retS_ap, retK_ap, retN_ap, ifS_ap, ifK_ap, setS_ap, setK_ap, asgS_ap, asgK_ap, asgJ_ap, nameG_ap, nilG_ap, consG_ap, consGK_ap, fnF_ap, fnK_nx, fnK_rt, forS_ap, forK_ap, negD_ap, addI_ap, varK_ap, startE, yes2, isN, List.map_cons, List.map_nil, List.length_cons, List.length_nil, List.replicate, List.append_nil, List.cons_append, List.nil_append, List.getElem?_cons_zero, List.getElem?_cons_succ, List.set_cons_zero, List.set_cons_succ, R.bind_ok, R.bind_ex, R.bind_bad, R.noex_ok, if_true, if_false, Bool.false_eq_true, Bool.true_eq_false, ite_true, ite_false, reduceIte, Nat.reduceAdd, Nat.reduceSub, Nat.zero_add, Nat.sub_self, Nat.sub_zero, decide_true, decide_false, Bool.not_true, Bool.not_false, subD_ap, ltD_ap, leD_ap, gtD_ap, geD_ap, mulD_ap, modD_ap, divD_ap, powD_ap, tupK_ok, lstK_ok, methK_ok, tupG_ok, eqS_t, eqS_f, neS_t, neS_f, eqI_ap, neI_ap, inT_nil, inT_hit, inT_miss, ne_eq, not_false_eq_true, l2_law, methO_ap, fnC_ap, mL, jx0, dd, y1, y2, whole_int, nei, mN, nodes, jq, al]
  obtain ⟨e', T9, f9, e13, e14, e15, e16, Y, he, _⟩ := forL_inv (c := chkAt U4 U3.length) (gf := tupG 2 (consG (nameG 13) (consG (nameG 14) nilG))) (b := l2_law) (ds := xs) (env := [some (.ref 0), some (.ref r), some (.ref T1.length), some (.ref (T1.length + 1)), some (.ref (T1.length + 2)), some q, z6, z7, some now, some kept, e10, e11, some (.ref T6.length), none, none, none, none]) (st := U4) _
    ⟨none, none, none, none, Z, rfl, Kp.refl _, nt4.kp (Kp.le LU4), at4.kp0 (Kp.le LU4), ok4, Nat.le_refl _, by omega⟩ (fun i env S h => by
      obtain ⟨_, _, _, _, _, _, kp, _⟩ := h
      exact chkAt_ok gU4 (kp _ _ (by simp; omega) gU4)) turn
  subst he
  have ix5 := n2' T4 (Le.refl _)
  have ix6 := p2 T4 (Le.refl _)
  have pU4 : U3 ++ [VL.O.lst [VL.D.tup [kept, .ref (T1.length + 1)], .tup [now, .ref (T1.length + 1)], .tup [now, .ref T6.length], .tup [kept, .ref T6.length], .tup [now, .ref (T1.length + 1)]]] = U4 := by rw [hU4, hxs]
  have hq' := hq.symm
  exact ⟨T9, by simp -implicitDefEqProofs +decide only [varF_ap, cF_ap, opF_ap, opK_ap, bF_ap, boolK_ap, andT_ap, andK_ap, orT_ap, orK_ap, notT_ap, notK_ap, yesT_ap, andV_ap, andVK_ap, orV_ap, orVK_ap, notV_ap, notVK_ap, ifF_ap, ifFK_ap, nilA_ap, consA_ap, consK_ap, consJ_ap, tupA_ap, lstA_ap, newO_ap, dicF_ap, callF_ap, un1_ap, methF_ap, nonO_ap, someO_ap, someK_ap, slF_ap, slK_ap, slJ_ap, itF_ap, itA_ap, nilS_ap, bkS_ap, ctS_ap, seqS_ap, seqK_nx, seqK_rt, seqK_bk, seqK_ct, dropS_ap, dropK_ap, retS_ap, retK_ap, retN_ap, ifS_ap, ifK_ap, setS_ap, setK_ap, asgS_ap, asgK_ap, asgJ_ap, nameG_ap, nilG_ap, consG_ap, consGK_ap, fnF_ap, fnK_nx, fnK_rt, forS_ap, forK_ap, negD_ap, addI_ap, varK_ap, startE, yes2, isN, List.map_cons, List.map_nil, List.length_cons, List.length_nil, List.replicate, List.append_nil, List.cons_append, List.nil_append, List.getElem?_cons_zero, List.getElem?_cons_succ, List.set_cons_zero, List.set_cons_succ, R.bind_ok, R.bind_ex, R.bind_bad, R.noex_ok, if_true, if_false, Bool.false_eq_true, Bool.true_eq_false, ite_true, ite_false, reduceIte, Nat.reduceAdd, Nat.reduceSub, Nat.zero_add, Nat.sub_self, Nat.sub_zero, decide_true, decide_false, Bool.not_true, Bool.not_false, subD_ap, ltD_ap, leD_ap, gtD_ap, geD_ap, mulD_ap, modD_ap, divD_ap, powD_ap, tupK_ok, lstK_ok, methK_ok, tupG_ok, eqS_t, eqS_f, neS_t, neS_f, eqI_ap, neI_ap, inT_nil, inT_hit, inT_miss, ne_eq, not_false_eq_true, f_law, b_law, ca0, q1, lst0, w1, w2, mk, w4, w5, w6, a1l, a2l, a3l, a4l, a5l, hq', r4, f4, ca5, ix5, v4, ix6, ln, minD_ok, rg, f6, d1, dp1, dp2, pU4, i4, f9, sz (by decide : 2 ≤ 100), sz (by decide : 3 ≤ 100), sz (by decide : 5 ≤ 100)]⟩
end Law

namespace Law
open PySem PySem.Spec PyProof.Rows L2 VL RZ RT
def topS (i : Nat) : Stmt := PySem.Challenge.pw_viewkeep_k41_in_which_order.main.body.getD i (.Pass ⟨0, 0, 0, 0⟩)
abbrev s_besides_of : Stmt := topS 2
theorem sc_besides_of : FnScope ["view", "width", "word"] ["view", "width"] (defScope s_besides_of) := ⟨rfl, rfl, rfl, by decide +kernel, rfl, by decide +kernel, by decide +kernel⟩
abbrev s_width_of : Stmt := topS 3
theorem sc_width_of : FnScope ["node", "widths", "word"] ["node", "widths"] (defScope s_width_of) := ⟨rfl, rfl, rfl, by decide +kernel, rfl, by decide +kernel, by decide +kernel⟩
abbrev s_Net___init__ : Stmt := inClass (topS 4) 0
theorem sc_Net___init__ : FnScope ["self"] ["self"] (defScope s_Net___init__) := ⟨rfl, rfl, rfl, by decide +kernel, rfl, by decide +kernel, by decide +kernel⟩
abbrev s_Net_put : Stmt := inClass (topS 4) 1
theorem sc_Net_put : FnScope ["self", "node", "width"] ["self", "node", "width"] (defScope s_Net_put) := ⟨rfl, rfl, rfl, by decide +kernel, rfl, by decide +kernel, by decide +kernel⟩
abbrev s_Net_width : Stmt := inClass (topS 4) 6
theorem sc_Net_width : FnScope ["self", "k"] ["self", "k"] (defScope s_Net_width) := ⟨rfl, rfl, rfl, by decide +kernel, rfl, by decide +kernel, by decide +kernel⟩
abbrev s_Net_nodes : Stmt := inClass (topS 4) 7
theorem sc_Net_nodes : FnScope ["self"] ["self"] (defScope s_Net_nodes) := ⟨rfl, rfl, rfl, by decide +kernel, rfl, by decide +kernel, by decide +kernel⟩
abbrev s__law_cell_at : Stmt := topS 6
theorem sc__law_cell_at : FnScope ["_law_script", "_law_k"] ["_law_script", "_law_k"] (defScope s__law_cell_at) := ⟨rfl, rfl, rfl, by decide +kernel, rfl, by decide +kernel, by decide +kernel⟩
abbrev s__law_whole : Stmt := topS 7
theorem sc__law_whole : FnScope ["_law_found"] ["_law_found"] (defScope s__law_whole) := ⟨rfl, rfl, rfl, by decide +kernel, rfl, by decide +kernel, by decide +kernel⟩
abbrev s__law_mixed : Stmt := topS 8
theorem sc__law_mixed : FnScope ["_law_cell"] ["_law_cell"] (defScope s__law_mixed) := ⟨rfl, rfl, rfl, by decide +kernel, rfl, by decide +kernel, by decide +kernel⟩
abbrev s__law_digits : Stmt := topS 9
theorem sc__law_digits : FnScope ["_law_number", "_law_many", "_law_top", "_law_found", "_law_k"] ["_law_number", "_law_many", "_law_top"] (defScope s__law_digits) := ⟨rfl, rfl, rfl, by decide +kernel, rfl, by decide +kernel, by decide +kernel⟩
abbrev s__law_fresh : Stmt := topS 11
theorem sc__law_fresh : FnScope ["_law_names_here", "_law_k", "_law_letters"] ["_law_names_here", "_law_k"] (defScope s__law_fresh) := ⟨rfl, rfl, rfl, by decide +kernel, rfl, by decide +kernel, by decide +kernel⟩
abbrev s__law_term : Stmt := topS 12
theorem sc__law_term : FnScope ["_law_number", "_law_wide_here", "_law_first", "_law_other"] ["_law_number", "_law_wide_here"] (defScope s__law_term) := ⟨rfl, rfl, rfl, by decide +kernel, rfl, by decide +kernel, by decide +kernel⟩
abbrev s__law_asked : Stmt := topS 13
theorem sc__law_asked : FnScope ["_law_number", "_law_wide_here", "_law_first", "_law_other"] ["_law_number", "_law_wide_here"] (defScope s__law_asked) := ⟨rfl, rfl, rfl, by decide +kernel, rfl, by decide +kernel, by decide +kernel⟩
abbrev s__law_fitted : Stmt := topS 16
theorem sc__law_fitted : FnScope ["_law_now", "_law_wide_here", "_law_terms", "_law_k"] ["_law_now", "_law_wide_here"] (defScope s__law_fitted) := ⟨rfl, rfl, rfl, by decide +kernel, rfl, by decide +kernel, by decide +kernel⟩
abbrev s__law_once : Stmt := topS 18
theorem sc__law_once : FnScope ["_law_now"] ["_law_now"] (defScope s__law_once) := ⟨rfl, rfl, rfl, by decide +kernel, rfl, by decide +kernel, by decide +kernel⟩
abbrev s__law_besides : Stmt := topS 22
theorem sc__law_besides : FnScope ["_law_view", "_law_wide_here", "_law_word"] ["_law_view", "_law_wide_here"] (defScope s__law_besides) := ⟨rfl, rfl, rfl, by decide +kernel, rfl, by decide +kernel, by decide +kernel⟩
abbrev s__law_wide : Stmt := topS 23
theorem sc__law_wide : FnScope ["_law_node", "_law_wides", "_law_word"] ["_law_node", "_law_wides"] (defScope s__law_wide) := ⟨rfl, rfl, rfl, by decide +kernel, rfl, by decide +kernel, by decide +kernel⟩
abbrev s_Net_table : Stmt := inClass (topS 4) 2
theorem sc_Net_table : FnScope ["self", "name", "width"] ["self", "name", "width"] (defScope s_Net_table) := ⟨rfl, rfl, rfl, by decide +kernel, rfl, by decide +kernel, by decide +kernel⟩
abbrev s_Net_worded : Stmt := inClass (topS 4) 3
theorem sc_Net_worded : FnScope ["self", "word", "besides", "inputs", "node"] ["self", "word", "besides", "inputs"] (defScope s_Net_worded) := ⟨rfl, rfl, rfl, by decide +kernel, rfl, by decide +kernel, by decide +kernel⟩
abbrev s__law_names : Stmt := topS 10
theorem sc__law_names : FnScope ["_law_cell", "_law_letters", "_law_number", "_law_base", "_law_at", "_law_names_here", "_law_j", "_law_k"] ["_law_cell"] (defScope s__law_names) := ⟨rfl, rfl, rfl, by decide +kernel, rfl, by decide +kernel, by decide +kernel⟩
abbrev s__law_grouped : Stmt := topS 14
theorem sc__law_grouped : FnScope ["_law_number", "_law_word", "_law_now", "_law_wide_here", "_law_by", "_law_order", "_law_place"] ["_law_number", "_law_word", "_law_now"] (defScope s__law_grouped) := ⟨rfl, rfl, rfl, by decide +kernel, rfl, by decide +kernel, by decide +kernel⟩
abbrev s__law_two : Stmt := topS 17
theorem sc__law_two : FnScope ["_law_number", "_law_word", "_law_now", "_law_kept", "_law_wide_here", "_law_more", "_law_view", "_law_firsts_here"] ["_law_number", "_law_word", "_law_now", "_law_kept"] (defScope s__law_two) := ⟨rfl, rfl, rfl, by decide +kernel, rfl, by decide +kernel, by decide +kernel⟩
abbrev s__law_put : Stmt := topS 24
theorem sc__law_put : FnScope ["_law_laid_here", "_law_node"] ["_law_laid_here", "_law_node"] (defScope s__law_put) := ⟨rfl, rfl, rfl, by decide +kernel, rfl, by decide +kernel, by decide +kernel⟩
abbrev s__law_one : Stmt := topS 15
theorem sc__law_one : FnScope ["_law_number", "_law_word", "_law_now", "_law_wide_here", "_law_more", "_law_signs", "_law_asked_here", "_law_view", "_law_terms", "_law_k", "_law_term_here"] ["_law_number", "_law_word", "_law_now"] (defScope s__law_one) := ⟨rfl, rfl, rfl, by decide +kernel, rfl, by decide +kernel, by decide +kernel⟩
abbrev s__law_rounds : Stmt := topS 19
theorem sc__law_rounds : FnScope ["_law_number", "_law_now", "_law_kept", "_law_name", "_law_leaf", "_law_one_here", "_law_other", "_law_word", "_law_inner", "_law_view", "_law_many"] ["_law_number", "_law_now", "_law_kept", "_law_name"] (defScope s__law_rounds) := ⟨rfl, rfl, rfl, by decide +kernel, rfl, by decide +kernel, by decide +kernel⟩
abbrev s__law_next : Stmt := topS 20
theorem sc__law_next : FnScope ["_law_cell", "_law_number", "_law_now", "_law_kept", "_law_name", "_law_word"] ["_law_cell", "_law_number", "_law_now", "_law_kept", "_law_name"] (defScope s__law_next) := ⟨rfl, rfl, rfl, by decide +kernel, rfl, by decide +kernel, by decide +kernel⟩
abbrev s__law_alike : Stmt := topS 21
theorem sc__law_alike : FnScope ["_law_found", "_law_due", "_law_one_here", "_law_other"] ["_law_found", "_law_due"] (defScope s__law_alike) := ⟨rfl, rfl, rfl, by decide +kernel, rfl, by decide +kernel, by decide +kernel⟩
abbrev s_Net_lay_rounds : Stmt := inClass (topS 4) 4
theorem sc_Net_lay_rounds : FnScope ["self", "view", "names", "now", "k", "within", "other"] ["self", "view", "names"] (defScope s_Net_lay_rounds) := ⟨rfl, rfl, rfl, by decide +kernel, rfl, by decide +kernel, by decide +kernel⟩
abbrev s_Net_lay : Stmt := inClass (topS 4) 5
theorem sc_Net_lay : FnScope ["self", "view", "names", "word", "one", "other"] ["self", "view", "names"] (defScope s_Net_lay) := ⟨rfl, rfl, rfl, by decide +kernel, rfl, by decide +kernel, by decide +kernel⟩
abbrev s__law_laid : Stmt := topS 25
theorem sc__law_laid : FnScope ["_law_laid_here", "_law_view", "_law_names_here", "_law_word", "_law_now", "_law_turn", "_law_inner", "_law_other", "_law_one_here"] ["_law_laid_here", "_law_view", "_law_names_here"] (defScope s__law_laid) := ⟨rfl, rfl, rfl, by decide +kernel, rfl, by decide +kernel, by decide +kernel⟩
abbrev s_law : Stmt := topS 26
theorem sc_law : FnScope ["_law_script", "_law_names_here", "_law_tables", "_law_numbers", "_law_net", "_law_laid_here", "_law_j", "_law_wide_here", "_law_now", "_law_kept", "_law_k", "_law_cell", "_law_others", "_law_made", "_law_meant", "_law_found", "_law_due"] ["_law_script"] (defScope s_law) := ⟨rfl, rfl, rfl, by decide +kernel, rfl, by decide +kernel, by decide +kernel⟩
/-! ### the defs as they stand -/
structure Tx (K : PySem.W.Frag) (mg : Str → Option Value) where
  a_besides_of : Addr
  d_besides_of : FuncData
  F_besides_of : Fun K "besides_of" "besides_of" s_besides_of a_besides_of d_besides_of
  g_besides_of : mg "besides_of" = some (.ref a_besides_of)
  b_besides_of : Binds K d_besides_of ["view", "width"] []
  a_width_of : Addr
  d_width_of : FuncData
  F_width_of : Fun K "width_of" "width_of" s_width_of a_width_of d_width_of
  g_width_of : mg "width_of" = some (.ref a_width_of)
  b_width_of : Binds K d_width_of ["node", "widths"] []
  a_Net___init__ : Addr
  d_Net___init__ : FuncData
  F_Net___init__ : Fun K "__init__" "Net.__init__" s_Net___init__ a_Net___init__ d_Net___init__
  b_Net___init__ : Binds K d_Net___init__ ["self"] []
  a_Net_put : Addr
  d_Net_put : FuncData
  F_Net_put : Fun K "put" "Net.put" s_Net_put a_Net_put d_Net_put
  b_Net_put : Binds K d_Net_put ["self", "node", "width"] []
  a_Net_width : Addr
  d_Net_width : FuncData
  F_Net_width : Fun K "width" "Net.width" s_Net_width a_Net_width d_Net_width
  b_Net_width : Binds K d_Net_width ["self", "k"] []
  a_Net_nodes : Addr
  d_Net_nodes : FuncData
  F_Net_nodes : Fun K "nodes" "Net.nodes" s_Net_nodes a_Net_nodes d_Net_nodes
  b_Net_nodes : Binds K d_Net_nodes ["self"] []
  a__law_cell_at : Addr
  d__law_cell_at : FuncData
  F__law_cell_at : Fun K "_law_cell_at" "_law_cell_at" s__law_cell_at a__law_cell_at d__law_cell_at
  g__law_cell_at : mg "_law_cell_at" = some (.ref a__law_cell_at)
  b__law_cell_at : Binds K d__law_cell_at ["_law_script", "_law_k"] []
  a__law_whole : Addr
  d__law_whole : FuncData
  F__law_whole : Fun K "_law_whole" "_law_whole" s__law_whole a__law_whole d__law_whole
  g__law_whole : mg "_law_whole" = some (.ref a__law_whole)
  b__law_whole : Binds K d__law_whole ["_law_found"] []
  a__law_mixed : Addr
  d__law_mixed : FuncData
  F__law_mixed : Fun K "_law_mixed" "_law_mixed" s__law_mixed a__law_mixed d__law_mixed
  g__law_mixed : mg "_law_mixed" = some (.ref a__law_mixed)
  b__law_mixed : Binds K d__law_mixed ["_law_cell"] []
  a__law_digits : Addr
  d__law_digits : FuncData
  F__law_digits : Fun K "_law_digits" "_law_digits" s__law_digits a__law_digits d__law_digits
  g__law_digits : mg "_law_digits" = some (.ref a__law_digits)
  b__law_digits : Binds K d__law_digits ["_law_number", "_law_many", "_law_top"] []
  a__law_fresh : Addr
  d__law_fresh : FuncData
  F__law_fresh : Fun K "_law_fresh" "_law_fresh" s__law_fresh a__law_fresh d__law_fresh
  g__law_fresh : mg "_law_fresh" = some (.ref a__law_fresh)
  b__law_fresh : Binds K d__law_fresh ["_law_names_here", "_law_k"] []
  a__law_term : Addr
  d__law_term : FuncData
  F__law_term : Fun K "_law_term" "_law_term" s__law_term a__law_term d__law_term
  g__law_term : mg "_law_term" = some (.ref a__law_term)
  b__law_term : Binds K d__law_term ["_law_number", "_law_wide_here"] []
  a__law_asked : Addr
  d__law_asked : FuncData
  F__law_asked : Fun K "_law_asked" "_law_asked" s__law_asked a__law_asked d__law_asked
  g__law_asked : mg "_law_asked" = some (.ref a__law_asked)
  b__law_asked : Binds K d__law_asked ["_law_number", "_law_wide_here"] []
  a__law_fitted : Addr
  d__law_fitted : FuncData
  F__law_fitted : Fun K "_law_fitted" "_law_fitted" s__law_fitted a__law_fitted d__law_fitted
  g__law_fitted : mg "_law_fitted" = some (.ref a__law_fitted)
  b__law_fitted : Binds K d__law_fitted ["_law_now", "_law_wide_here"] []
  a__law_once : Addr
  d__law_once : FuncData
  F__law_once : Fun K "_law_once" "_law_once" s__law_once a__law_once d__law_once
  g__law_once : mg "_law_once" = some (.ref a__law_once)
  b__law_once : Binds K d__law_once ["_law_now"] []
  a__law_besides : Addr
  d__law_besides : FuncData
  F__law_besides : Fun K "_law_besides" "_law_besides" s__law_besides a__law_besides d__law_besides
  g__law_besides : mg "_law_besides" = some (.ref a__law_besides)
  b__law_besides : Binds K d__law_besides ["_law_view", "_law_wide_here"] []
  a__law_wide : Addr
  d__law_wide : FuncData
  F__law_wide : Fun K "_law_wide" "_law_wide" s__law_wide a__law_wide d__law_wide
  g__law_wide : mg "_law_wide" = some (.ref a__law_wide)
  b__law_wide : Binds K d__law_wide ["_law_node", "_law_wides"] []
  a_Net_table : Addr
  d_Net_table : FuncData
  F_Net_table : Fun K "table" "Net.table" s_Net_table a_Net_table d_Net_table
  b_Net_table : Binds K d_Net_table ["self", "name", "width"] []
  a_Net_worded : Addr
  d_Net_worded : FuncData
  F_Net_worded : Fun K "worded" "Net.worded" s_Net_worded a_Net_worded d_Net_worded
  b_Net_worded : Binds K d_Net_worded ["self", "word", "besides", "inputs"] []
  a__law_names : Addr
  d__law_names : FuncData
  F__law_names : Fun K "_law_names" "_law_names" s__law_names a__law_names d__law_names
  g__law_names : mg "_law_names" = some (.ref a__law_names)
  b__law_names : Binds K d__law_names ["_law_cell"] []
  a__law_grouped : Addr
  d__law_grouped : FuncData
  F__law_grouped : Fun K "_law_grouped" "_law_grouped" s__law_grouped a__law_grouped d__law_grouped
  g__law_grouped : mg "_law_grouped" = some (.ref a__law_grouped)
  b__law_grouped : Binds K d__law_grouped ["_law_number", "_law_word", "_law_now"] []
  a__law_two : Addr
  d__law_two : FuncData
  F__law_two : Fun K "_law_two" "_law_two" s__law_two a__law_two d__law_two
  g__law_two : mg "_law_two" = some (.ref a__law_two)
  b__law_two : Binds K d__law_two ["_law_number", "_law_word", "_law_now", "_law_kept"] []
  a__law_put : Addr
  d__law_put : FuncData
  F__law_put : Fun K "_law_put" "_law_put" s__law_put a__law_put d__law_put
  g__law_put : mg "_law_put" = some (.ref a__law_put)
  b__law_put : Binds K d__law_put ["_law_laid_here", "_law_node"] []
  a__law_one : Addr
  d__law_one : FuncData
  F__law_one : Fun K "_law_one" "_law_one" s__law_one a__law_one d__law_one
  g__law_one : mg "_law_one" = some (.ref a__law_one)
  b__law_one : Binds K d__law_one ["_law_number", "_law_word", "_law_now"] []
  a__law_rounds : Addr
  d__law_rounds : FuncData
  F__law_rounds : Fun K "_law_rounds" "_law_rounds" s__law_rounds a__law_rounds d__law_rounds
  g__law_rounds : mg "_law_rounds" = some (.ref a__law_rounds)
  b__law_rounds : Binds K d__law_rounds ["_law_number", "_law_now", "_law_kept", "_law_name"] []
  a__law_next : Addr
  d__law_next : FuncData
  F__law_next : Fun K "_law_next" "_law_next" s__law_next a__law_next d__law_next
  g__law_next : mg "_law_next" = some (.ref a__law_next)
  b__law_next : Binds K d__law_next ["_law_cell", "_law_number", "_law_now", "_law_kept", "_law_name"] []
  a__law_alike : Addr
  d__law_alike : FuncData
  F__law_alike : Fun K "_law_alike" "_law_alike" s__law_alike a__law_alike d__law_alike
  g__law_alike : mg "_law_alike" = some (.ref a__law_alike)
  b__law_alike : Binds K d__law_alike ["_law_found", "_law_due"] []
  a_Net_lay_rounds : Addr
  d_Net_lay_rounds : FuncData
  F_Net_lay_rounds : Fun K "lay_rounds" "Net.lay_rounds" s_Net_lay_rounds a_Net_lay_rounds d_Net_lay_rounds
  b_Net_lay_rounds : Binds K d_Net_lay_rounds ["self", "view", "names"] []
  a_Net_lay : Addr
  d_Net_lay : FuncData
  F_Net_lay : Fun K "lay" "Net.lay" s_Net_lay a_Net_lay d_Net_lay
  b_Net_lay : Binds K d_Net_lay ["self", "view", "names"] []
  a__law_laid : Addr
  d__law_laid : FuncData
  F__law_laid : Fun K "_law_laid" "_law_laid" s__law_laid a__law_laid d__law_laid
  g__law_laid : mg "_law_laid" = some (.ref a__law_laid)
  b__law_laid : Binds K d__law_laid ["_law_laid_here", "_law_view", "_law_names_here"] []
  a_law : Addr
  d_law : FuncData
  F_law : Fun K "law" "law" s_law a_law d_law
  g_law : mg "law" = some (.ref a_law)
  b_law : Binds K d_law ["_law_script"] []
  z_all : mg "all" = none
  z_bool : mg "bool" = none
  z_dict : mg "dict" = none
  z_int : mg "int" = none
  z_isinstance : mg "isinstance" = none
  z_len : mg "len" = none
  z_list : mg "list" = none
  z_max : mg "max" = none
  z_min : mg "min" = none
  z_range : mg "range" = none
  z_str : mg "str" = none
  z_sum : mg "sum" = none
  z_tuple : mg "tuple" = none
  z_zip : mg "zip" = none
  v_TWO : ∃ a, mg "TWO" = some (.ref a) ∧ KTup K a ["join", "left", "notin", "pour", "both", "either", "less"]
  e_Net : Addr
  k_Net : mg "Net" = some (.ref e_Net)
  cl_Net : Cls K e_Net
  mk_Net : Mk K e_Net a_Net___init__
  m_Net_put : Meth K e_Net "put" a_Net_put
  m_Net_width : Meth K e_Net "width" a_Net_width
  m_Net_nodes : Meth K e_Net "nodes" a_Net_nodes
  m_Net_table : Meth K e_Net "table" a_Net_table
  m_Net_worded : Meth K e_Net "worded" a_Net_worded
  m_Net_lay_rounds : Meth K e_Net "lay_rounds" a_Net_lay_rounds
  m_Net_lay : Meth K e_Net "lay" a_Net_lay
  n_Net_laid : NoAttr K e_Net "laid"
  n_Net_wide : NoAttr K e_Net "wide"
  n_Net_numbers : NoAttr K e_Net "numbers"
section
variable {P : Program} {w : World} {K : PySem.W.Frag} {mg : Str → Option Value} {base : Heap}
theorem ok_besides_of (T : Tx K mg) : FnOk P w K mg base CX0 (1) T.a_besides_of T.d_besides_of ["view", "width"] (Sp0 ⟨P, w, K, mg, B0⟩ 2 f_besides_of) := by
  refine fn0 T.F_besides_of sc_besides_of rfl rfl fun cdv A outer s H E hr => ?_
  exact (lss_cons (ls_set (i := 2) sc_besides_of.nd (le_ix ix_D (le_var (pv 0)) le_int (fun _ _ => rfl)))
    (lss_cons (ls_if (lt_cmp op_inD (le_var (pv 2)) (le_tup (la_cons le_str (la_cons le_str (la_cons le_str la_nil)))) (by rfl)) (lss_one (ls_ret (le_tup (la_cons (le_ix ix_D (le_var (pv 0)) le_int (fun _ _ => rfl)) la_nil)))) lss_nil)
    (lss_cons (ls_if (lt_cmp op_inD (le_var (pv 2)) (le_tup (la_cons le_str (la_cons le_str (la_cons le_str la_nil)))) (by rfl)) (lss_one (ls_ret (le_tup (la_cons (le_ix ix_D (le_var (pv 0)) le_int (fun _ _ => rfl)) (la_cons (le_ix ix_D (le_var (pv 0)) le_int (fun _ _ => rfl)) la_nil))))) lss_nil)
    (lss_cons (ls_if (lt_cmp (op_eqDD hr.units) (le_var (pv 2)) le_str (nomark _)) (lss_one (ls_ret (le_tup (la_cons (le_ix ix_D (le_var (pv 0)) le_int (fun _ _ => rfl)) (la_cons (le_ix ix_D (le_var (pv 0)) le_int (fun _ _ => rfl)) (la_cons (le_ix ix_D (le_var (pv 0)) le_int (fun _ _ => rfl)) la_nil)))))) lss_nil)
    (lss_cons (ls_if (lt_cmp (op_eqDD hr.units) (le_var (pv 2)) le_str (nomark _)) (lss_one (ls_ret (le_tup (la_cons (le_ix ix_D (le_var (pv 0)) le_int (fun _ _ => rfl)) (la_cons (le_var (pv 1)) la_nil))))) lss_nil)
    (lss_cons (ls_if (lt_cmp op_inD (le_var (pv 2)) (le_tup (la_cons le_str (la_cons le_str la_nil))) (by rfl)) (lss_one (ls_ret (le_tup (la_cons (le_ix ix_D (le_var (pv 0)) le_int (fun _ _ => rfl)) la_nil)))) lss_nil)
    (lss_one (ls_ret (le_tup la_nil)))))))))
theorem ok_width_of (T : Tx K mg) : FnOk P w K mg base CX0 (1) T.a_width_of T.d_width_of ["node", "widths"] (Sp0 ⟨P, w, K, mg, B0⟩ 2 f_width_of) := by
  refine fn0 T.F_width_of sc_width_of rfl rfl fun cdv A outer s H E hr => ?_
  exact (lss_cons (ls_set (i := 2) sc_width_of.nd (le_ix ix_D (le_var (pv 0)) le_int (fun _ _ => rfl)))
    (lss_cons (ls_if (lt_cmp (op_eqDD hr.units) (le_var (pv 2)) le_str (nomark _)) (lss_one (ls_ret (le_callB call_lenD (by rfl) T.z_len (by decide +kernel) (la_cons (le_ix ix_D (le_ix ix_D (le_var (pv 0)) le_int (fun _ _ => rfl)) le_int (fun _ _ => rfl)) la_nil)))) lss_nil)
    (lss_cons (ls_if (lt_cmp (op_eqDD hr.units) (le_var (pv 2)) le_str (nomark _)) (lss_one (ls_ret (le_op op_addD (le_callB call_lenD (by rfl) T.z_len (by decide +kernel) (la_cons (le_ix ix_D (le_ix ix_D (le_var (pv 0)) le_int (fun _ _ => rfl)) le_int (fun _ _ => rfl)) la_nil)) le_int))) lss_nil)
    (lss_cons (ls_if (lt_cmp op_inD (le_var (pv 2)) (le_tup (la_cons le_str (la_cons le_str (la_cons le_str la_nil)))) (by rfl)) (lss_one (ls_ret (le_op op_addD (le_callB call_lenD (by rfl) T.z_len (by decide +kernel) (la_cons (le_ix ix_D (le_ix ix_D (le_var (pv 0)) le_int (fun _ _ => rfl)) le_int (fun _ _ => rfl)) la_nil)) le_int))) lss_nil)
    (lss_cons (ls_if (lt_cmp op_inD (le_var (pv 2)) (le_tup (la_cons le_str (la_cons le_str la_nil))) (by rfl)) (lss_one (ls_ret (le_op op_addD (le_ix ix_D (le_var (pv 1)) (le_ix ix_D (le_ix ix_D (le_var (pv 0)) le_int (fun _ _ => rfl)) le_int (fun _ _ => rfl)) (fun _ _ => rfl)) (le_ix ix_D (le_var (pv 1)) (le_ix ix_D (le_ix ix_D (le_var (pv 0)) le_int (fun _ _ => rfl)) le_int (fun _ _ => rfl)) (fun _ _ => rfl))))) lss_nil)
    (lss_one (ls_ret (le_ix ix_D (le_var (pv 1)) (le_ix ix_D (le_ix ix_D (le_var (pv 0)) le_int (fun _ _ => rfl)) le_int (fun _ _ => rfl)) (fun _ _ => rfl)))))))))
theorem ok_Net___init__ (T : Tx K mg) : FnOk P w K mg base CX0 (1) T.a_Net___init__ T.d_Net___init__ ["self"] (Sp0 ⟨P, w, K, mg, B0⟩ 1 f_Net___init__) := by
  refine fn0 T.F_Net___init__ sc_Net___init__ rfl rfl fun cdv A outer s H E hr => ?_
  exact (lss_cons (ls_fset T.cl_Net T.n_Net_laid T.k_Net (le_var (pv 0)) (le_lst la_nil))
    (lss_cons (ls_fset T.cl_Net T.n_Net_wide T.k_Net (le_var (pv 0)) (le_lst la_nil))
    (lss_one (ls_fset T.cl_Net T.n_Net_numbers T.k_Net (le_var (pv 0)) (le_dic pe_dnewK)))))
theorem ok_Net_put (T : Tx K mg) : FnOk P w K mg base CX0 (1) T.a_Net_put T.d_Net_put ["self", "node", "width"] (Sp0 ⟨P, w, K, mg, B0⟩ 3 f_Net_put) := by
  refine fn0 T.F_Net_put sc_Net_put rfl rfl fun cdv A outer s H E hr => ?_
  exact (lss_cons (ls_if (lt_cmp (op_knotin hr.units) (le_var (pv 1)) (le_fld T.cl_Net T.n_Net_numbers T.k_Net (le_var (pv 0))) (by rfl)) (lss_cons (ls_kput rfl hr.units (le_fld T.cl_Net T.n_Net_numbers T.k_Net (le_var (pv 0))) (le_var (pv 1)) (le_callB call_lenD (by rfl) T.z_len (by decide +kernel) (la_cons (le_fld T.cl_Net T.n_Net_laid T.k_Net (le_var (pv 0))) la_nil)))
    (lss_cons (ls_expr (le_bm PySem.F.plainAttrs_list PySem.F.slot_list_append PySem.F.type_list_append mt_appD (le_fld T.cl_Net T.n_Net_laid T.k_Net (le_var (pv 0))) (la_cons (le_var (pv 1)) la_nil)))
    (lss_one (ls_expr (le_bm PySem.F.plainAttrs_list PySem.F.slot_list_append PySem.F.type_list_append mt_appD (le_fld T.cl_Net T.n_Net_wide T.k_Net (le_var (pv 0))) (la_cons (le_var (pv 2)) la_nil)))))) lss_nil)
    (lss_one (ls_ret (le_kix hr.units (le_fld T.cl_Net T.n_Net_numbers T.k_Net (le_var (pv 0))) (le_var (pv 1)) (fun _ _ => rfl)))))
theorem ok_Net_width (T : Tx K mg) : FnOk P w K mg base CX0 (1) T.a_Net_width T.d_Net_width ["self", "k"] (Sp0 ⟨P, w, K, mg, B0⟩ 2 f_Net_width) := by
  refine fn0 T.F_Net_width sc_Net_width rfl rfl fun cdv A outer s H E hr => ?_
  exact (lss_one (ls_ret (le_ix ix_D (le_fld T.cl_Net T.n_Net_wide T.k_Net (le_var (pv 0))) (le_var (pv 1)) (fun _ _ => rfl))))
theorem ok_Net_nodes (T : Tx K mg) : FnOk P w K mg base CX0 (1) T.a_Net_nodes T.d_Net_nodes ["self"] (Sp0 ⟨P, w, K, mg, B0⟩ 1 f_Net_nodes) := by
  refine fn0 T.F_Net_nodes sc_Net_nodes rfl rfl fun cdv A outer s H E hr => ?_
  exact (lss_one (ls_ret (le_callTy call_listD (by rfl) T.z_list (by decide +kernel) (la_cons (le_fld T.cl_Net T.n_Net_laid T.k_Net (le_var (pv 0))) la_nil))))
theorem ok__law_cell_at (T : Tx K mg) : FnOk P w K mg base CX0 (1) T.a__law_cell_at T.d__law_cell_at ["_law_script", "_law_k"] (Sp0 ⟨P, w, K, mg, B0⟩ 2 f__law_cell_at) := by
  refine fn0 T.F__law_cell_at sc__law_cell_at rfl rfl fun cdv A outer s H E hr => ?_
  exact (lss_cons (ls_if (lt_cmp op_ltD (le_var (pv 1)) (le_callB call_lenD (by rfl) T.z_len (by decide +kernel) (la_cons (le_var (pv 0)) la_nil)) (nomark _)) (lss_one (ls_ret (le_ix ix_D (le_var (pv 0)) (le_var (pv 1)) (fun _ _ => rfl)))) lss_nil)
    (lss_one (ls_ret le_int)))
theorem ok__law_whole (T : Tx K mg) : FnOk P w K mg base CX0 (1) T.a__law_whole T.d__law_whole ["_law_found"] (Sp0 ⟨P, w, K, mg, B0⟩ 1 f__law_whole) := by
  refine fn0 T.F__law_whole sc__law_whole rfl rfl fun cdv A outer s H E hr => ?_
  exact (lss_one (ls_ret (le_and (le_callB call_isiD (by rfl) T.z_isinstance (by decide +kernel) (la_cons (le_var (pv 0)) (la_cons (le_ty (by rfl) T.z_int (by decide +kernel)) la_nil))) (le_and1 (le_not (le_callB call_isiD (by rfl) T.z_isinstance (by decide +kernel) (la_cons (le_var (pv 0)) (la_cons (le_ty (by rfl) T.z_bool (by decide +kernel)) la_nil))))))))
theorem ok__law_mixed (T : Tx K mg) : FnOk P w K mg base CX0 (1) T.a__law_mixed T.d__law_mixed ["_law_cell"] (Sp0 ⟨P, w, K, mg, B0⟩ 1 f__law_mixed) := by
  refine fn0 T.F__law_mixed sc__law_mixed rfl rfl fun cdv A outer s H E hr => ?_
  exact (lss_one (ls_ret (le_op op_addD (le_op op_modD (le_op op_mulD (le_var (pv 0)) le_int) le_int) (le_op op_mulD le_int (le_op op_modD (le_var (pv 0)) (le_op op_powD le_int le_int))))))
theorem ok__law_digits (T : Tx K mg) : FnOk P w K mg base CX0 (1) T.a__law_digits T.d__law_digits ["_law_number", "_law_many", "_law_top"] (Sp0 ⟨P, w, K, mg, B0⟩ 3 f__law_digits) := by
  refine fn0 T.F__law_digits sc__law_digits rfl rfl fun cdv A outer s H E hr => ?_
  exact (lss_cons (ls_set (i := 3) sc__law_digits.nd (le_lst la_nil))
    (lss_cons (ls_for PassesOwn.never rfl (li_rng1 (by rfl) T.z_range (la_cons (le_var (pv 1)) la_nil)) (lg_name (pg_name (i := 4) sc__law_digits.nd rfl (by first | exact Or.inl rfl | exact Or.inr rfl))) (lss_cons (ls_expr (le_bm PySem.F.plainAttrs_list PySem.F.slot_list_append PySem.F.type_list_append mt_appD (le_var (pv 3)) (la_cons (le_op op_modD (le_var (pv 0)) (le_var (pv 2))) la_nil)))
    (lss_one (ls_set (i := 0) sc__law_digits.nd (le_op op_divD (le_var (pv 0)) (le_var (pv 2)))))))
    (lss_one (ls_ret (le_var (pv 3))))))
theorem ok__law_fresh (T : Tx K mg) : FnOk P w K mg base CX0 (1) T.a__law_fresh T.d__law_fresh ["_law_names_here", "_law_k"] (Sp0 ⟨P, w, K, mg, B0⟩ 2 f__law_fresh) := by
  refine fn0 T.F__law_fresh sc__law_fresh rfl rfl fun cdv A outer s H E hr => ?_
  exact (lss_cons (ls_set (i := 2) sc__law_fresh.nd le_str)
    (lss_one (ls_ret (le_op op_addD (le_op op_addD (le_ix ix_D (le_var (pv 0)) le_int (fun _ _ => rfl)) (le_ix ix_D (le_var (pv 2)) (le_op op_modD (le_var (pv 1)) le_int) (fun _ _ => rfl))) (le_ix ix_D (le_var (pv 2)) (le_op op_modD (le_op op_divD (le_var (pv 1)) le_int) le_int) (fun _ _ => rfl))))))
theorem ok__law_term (T : Tx K mg) : FnOk P w K mg base CX0 (1) T.a__law_term T.d__law_term ["_law_number", "_law_wide_here"] (Sp0 ⟨P, w, K, mg, B0⟩ 2 f__law_term) := by
  refine fn0 T.F__law_term sc__law_term rfl rfl fun cdv A outer s H E hr => ?_
  exact (lss_cons (ls_set (i := 2) sc__law_term.nd (le_tup (la_cons le_str (la_cons (le_op op_modD (le_op op_divD (le_var (pv 0)) le_int) (le_var (pv 1))) la_nil))))
    (lss_cons (ls_set (i := 3) sc__law_term.nd (le_tup (la_cons le_str (la_cons (le_op op_modD (le_op op_divD (le_var (pv 0)) le_int) (le_var (pv 1))) la_nil))))
    (lss_cons (ls_if (lt_cmp (op_eqDD hr.units) (le_op op_modD (le_var (pv 0)) le_int) le_int (nomark _)) (lss_one (ls_ret (le_tup (la_cons (le_tup (la_cons le_str (la_cons (le_op op_subD (le_op op_modD (le_var (pv 0)) (le_op op_powD le_int le_int)) (le_op op_modD (le_op op_divD (le_var (pv 0)) le_int) (le_op op_powD le_int le_int))) la_nil))) (la_cons le_int la_nil))))) lss_nil)
    (lss_cons (ls_if (lt_cmp (op_eqDD hr.units) (le_op op_modD (le_var (pv 0)) le_int) le_int (nomark _)) (lss_one (ls_ret (le_tup (la_cons (le_tup (la_cons le_str la_nil)) (la_cons le_int la_nil))))) lss_nil)
    (lss_cons (ls_if (lt_cmp (op_eqDD hr.units) (le_op op_modD (le_var (pv 0)) le_int) le_int (nomark _)) (lss_one (ls_ret (le_tup (la_cons (le_tup (la_cons le_str (la_cons le_int (la_cons (le_var (pv 2)) la_nil)))) (la_cons le_int la_nil))))) lss_nil)
    (lss_cons (ls_if (lt_cmp (op_eqDD hr.units) (le_op op_modD (le_var (pv 0)) le_int) le_int (nomark _)) (lss_one (ls_ret (le_tup (la_cons (le_tup (la_cons le_str (la_cons (le_var (pv 2)) (la_cons (le_tup (la_cons le_str (la_cons (le_var (pv 3)) (la_cons (le_tup (la_cons le_str (la_cons le_int la_nil))) la_nil)))) la_nil)))) (la_cons le_int la_nil))))) lss_nil)
    (lss_cons (ls_if (lt_cmp (op_eqDD hr.units) (le_op op_modD (le_var (pv 0)) le_int) le_int (nomark _)) (lss_one (ls_ret (le_tup (la_cons (le_tup (la_cons le_str (la_cons (le_tup (la_cons le_str (la_cons (le_tup (la_cons le_str (la_cons (le_var (pv 2)) (la_cons (le_tup (la_cons le_str la_nil)) la_nil)))) la_nil))) (la_cons (le_var (pv 3)) (la_cons (le_tup (la_cons le_str (la_cons le_int (la_cons (le_var (pv 2)) la_nil)))) la_nil))))) (la_cons le_int la_nil))))) lss_nil)
    (lss_one (ls_ret (le_tup (la_cons (le_var (pv 2)) (la_cons le_int la_nil))))))))))))
theorem ok__law_asked (T : Tx K mg) : FnOk P w K mg base CX0 (1) T.a__law_asked T.d__law_asked ["_law_number", "_law_wide_here"] (Sp0 ⟨P, w, K, mg, B0⟩ 2 f__law_asked) := by
  refine fn0 T.F__law_asked sc__law_asked rfl rfl fun cdv A outer s H E hr => ?_
  exact (lss_cons (ls_set (i := 2) sc__law_asked.nd (le_tup (la_cons le_str (la_cons (le_op op_modD (le_op op_divD (le_var (pv 0)) le_int) (le_var (pv 1))) la_nil))))
    (lss_cons (ls_set (i := 3) sc__law_asked.nd (le_tup (la_cons le_str (la_cons (le_op op_modD (le_op op_divD (le_var (pv 0)) le_int) (le_var (pv 1))) la_nil))))
    (lss_cons (ls_if (lt_cmp (op_eqDD hr.units) (le_op op_modD (le_var (pv 0)) le_int) le_int (nomark _)) (lss_one (ls_ret (le_tup (la_cons (le_tup (la_cons le_str (la_cons (le_tup (la_cons le_str (la_cons (le_tup (la_cons le_str (la_cons (le_var (pv 2)) (la_cons (le_tup (la_cons le_str (la_cons le_int la_nil))) la_nil)))) la_nil))) (la_cons (le_tup (la_cons le_str (la_cons (le_var (pv 3)) (la_cons (le_tup (la_cons le_str la_nil)) la_nil)))) la_nil)))) (la_cons le_int la_nil))))) lss_nil)
    (lss_cons (ls_if (lt_cmp (op_eqDD hr.units) (le_op op_modD (le_var (pv 0)) le_int) le_int (nomark _)) (lss_one (ls_ret (le_tup (la_cons (le_tup (la_cons le_str (la_cons (le_tup (la_cons le_str (la_cons (le_tup (la_cons le_str (la_cons le_int (la_cons (le_var (pv 2)) la_nil)))) (la_cons (le_var (pv 3)) la_nil)))) (la_cons (le_tup (la_cons le_str (la_cons (le_var (pv 3)) (la_cons (le_var (pv 2)) la_nil)))) la_nil)))) (la_cons le_int la_nil))))) lss_nil)
    (lss_one (ls_ret (le_tup (la_cons (le_tup (la_cons le_str (la_cons (le_var (pv 2)) (la_cons (le_var (pv 3)) la_nil)))) (la_cons le_int la_nil)))))))))
theorem ok__law_fitted (T : Tx K mg) : FnOk P w K mg base CX0 (1) T.a__law_fitted T.d__law_fitted ["_law_now", "_law_wide_here"] (Sp0 ⟨P, w, K, mg, B0⟩ 2 f__law_fitted) := by
  refine fn0 T.F__law_fitted sc__law_fitted rfl rfl fun cdv A outer s H E hr => ?_
  exact (lss_cons (ls_if (lt_cmp (op_eqDD hr.units) (le_ix ix_D (le_var (pv 0)) le_int (fun _ _ => rfl)) (le_var (pv 1)) (nomark _)) (lss_one (ls_ret (le_var (pv 0)))) lss_nil)
    (lss_cons (ls_set (i := 2) sc__law_fitted.nd (le_callTy call_tupleD (by rfl) T.z_tuple (by decide +kernel) (la_cons (le_lc (own := [("_law_k", 3)]) rfl sc__law_fitted.nd (li_rng1 (by rfl) T.z_range (la_cons (le_var (pv 1)) la_nil)) (blkOk_by (own := [("_law_k", 3)]) (N := ["_law_now", "_law_wide_here", "_law_terms", "_law_k"]) (sc := defScope s__law_fitted) (by decide +kernel)) (fun _ _ _ _ _ => (lgw_name (pg_name (i := 3) sc__law_fitted.nd rfl (by first | exact Or.inl rfl | exact Or.inr rfl)) (by decide))) (fun _ _ _ _ _ => lts_nil) (fun _ _ _ _ _ => (le_tup (la_cons le_str (la_cons (le_op op_modD (le_var (pv 3)) (le_ix ix_D (le_var (pv 0)) le_int (fun _ _ => rfl))) la_nil))))) la_nil)))
    (lss_one (ls_ret (le_tup (la_cons (le_tup (la_cons le_str (la_cons (le_ix ix_D (le_var (pv 0)) le_int (fun _ _ => rfl)) (la_cons (le_var (pv 2)) la_nil)))) (la_cons (le_var (pv 1)) (la_cons (le_op op_addD (le_op op_addD le_int (le_var (pv 1))) (le_ix ix_D (le_var (pv 0)) le_int (fun _ _ => rfl))) (la_cons (le_op op_addD (le_op op_addD le_int (le_op op_mulD le_int (le_var (pv 1)))) (le_ix ix_D (le_var (pv 0)) le_int (fun _ _ => rfl))) (la_cons (le_op op_addD le_int (le_ix ix_D (le_var (pv 0)) le_int (fun _ _ => rfl))) la_nil))))))))))
theorem ok__law_once (T : Tx K mg) : FnOk P w K mg base CX0 (1) T.a__law_once T.d__law_once ["_law_now"] (Sp0 ⟨P, w, K, mg, B0⟩ 1 f__law_once) := by
  refine fn0 T.F__law_once sc__law_once rfl rfl fun cdv A outer s H E hr => ?_
  exact (lss_one (ls_ret (le_tup (la_cons (le_tup (la_cons le_str (la_cons (le_ix ix_D (le_var (pv 0)) le_int (fun _ _ => rfl)) la_nil))) (la_cons (le_ix ix_D (le_var (pv 0)) le_int (fun _ _ => rfl)) (la_cons (le_op op_addD le_int (le_ix ix_D (le_var (pv 0)) le_int (fun _ _ => rfl))) (la_cons (le_op op_addD le_int (le_ix ix_D (le_var (pv 0)) le_int (fun _ _ => rfl))) (la_cons (le_op op_addD le_int (le_ix ix_D (le_var (pv 0)) le_int (fun _ _ => rfl))) la_nil))))))))
theorem ok__law_besides (T : Tx K mg) : FnOk P w K mg base CX0 (1) T.a__law_besides T.d__law_besides ["_law_view", "_law_wide_here"] (Sp0 ⟨P, w, K, mg, B0⟩ 2 f__law_besides) := by
  refine fn0 T.F__law_besides sc__law_besides rfl rfl fun cdv A outer s H E hr => ?_
  exact (lss_cons (ls_set (i := 2) sc__law_besides.nd (le_ix ix_D (le_var (pv 0)) le_int (fun _ _ => rfl)))
    (lss_cons (ls_if (lt_cmp op_inD (le_var (pv 2)) (le_tup (la_cons le_str (la_cons le_str (la_cons le_str la_nil)))) (by rfl)) (lss_one (ls_ret (le_tup (la_cons (le_ix ix_D (le_var (pv 0)) le_int (fun _ _ => rfl)) la_nil)))) lss_nil)
    (lss_cons (ls_if (lt_cmp op_inD (le_var (pv 2)) (le_tup (la_cons le_str (la_cons le_str (la_cons le_str la_nil)))) (by rfl)) (lss_one (ls_ret (le_tup (la_cons (le_ix ix_D (le_var (pv 0)) le_int (fun _ _ => rfl)) (la_cons (le_ix ix_D (le_var (pv 0)) le_int (fun _ _ => rfl)) la_nil))))) lss_nil)
    (lss_cons (ls_if (lt_cmp (op_eqDD hr.units) (le_var (pv 2)) le_str (nomark _)) (lss_one (ls_ret (le_tup (la_cons (le_ix ix_D (le_var (pv 0)) le_int (fun _ _ => rfl)) (la_cons (le_ix ix_D (le_var (pv 0)) le_int (fun _ _ => rfl)) (la_cons (le_ix ix_D (le_var (pv 0)) le_int (fun _ _ => rfl)) la_nil)))))) lss_nil)
    (lss_cons (ls_if (lt_cmp (op_eqDD hr.units) (le_var (pv 2)) le_str (nomark _)) (lss_one (ls_ret (le_tup (la_cons (le_ix ix_D (le_var (pv 0)) le_int (fun _ _ => rfl)) (la_cons (le_var (pv 1)) la_nil))))) lss_nil)
    (lss_cons (ls_if (lt_cmp op_inD (le_var (pv 2)) (le_tup (la_cons le_str (la_cons le_str la_nil))) (by rfl)) (lss_one (ls_ret (le_tup (la_cons (le_ix ix_D (le_var (pv 0)) le_int (fun _ _ => rfl)) la_nil)))) lss_nil)
    (lss_one (ls_ret (le_tup la_nil)))))))))
theorem ok__law_wide (T : Tx K mg) : FnOk P w K mg base CX0 (1) T.a__law_wide T.d__law_wide ["_law_node", "_law_wides"] (Sp0 ⟨P, w, K, mg, B0⟩ 2 f__law_wide) := by
  refine fn0 T.F__law_wide sc__law_wide rfl rfl fun cdv A outer s H E hr => ?_
  exact (lss_cons (ls_set (i := 2) sc__law_wide.nd (le_ix ix_D (le_var (pv 0)) le_int (fun _ _ => rfl)))
    (lss_cons (ls_if (lt_cmp (op_eqDD hr.units) (le_var (pv 2)) le_str (nomark _)) (lss_one (ls_ret (le_ix ix_D (le_ix ix_D (le_var (pv 0)) le_int (fun _ _ => rfl)) le_int (fun _ _ => rfl)))) lss_nil)
    (lss_cons (ls_if (lt_cmp (op_eqDD hr.units) (le_var (pv 2)) le_str (nomark _)) (lss_one (ls_ret (le_callB call_lenD (by rfl) T.z_len (by decide +kernel) (la_cons (le_ix ix_D (le_ix ix_D (le_var (pv 0)) le_int (fun _ _ => rfl)) le_int (fun _ _ => rfl)) la_nil)))) lss_nil)
    (lss_cons (ls_if (lt_cmp (op_eqDD hr.units) (le_var (pv 2)) le_str (nomark _)) (lss_one (ls_ret (le_op op_addD le_int (le_callB call_lenD (by rfl) T.z_len (by decide +kernel) (la_cons (le_ix ix_D (le_ix ix_D (le_var (pv 0)) le_int (fun _ _ => rfl)) le_int (fun _ _ => rfl)) la_nil))))) lss_nil)
    (lss_cons (ls_if (lt_cmp op_inD (le_var (pv 2)) (le_tup (la_cons le_str (la_cons le_str (la_cons le_str la_nil)))) (by rfl)) (lss_one (ls_ret (le_op op_addD le_int (le_callB call_lenD (by rfl) T.z_len (by decide +kernel) (la_cons (le_ix ix_D (le_ix ix_D (le_var (pv 0)) le_int (fun _ _ => rfl)) le_int (fun _ _ => rfl)) la_nil))))) lss_nil)
    (lss_cons (ls_if (lt_cmp op_inD (le_var (pv 2)) (le_tup (la_cons le_str (la_cons le_str la_nil))) (by rfl)) (lss_one (ls_ret (le_op op_addD (le_ix ix_D (le_var (pv 1)) (le_ix ix_D (le_ix ix_D (le_var (pv 0)) le_int (fun _ _ => rfl)) le_int (fun _ _ => rfl)) (fun _ _ => rfl)) (le_ix ix_D (le_var (pv 1)) (le_ix ix_D (le_ix ix_D (le_var (pv 0)) le_int (fun _ _ => rfl)) le_int (fun _ _ => rfl)) (fun _ _ => rfl))))) lss_nil)
    (lss_one (ls_ret (le_ix ix_D (le_var (pv 1)) (le_ix ix_D (le_ix ix_D (le_var (pv 0)) le_int (fun _ _ => rfl)) le_int (fun _ _ => rfl)) (fun _ _ => rfl))))))))))
theorem ok_Net_table (T : Tx K mg) : FnOk P w K mg base CX0 (2) T.a_Net_table T.d_Net_table ["self", "name", "width"] (Sp0 ⟨P, w, K, mg, B0⟩ 3 f_Net_table) := by
  refine fn0 T.F_Net_table sc_Net_table rfl rfl fun cdv A outer s H E hr => ?_
  exact (lss_one (ls_ret (le_meth (ok_Net_put T) (hr.mono (by omega)) T.cl_Net T.m_Net_put T.k_Net T.b_Net_put (le_var (pv 0)) (la_cons (le_tup (la_cons le_str (la_cons (le_tup (la_cons (le_var (pv 1)) (la_cons (le_var (pv 2)) la_nil))) (la_cons (le_tup la_nil) la_nil)))) (la_cons (le_var (pv 2)) la_nil)) (len_cons (len_cons (fun _ _ _ _ h => len_nil h))))))
theorem ok_Net_worded (T : Tx K mg) : FnOk P w K mg base CX0 (2) T.a_Net_worded T.d_Net_worded ["self", "word", "besides", "inputs"] (Sp0 ⟨P, w, K, mg, B0⟩ 4 f_Net_worded) := by
  refine fn0 T.F_Net_worded sc_Net_worded rfl rfl fun cdv A outer s H E hr => ?_
  exact (lss_cons (ls_set (i := 4) sc_Net_worded.nd (le_tup (la_cons (le_var (pv 1)) (la_cons (le_var (pv 2)) (la_cons (le_var (pv 3)) la_nil)))))
    (lss_one (ls_ret (le_meth (ok_Net_put T) (hr.mono (by omega)) T.cl_Net T.m_Net_put T.k_Net T.b_Net_put (le_var (pv 0)) (la_cons (le_var (pv 4)) (la_cons (le_call0 (ok_width_of T) (hr.mono (by omega)) T.g_width_of T.F_width_of.kp T.b_width_of (la_cons (le_var (pv 4)) (la_cons (le_fld T.cl_Net T.n_Net_wide T.k_Net (le_var (pv 0))) la_nil)) (len_cons (len_cons (fun _ _ _ _ h => len_nil h)))) la_nil)) (len_cons (len_cons (fun _ _ _ _ h => len_nil h)))))))
theorem ok__law_names (T : Tx K mg) : FnOk P w K mg base CX0 (2) T.a__law_names T.d__law_names ["_law_cell"] (Sp0 ⟨P, w, K, mg, B0⟩ 1 f__law_names) := by
  refine fn0 T.F__law_names sc__law_names rfl rfl fun cdv A outer s H E hr => ?_
  exact (lss_cons (ls_set (i := 1) sc__law_names.nd le_str)
    (lss_cons (ls_set (i := 2) sc__law_names.nd (le_call0 (ok__law_mixed T) (hr.mono (by omega)) T.g__law_mixed T.F__law_mixed.kp T.b__law_mixed (la_cons (le_var (pv 0)) la_nil) (len_cons (fun _ _ _ _ h => len_nil h))))
    (lss_cons (ls_set (i := 3) sc__law_names.nd (le_call0 (ok__law_digits T) (hr.mono (by omega)) T.g__law_digits T.F__law_digits.kp T.b__law_digits (la_cons (le_op op_divD (le_var (pv 2)) le_int) (la_cons (le_op op_addD le_int (le_op op_modD (le_var (pv 2)) le_int)) (la_cons le_int la_nil))) (len_cons (len_cons (len_cons (fun _ _ _ _ h => len_nil h))))))
    (lss_cons (ls_set (i := 4) sc__law_names.nd (le_op op_modD (le_op op_modD (le_op op_divD (le_var (pv 2)) le_int) le_int) (le_callB call_lenD (by rfl) T.z_len (by decide +kernel) (la_cons (le_var (pv 3)) la_nil))))
    (lss_cons (ls_set (i := 5) sc__law_names.nd (le_lst la_nil))
    (lss_cons (ls_for PassesOwn.never rfl (li_rng1 (by rfl) T.z_range (la_cons le_int la_nil)) (lg_name (pg_name (i := 6) sc__law_names.nd rfl (by first | exact Or.inl rfl | exact Or.inr rfl))) (lss_one (ls_expr (le_bm PySem.F.plainAttrs_list PySem.F.slot_list_append PySem.F.type_list_append mt_appD (le_var (pv 5)) (la_cons (le_bm PySem.F.plainAttrs_str PySem.F.slot_str_join PySem.F.type_str_join mt_joinD le_str (la_cons (le_lc (own := [("_law_k", 7)]) rfl sc__law_names.nd (li_rng1 (by rfl) T.z_range (la_cons (le_callB call_lenD (by rfl) T.z_len (by decide +kernel) (la_cons (le_var (pv 3)) la_nil)) la_nil)) (blkOk_by (own := [("_law_k", 7)]) (N := ["_law_cell", "_law_letters", "_law_number", "_law_base", "_law_at", "_law_names_here", "_law_j", "_law_k"]) (sc := defScope s__law_names) (by decide +kernel)) (fun _ _ _ _ _ => (lgw_name (pg_name (i := 7) sc__law_names.nd rfl (by first | exact Or.inl rfl | exact Or.inr rfl)) (by decide))) (fun _ _ _ _ _ => lts_nil) (fun _ _ _ _ _ => (le_ix ix_D (le_var (pv 1)) (le_op op_modD (le_op op_addD (le_ix ix_D (le_var (pv 3)) (le_var (pv 7)) (fun _ _ => rfl)) (le_op op_mulD (le_var (pv 6)) (le_callTy call_int1D (by rfl) T.z_int (by decide +kernel) (la_cons (le_cmp (op_eqDD hr.units) (le_var (pv 7)) (le_var (pv 4)) (nomark _)) la_nil)))) le_int) (fun _ _ => rfl)))) la_nil)) la_nil)))))
    (lss_one (ls_ret (le_var (pv 5))))))))))
theorem ok__law_grouped (T : Tx K mg) : FnOk P w K mg base CX0 (2) T.a__law_grouped T.d__law_grouped ["_law_number", "_law_word", "_law_now"] (Sp0 ⟨P, w, K, mg, B0⟩ 3 f__law_grouped) := by
  refine fn0 T.F__law_grouped sc__law_grouped rfl rfl fun cdv A outer s H E hr => ?_
  exact (lss_cons (ls_set (i := 3) sc__law_grouped.nd (le_ix ix_D (le_var (pv 2)) le_int (fun _ _ => rfl)))
    (lss_cons (ls_set (i := 4) sc__law_grouped.nd (le_callTy call_tupleD (by rfl) T.z_tuple (by decide +kernel) (la_cons (le_call0 (ok__law_digits T) (hr.mono (by omega)) T.g__law_digits T.F__law_digits.kp T.b__law_digits (la_cons (le_op op_divD (le_var (pv 0)) le_int) (la_cons (le_op op_modD (le_var (pv 0)) le_int) (la_cons (le_var (pv 3)) la_nil))) (len_cons (len_cons (len_cons (fun _ _ _ _ h => len_nil h))))) la_nil)))
    (lss_cons (ls_if (lt_cmp (op_eqDD hr.units) (le_var (pv 1)) le_str (nomark _)) (lss_one (ls_ret (le_tup (la_cons (le_tup (la_cons (le_var (pv 1)) (la_cons (le_ix ix_D (le_var (pv 2)) le_int (fun _ _ => rfl)) (la_cons (le_var (pv 4)) la_nil)))) (la_cons (le_op op_addD (le_callB call_lenD (by rfl) T.z_len (by decide +kernel) (la_cons (le_var (pv 4)) la_nil)) le_int) (la_cons (le_callB call_lenD (by rfl) T.z_len (by decide +kernel) (la_cons (le_var (pv 4)) la_nil)) la_nil)))))) lss_nil)
    (lss_cons (ls_if (lt_cmp (op_eqDD hr.units) (le_var (pv 1)) le_str (nomark _)) (lss_cons (ls_set (i := 5) sc__law_grouped.nd (le_callTy call_tupleD (by rfl) T.z_tuple (by decide +kernel) (la_cons (le_slice (le_lc (own := [("_law_place", 6)]) rfl sc__law_grouped.nd (li_seq (le_back (le_var (pv 4)))) (blkOk_by (own := [("_law_place", 6)]) (N := ["_law_number", "_law_word", "_law_now", "_law_wide_here", "_law_by", "_law_order", "_law_place"]) (sc := defScope s__law_grouped) (by decide +kernel)) (fun _ _ _ _ _ => (lgw_name (pg_name (i := 6) sc__law_grouped.nd rfl (by first | exact Or.inl rfl | exact Or.inr rfl)) (by decide))) (fun _ _ _ _ _ => lts_nil) (fun _ _ _ _ _ => (le_tup (la_cons (le_var (pv 6)) (la_cons (le_cmp (op_eqDD hr.units) (le_op op_modD (le_op op_addD (le_var (pv 6)) (le_op op_divD (le_var (pv 0)) le_int)) le_int) le_int (nomark _)) la_nil))))) lo_none (lo_some (le_op op_modD (le_op op_divD (le_var (pv 0)) le_int) le_int))) la_nil)))
    (lss_one (ls_ret (le_tup (la_cons (le_tup (la_cons (le_var (pv 1)) (la_cons (le_ix ix_D (le_var (pv 2)) le_int (fun _ _ => rfl)) (la_cons (le_op op_modD (le_op op_divD (le_var (pv 0)) le_int) le_int) (la_cons (le_var (pv 4)) (la_cons (le_var (pv 5)) la_nil)))))) (la_cons (le_var (pv 3)) (la_cons (le_op op_addD (le_callB call_lenD (by rfl) T.z_len (by decide +kernel) (la_cons (le_var (pv 4)) la_nil)) (le_callB call_lenD (by rfl) T.z_len (by decide +kernel) (la_cons (le_var (pv 5)) la_nil))) la_nil))))))) lss_nil)
    (lss_one (ls_ret (le_tup (la_cons (le_tup (la_cons (le_var (pv 1)) (la_cons (le_ix ix_D (le_var (pv 2)) le_int (fun _ _ => rfl)) (la_cons (le_op op_modD (le_op op_divD (le_var (pv 0)) le_int) (le_var (pv 3))) (la_cons (le_var (pv 4)) la_nil))))) (la_cons (le_op op_addD (le_callB call_lenD (by rfl) T.z_len (by decide +kernel) (la_cons (le_var (pv 4)) la_nil)) le_int) (la_cons (le_callB call_lenD (by rfl) T.z_len (by decide +kernel) (la_cons (le_var (pv 4)) la_nil)) la_nil))))))))))
theorem ok__law_two (T : Tx K mg) : FnOk P w K mg base CX0 (2) T.a__law_two T.d__law_two ["_law_number", "_law_word", "_law_now", "_law_kept"] (Sp0 ⟨P, w, K, mg, B0⟩ 4 f__law_two) := by
  refine fn0 T.F__law_two sc__law_two rfl rfl fun cdv A outer s H E hr => ?_
  exact (lss_cons (ls_set (i := 4) sc__law_two.nd (le_ix ix_D (le_var (pv 2)) le_int (fun _ _ => rfl)))
    (lss_cons (ls_set (i := 5) sc__law_two.nd le_int)
    (lss_cons (ls_if (lt_cmp op_inD (le_var (pv 1)) (le_tup (la_cons le_str (la_cons le_str (la_cons le_str (la_cons le_str la_nil))))) (by rfl)) (lss_cons (ls_set (i := 3) sc__law_two.nd (le_call0 (ok__law_fitted T) (hr.mono (by omega)) T.g__law_fitted T.F__law_fitted.kp T.b__law_fitted (la_cons (le_var (pv 3)) (la_cons (le_var (pv 4)) la_nil)) (len_cons (len_cons (fun _ _ _ _ h => len_nil h)))))
    (lss_one (ls_set (i := 6) sc__law_two.nd (le_tup (la_cons (le_var (pv 1)) (la_cons (le_ix ix_D (le_var (pv 2)) le_int (fun _ _ => rfl)) (la_cons (le_ix ix_D (le_var (pv 3)) le_int (fun _ _ => rfl)) la_nil))))))) (lss_cons (ls_if (lt_cmp op_gtD (le_op op_addD (le_var (pv 4)) (le_ix ix_D (le_var (pv 3)) le_int (fun _ _ => rfl))) le_int (nomark _)) (lss_one (ls_set (i := 1) sc__law_two.nd le_str)) lss_nil)
    (lss_cons (ls_set (i := 5) sc__law_two.nd (le_op op_modD (le_var (pv 0)) le_int))
    (lss_cons (ls_set (i := 7) sc__law_two.nd (le_call0 (ok__law_digits T) (hr.mono (by omega)) T.g__law_digits T.F__law_digits.kp T.b__law_digits (la_cons (le_op op_divD (le_var (pv 0)) le_int) (la_cons (le_var (pv 5)) (la_cons (le_var (pv 4)) la_nil))) (len_cons (len_cons (len_cons (fun _ _ _ _ h => len_nil h))))))
    (lss_cons (ls_set (i := 6) sc__law_two.nd (le_tup (la_cons (le_var (pv 1)) (la_cons (le_ix ix_D (le_var (pv 2)) le_int (fun _ _ => rfl)) (la_cons (le_ix ix_D (le_var (pv 3)) le_int (fun _ _ => rfl)) (la_cons (le_callTy call_tupleD (by rfl) T.z_tuple (by decide +kernel) (la_cons (le_listZip rfl (by rfl) T.z_list (by rfl) T.z_zip (la_cons (le_var (pv 7)) (la_cons (le_call0 (ok__law_digits T) (hr.mono (by omega)) T.g__law_digits T.F__law_digits.kp T.b__law_digits (la_cons (le_op op_divD (le_var (pv 0)) le_int) (la_cons (le_var (pv 5)) (la_cons (le_ix ix_D (le_var (pv 3)) le_int (fun _ _ => rfl)) la_nil))) (len_cons (len_cons (len_cons (fun _ _ _ _ h => len_nil h))))) la_nil))) la_nil)) la_nil))))))
    (lss_one (ls_if (lt_cmp (op_neDD hr.units) (le_var (pv 1)) le_str (nomark _)) (lss_one (ls_set (i := 4) sc__law_two.nd (le_op op_addD (le_var (pv 4)) (le_ix ix_D (le_var (pv 3)) le_int (fun _ _ => rfl))))) lss_nil)))))))
    (lss_one (ls_ret (le_tup (la_cons (le_var (pv 6)) (la_cons (le_var (pv 4)) (la_cons (le_op op_addD (le_op op_addD (le_op op_addD le_int (le_var (pv 5))) (le_ix ix_D (le_var (pv 2)) le_int (fun _ _ => rfl))) (le_ix ix_D (le_var (pv 3)) le_int (fun _ _ => rfl))) (la_cons (le_op op_addD (le_op op_addD (le_op op_addD le_int (le_op op_mulD le_int (le_var (pv 5)))) (le_ix ix_D (le_var (pv 2)) le_int (fun _ _ => rfl))) (le_ix ix_D (le_var (pv 3)) le_int (fun _ _ => rfl))) (la_cons (le_op op_addD le_int (le_callB (call_maxD rfl) (by rfl) T.z_max (by decide +kernel) (la_cons (le_ix ix_D (le_var (pv 2)) le_int (fun _ _ => rfl)) (la_cons (le_ix ix_D (le_var (pv 3)) le_int (fun _ _ => rfl)) la_nil)))) la_nil)))))))))))
theorem ok__law_put (T : Tx K mg) : FnOk P w K mg base CX0 (2) T.a__law_put T.d__law_put ["_law_laid_here", "_law_node"] (Sp0 ⟨P, w, K, mg, B0⟩ 2 f__law_put) := by
  refine fn0 T.F__law_put sc__law_put rfl rfl fun cdv A outer s H E hr => ?_
  exact (lss_cons (ls_if (lt_cmp (op_knotin hr.units) (le_var (pv 1)) (le_ix ix_D (le_var (pv 0)) le_int (fun _ _ => rfl)) (by rfl)) (lss_cons (ls_kput rfl hr.units (le_ix ix_D (le_var (pv 0)) le_int (fun _ _ => rfl)) (le_var (pv 1)) (le_callB call_lenD (by rfl) T.z_len (by decide +kernel) (la_cons (le_ix ix_D (le_var (pv 0)) le_int (fun _ _ => rfl)) la_nil)))
    (lss_cons (ls_expr (le_bm PySem.F.plainAttrs_list PySem.F.slot_list_append PySem.F.type_list_append mt_appD (le_ix ix_D (le_var (pv 0)) le_int (fun _ _ => rfl)) (la_cons (le_var (pv 1)) la_nil)))
    (lss_one (ls_expr (le_bm PySem.F.plainAttrs_list PySem.F.slot_list_append PySem.F.type_list_append mt_appD (le_ix ix_D (le_var (pv 0)) le_int (fun _ _ => rfl)) (la_cons (le_call0 (ok__law_wide T) (hr.mono (by omega)) T.g__law_wide T.F__law_wide.kp T.b__law_wide (la_cons (le_var (pv 1)) (la_cons (le_ix ix_D (le_var (pv 0)) le_int (fun _ _ => rfl)) la_nil)) (len_cons (len_cons (fun _ _ _ _ h => len_nil h)))) la_nil)))))) lss_nil)
    (lss_one (ls_ret (le_kix hr.units (le_ix ix_D (le_var (pv 0)) le_int (fun _ _ => rfl)) (le_var (pv 1)) (fun _ _ => rfl)))))
theorem ok__law_one (T : Tx K mg) : FnOk P w K mg base CX0 (3) T.a__law_one T.d__law_one ["_law_number", "_law_word", "_law_now"] (Sp0 ⟨P, w, K, mg, B0⟩ 3 f__law_one) := by
  refine fn0 T.F__law_one sc__law_one rfl rfl fun cdv A outer s H E hr => ?_
  exact (lss_cons (ls_set (i := 3) sc__law_one.nd (le_ix ix_D (le_var (pv 2)) le_int (fun _ _ => rfl)))
    (lss_cons (ls_set (i := 4) sc__law_one.nd le_int)
    (lss_cons (ls_set (i := 5) sc__law_one.nd le_int)
    (lss_cons (ls_if (lt_cmp (op_eqDD hr.units) (le_var (pv 1)) le_str (nomark _)) (lss_cons (ls_asg (le_call0 (ok__law_asked T) (hr.mono (by omega)) T.g__law_asked T.F__law_asked.kp T.b__law_asked (la_cons (le_var (pv 0)) (la_cons (le_var (pv 3)) la_nil)) (len_cons (len_cons (fun _ _ _ _ h => len_nil h)))) (lg_tup rfl (lgs_cons (lg_name (pg_name (i := 6) sc__law_one.nd rfl (by first | exact Or.inl rfl | exact Or.inr rfl))) (lgs_cons (lg_name (pg_name (i := 4) sc__law_one.nd rfl (by first | exact Or.inl rfl | exact Or.inr rfl))) lgs_nil))))
    (lss_cons (ls_set (i := 7) sc__law_one.nd (le_tup (la_cons (le_var (pv 1)) (la_cons (le_ix ix_D (le_var (pv 2)) le_int (fun _ _ => rfl)) (la_cons (le_var (pv 6)) la_nil)))))
    (lss_one (ls_set (i := 5) sc__law_one.nd le_int)))) (lss_one (ls_if (lt_cmp (op_eqDD hr.units) (le_var (pv 1)) le_str (nomark _)) (lss_one (ls_set (i := 7) sc__law_one.nd (le_tup (la_cons (le_var (pv 1)) (la_cons (le_ix ix_D (le_var (pv 2)) le_int (fun _ _ => rfl)) la_nil))))) (lss_one (ls_if (lt_cmp (op_eqDD hr.units) (le_var (pv 1)) le_str (nomark _)) (lss_cons (ls_setLc (i := 8) (own := [("_law_k", 9)]) rfl sc__law_one.nd (sw_true rfl rfl rfl (by decide +kernel)) (li_rng1 (by rfl) T.z_range (la_cons (le_op op_addD le_int (le_op op_modD (le_var (pv 0)) le_int)) la_nil)) (blkOk_by (own := [("_law_k", 9)]) (N := ["_law_number", "_law_word", "_law_now", "_law_wide_here", "_law_more", "_law_signs", "_law_asked_here", "_law_view", "_law_terms", "_law_k", "_law_term_here"]) (sc := defScope s__law_one) (by decide +kernel)) (fun _ _ _ _ _ => (lgw_name (pg_name (i := 9) sc__law_one.nd rfl (by first | exact Or.inl rfl | exact Or.inr rfl)) (by decide))) (fun _ _ _ _ _ => lts_nil) (fun _ _ _ _ _ => (le_call0 (ok__law_term T) (hr.mono (by omega)) T.g__law_term T.F__law_term.kp T.b__law_term (la_cons (le_op op_divD (le_var (pv 0)) (le_op op_addD (le_op op_mulD le_int (le_var (pv 9))) le_int)) (la_cons (le_var (pv 3)) la_nil)) (len_cons (len_cons (fun _ _ _ _ h => len_nil h))))))
    (lss_cons (ls_set (i := 4) sc__law_one.nd (le_callB (call_sumD rfl) (by rfl) T.z_sum (by decide +kernel) (la_cons (le_lc (own := [("_law_term_here", 10)]) rfl sc__law_one.nd (li_seq (le_var (pv 8))) (blkOk_by (own := [("_law_term_here", 10)]) (N := ["_law_number", "_law_word", "_law_now", "_law_wide_here", "_law_more", "_law_signs", "_law_asked_here", "_law_view", "_law_terms", "_law_k", "_law_term_here"]) (sc := defScope s__law_one) (by decide +kernel)) (fun _ _ _ _ _ => (lgw_name (pg_name (i := 10) sc__law_one.nd rfl (by first | exact Or.inl rfl | exact Or.inr rfl)) (by decide))) (fun _ _ _ _ _ => lts_nil) (fun _ _ _ _ _ => (le_ix ix_D (le_var (pv 10)) le_int (fun _ _ => rfl)))) la_nil)))
    (lss_cons (ls_set (i := 5) sc__law_one.nd (le_op op_addD le_int (le_op op_mulD le_int (le_callB call_lenD (by rfl) T.z_len (by decide +kernel) (la_cons (le_var (pv 8)) la_nil)))))
    (lss_cons (ls_set (i := 3) sc__law_one.nd (le_callB call_lenD (by rfl) T.z_len (by decide +kernel) (la_cons (le_var (pv 8)) la_nil)))
    (lss_one (ls_set (i := 7) sc__law_one.nd (le_tup (la_cons (le_var (pv 1)) (la_cons (le_ix ix_D (le_var (pv 2)) le_int (fun _ _ => rfl)) (la_cons (le_callTy call_tupleD (by rfl) T.z_tuple (by decide +kernel) (la_cons (le_lc (own := [("_law_term_here", 10)]) rfl sc__law_one.nd (li_seq (le_var (pv 8))) (blkOk_by (own := [("_law_term_here", 10)]) (N := ["_law_number", "_law_word", "_law_now", "_law_wide_here", "_law_more", "_law_signs", "_law_asked_here", "_law_view", "_law_terms", "_law_k", "_law_term_here"]) (sc := defScope s__law_one) (by decide +kernel)) (fun _ _ _ _ _ => (lgw_name (pg_name (i := 10) sc__law_one.nd rfl (by first | exact Or.inl rfl | exact Or.inr rfl)) (by decide))) (fun _ _ _ _ _ => lts_nil) (fun _ _ _ _ _ => (le_ix ix_D (le_var (pv 10)) le_int (fun _ _ => rfl)))) la_nil)) la_nil)))))))))) (lss_cons (ls_asg (le_call0 (ok__law_grouped T) (hr.mono (by omega)) T.g__law_grouped T.F__law_grouped.kp T.b__law_grouped (la_cons (le_var (pv 0)) (la_cons (le_var (pv 1)) (la_cons (le_var (pv 2)) la_nil))) (len_cons (len_cons (len_cons (fun _ _ _ _ h => len_nil h))))) (lg_tup rfl (lgs_cons (lg_name (pg_name (i := 7) sc__law_one.nd rfl (by first | exact Or.inl rfl | exact Or.inr rfl))) (lgs_cons (lg_name (pg_name (i := 3) sc__law_one.nd rfl (by first | exact Or.inl rfl | exact Or.inr rfl))) (lgs_cons (lg_name (pg_name (i := 4) sc__law_one.nd rfl (by first | exact Or.inl rfl | exact Or.inr rfl))) lgs_nil)))))
    (lss_one (ls_set (i := 5) sc__law_one.nd (le_op op_addD le_int (le_op op_mulD le_int (le_var (pv 4))))))))))))
    (lss_one (ls_ret (le_tup (la_cons (le_var (pv 7)) (la_cons (le_var (pv 3)) (la_cons (le_op op_addD (le_op op_addD le_int (le_var (pv 4))) (le_ix ix_D (le_var (pv 2)) le_int (fun _ _ => rfl))) (la_cons (le_op op_addD (le_var (pv 5)) (le_ix ix_D (le_var (pv 2)) le_int (fun _ _ => rfl))) (la_cons (le_op op_addD le_int (le_ix ix_D (le_var (pv 2)) le_int (fun _ _ => rfl))) la_nil))))))))))))
theorem ok__law_rounds (T : Tx K mg) : FnOk P w K mg base CX0 (3) T.a__law_rounds T.d__law_rounds ["_law_number", "_law_now", "_law_kept", "_law_name"] (Sp0 ⟨P, w, K, mg, B0⟩ 4 f__law_rounds) := by
  refine fn0 T.F__law_rounds sc__law_rounds rfl rfl fun cdv A outer s H E hr => ?_
  exact (lss_cons (ls_set (i := 4) sc__law_rounds.nd (le_tup (la_cons (le_tup (la_cons le_str (la_cons (le_var (pv 3)) la_nil))) (la_cons (le_ix ix_D (le_var (pv 1)) le_int (fun _ _ => rfl)) (la_cons le_int (la_cons le_int (la_cons le_int la_nil)))))))
    (lss_cons (ls_par (i := 5) (j := 6) rfl sc__law_rounds.nd (la_cons (le_var (pv 4)) (la_cons (le_call0 (ok__law_fitted T) (hr.mono (by omega)) T.g__law_fitted T.F__law_fitted.kp T.b__law_fitted (la_cons (le_var (pv 2)) (la_cons (le_ix ix_D (le_var (pv 1)) le_int (fun _ _ => rfl)) la_nil)) (len_cons (len_cons (fun _ _ _ _ h => len_nil h)))) la_nil)))
    (lss_cons (ls_if (lt_cmp (op_eqDD hr.units) (le_op op_modD (le_var (pv 0)) le_int) le_int (nomark _)) (lss_one (ls_par (i := 5) (j := 6) rfl sc__law_rounds.nd (la_cons (le_var (pv 6)) (la_cons (le_var (pv 4)) la_nil)))) lss_nil)
    (lss_cons (ls_if (lt_cmp (op_eqDD hr.units) (le_op op_modD (le_var (pv 0)) le_int) le_int (nomark _)) (lss_one (ls_set (i := 6) sc__law_rounds.nd (le_var (pv 4)))) lss_nil)
    (lss_cons (ls_set (i := 7) sc__law_rounds.nd (le_ix ix_D (le_lst (la_cons le_str (la_cons le_str (la_cons le_str (la_cons le_str (la_cons le_str (la_cons le_str la_nil))))))) (le_op op_modD (le_op op_divD (le_var (pv 0)) le_int) le_int) (fun _ _ => rfl)))
    (lss_cons (ls_set (i := 8) sc__law_rounds.nd (le_call0 (ok__law_fitted T) (hr.mono (by omega)) T.g__law_fitted T.F__law_fitted.kp T.b__law_fitted (la_cons (le_call0 (ok__law_two T) (hr.mono (by omega)) T.g__law_two T.F__law_two.kp T.b__law_two (la_cons (le_op op_divD (le_var (pv 0)) le_int) (la_cons (le_var (pv 7)) (la_cons (le_var (pv 5)) (la_cons (le_var (pv 6)) la_nil)))) (len_cons (len_cons (len_cons (len_cons (fun _ _ _ _ h => len_nil h)))))) (la_cons (le_ix ix_D (le_var (pv 1)) le_int (fun _ _ => rfl)) la_nil)) (len_cons (len_cons (fun _ _ _ _ h => len_nil h)))))
    (lss_cons (ls_if (lt_cmp (op_eqDD hr.units) (le_op op_modD (le_op op_divD (le_var (pv 0)) le_int) le_int) le_int (nomark _)) (lss_one (ls_set (i := 8) sc__law_rounds.nd (le_call0 (ok__law_once T) (hr.mono (by omega)) T.g__law_once T.F__law_once.kp T.b__law_once (la_cons (le_var (pv 8)) la_nil) (len_cons (fun _ _ _ _ h => len_nil h))))) lss_nil)
    (lss_cons (ls_if (lt_cmp (op_eqDD hr.units) (le_op op_modD (le_op op_divD (le_var (pv 0)) le_int) le_int) le_int (nomark _)) (lss_cons (ls_set (i := 9) sc__law_rounds.nd (le_tup (la_cons le_str (la_cons (le_op op_addD (le_var (pv 3)) le_str) (la_cons le_int (la_cons (le_ix ix_D (le_var (pv 8)) le_int (fun _ _ => rfl)) (la_cons (le_tup (la_cons le_str (la_cons (le_tup (la_cons le_str (la_cons (le_var (pv 3)) la_nil))) (la_cons (le_ix ix_D (le_call0 (ok__law_once T) (hr.mono (by omega)) T.g__law_once T.F__law_once.kp T.b__law_once (la_cons (le_var (pv 4)) la_nil) (len_cons (fun _ _ _ _ h => len_nil h))) le_int (fun _ _ => rfl)) la_nil)))) la_nil)))))))
    (lss_cons (ls_set (i := 9) sc__law_rounds.nd (le_tup (la_cons (le_ix ix_D (le_var (pv 9)) le_int (fun _ _ => rfl)) (la_cons (le_ix ix_D (le_var (pv 9)) le_int (fun _ _ => rfl)) (la_cons (le_ix ix_D (le_var (pv 9)) le_int (fun _ _ => rfl)) (la_cons (le_ix ix_D (le_var (pv 9)) le_int (fun _ _ => rfl)) (la_cons (le_tup (la_cons le_str (la_cons (le_ix ix_D (le_var (pv 9)) le_int (fun _ _ => rfl)) (la_cons (le_tup (la_cons le_str (la_cons (le_op op_addD (le_var (pv 3)) le_str) la_nil))) la_nil)))) la_nil)))))))
    (lss_one (ls_set (i := 8) sc__law_rounds.nd (le_tup (la_cons (le_var (pv 9)) (la_cons (le_ix ix_D (le_var (pv 1)) le_int (fun _ _ => rfl)) (la_cons (le_op op_addD (le_ix ix_D (le_var (pv 8)) le_int (fun _ _ => rfl)) le_int) (la_cons (le_op op_addD le_int (le_ix ix_D (le_var (pv 8)) le_int (fun _ _ => rfl))) (la_cons (le_op op_addD le_int (le_ix ix_D (le_var (pv 8)) le_int (fun _ _ => rfl))) la_nil)))))))))) lss_nil)
    (lss_cons (ls_set (i := 10) sc__law_rounds.nd (le_op op_addD le_int (le_op op_modD (le_op op_divD (le_var (pv 0)) le_int) le_int)))
    (lss_cons (ls_set (i := 9) sc__law_rounds.nd (le_tup (la_cons le_str (la_cons (le_var (pv 3)) (la_cons (le_var (pv 10)) (la_cons (le_ix ix_D (le_var (pv 1)) le_int (fun _ _ => rfl)) (la_cons (le_ix ix_D (le_var (pv 8)) le_int (fun _ _ => rfl)) la_nil)))))))
    (lss_one (ls_ret (le_tup (la_cons (le_var (pv 9)) (la_cons (le_ix ix_D (le_var (pv 1)) le_int (fun _ _ => rfl)) (la_cons (le_op op_addD (le_ix ix_D (le_var (pv 1)) le_int (fun _ _ => rfl)) (le_op op_mulD (le_var (pv 10)) (le_op op_addD le_int (le_ix ix_D (le_var (pv 8)) le_int (fun _ _ => rfl))))) (la_cons (le_op op_addD (le_op op_addD le_int (le_ix ix_D (le_var (pv 1)) le_int (fun _ _ => rfl))) (le_ix ix_D (le_var (pv 8)) le_int (fun _ _ => rfl))) (la_cons (le_op op_addD le_int (le_callB (call_maxD rfl) (by rfl) T.z_max (by decide +kernel) (la_cons (le_ix ix_D (le_var (pv 1)) le_int (fun _ _ => rfl)) (la_cons (le_ix ix_D (le_var (pv 8)) le_int (fun _ _ => rfl)) la_nil)))) la_nil))))))))))))))))))
theorem ok__law_next (T : Tx K mg) : FnOk P w K mg base CX0 (4) T.a__law_next T.d__law_next ["_law_cell", "_law_number", "_law_now", "_law_kept", "_law_name"] (Sp0 ⟨P, w, K, mg, B0⟩ 5 f__law_next) := by
  refine fn0 T.F__law_next sc__law_next rfl rfl fun cdv A outer s H E hr => ?_
  exact (lss_cons (ls_set (i := 5) sc__law_next.nd (le_ix ix_D (le_lst (la_cons le_str (la_cons le_str (la_cons le_str (la_cons le_str (la_cons le_str (la_cons le_str (la_cons le_str (la_cons le_str (la_cons le_str (la_cons le_str (la_cons le_str (la_cons le_str (la_cons le_str (la_cons le_str (la_cons le_str (la_cons le_str la_nil))))))))))))))))) (le_op op_subD (le_op op_modD (le_var (pv 0)) le_int) le_int) (fun _ _ => rfl)))
    (lss_cons (ls_if (lt_cmp (op_eqDD hr.units) (le_op op_modD (le_op op_divD (le_var (pv 0)) le_int) le_int) le_int (nomark _)) (lss_one (ls_par (i := 2) (j := 3) rfl sc__law_next.nd (la_cons (le_var (pv 3)) (la_cons (le_var (pv 2)) la_nil)))) lss_nil)
    (lss_cons (ls_if (lt_cmp (op_eqDD hr.units) (le_var (pv 5)) le_str (nomark _)) (lss_one (ls_ret (le_call0 (ok__law_rounds T) (hr.mono (by omega)) T.g__law_rounds T.F__law_rounds.kp T.b__law_rounds (la_cons (le_var (pv 1)) (la_cons (le_var (pv 2)) (la_cons (le_var (pv 3)) (la_cons (le_var (pv 4)) la_nil)))) (len_cons (len_cons (len_cons (len_cons (fun _ _ _ _ h => len_nil h)))))))) lss_nil)
    (lss_cons (ls_if (lt_cmp op_inD (le_var (pv 5)) (le_tup (la_cons le_str (la_cons le_str (la_cons le_str (la_cons le_str (la_cons le_str (la_cons le_str (la_cons le_str la_nil)))))))) (by rfl)) (lss_one (ls_ret (le_call0 (ok__law_two T) (hr.mono (by omega)) T.g__law_two T.F__law_two.kp T.b__law_two (la_cons (le_var (pv 1)) (la_cons (le_var (pv 5)) (la_cons (le_var (pv 2)) (la_cons (le_var (pv 3)) la_nil)))) (len_cons (len_cons (len_cons (len_cons (fun _ _ _ _ h => len_nil h)))))))) lss_nil)
    (lss_one (ls_ret (le_call0 (ok__law_one T) (hr.mono (by omega)) T.g__law_one T.F__law_one.kp T.b__law_one (la_cons (le_var (pv 1)) (la_cons (le_var (pv 5)) (la_cons (le_var (pv 2)) la_nil))) (len_cons (len_cons (len_cons (fun _ _ _ _ h => len_nil h)))))))))))
theorem okb__law_alike (T : Tx K mg) (d : Nat) (r__law_alike : Fn) (ih__law_alike : FnOk P w K mg base CX0 (1 + d) T.a__law_alike T.d__law_alike ["_law_found", "_law_due"] (Sp0 ⟨P, w, K, mg, B0⟩ 2 r__law_alike)) : FnOk P w K mg base CX0 (1 + d + 1) T.a__law_alike T.d__law_alike ["_law_found", "_law_due"] (Sp0 ⟨P, w, K, mg, B0⟩ 2 (fnF 4 (b__law_alike r__law_alike))) := by
  refine fn0 T.F__law_alike sc__law_alike rfl rfl fun cdv A outer s H E hr => ?_
  exact (lss_cons (ls_if (PW.pt (lw_or (lt_val (le_callB call_isiD (by rfl) T.z_isinstance (by decide +kernel) (la_cons (le_var (pv 1)) (la_cons (le_ty (by rfl) T.z_tuple (by decide +kernel)) la_nil)))) (lw_or1 (lt_val (le_callB call_isiD (by rfl) T.z_isinstance (by decide +kernel) (la_cons (le_var (pv 1)) (la_cons (le_ty (by rfl) T.z_list (by decide +kernel)) la_nil))))))) (lss_cons (ls_if (PW.pt (lw_and (lt_val (le_callB call_isiD (by rfl) T.z_isinstance (by decide +kernel) (la_cons (le_var (pv 1)) (la_cons (le_ty (by rfl) T.z_tuple (by decide +kernel)) la_nil)))) (lw_and1 (lt_not (lt_val (le_callB call_isiD (by rfl) T.z_isinstance (by decide +kernel) (la_cons (le_var (pv 0)) (la_cons (le_ty (by rfl) T.z_tuple (by decide +kernel)) la_nil)))))))) (lss_one (ls_ret le_bl)) lss_nil)
    (lss_cons (ls_if (PW.pt (lw_and (lt_val (le_callB call_isiD (by rfl) T.z_isinstance (by decide +kernel) (la_cons (le_var (pv 1)) (la_cons (le_ty (by rfl) T.z_list (by decide +kernel)) la_nil)))) (lw_and1 (lt_not (lt_val (le_callB call_isiD (by rfl) T.z_isinstance (by decide +kernel) (la_cons (le_var (pv 0)) (la_cons (le_ty (by rfl) T.z_list (by decide +kernel)) la_nil)))))))) (lss_one (ls_ret le_bl)) lss_nil)
    (lss_cons (ls_if (lt_cmp (op_neDD hr.units) (le_callB call_lenD (by rfl) T.z_len (by decide +kernel) (la_cons (le_var (pv 0)) la_nil)) (le_callB call_lenD (by rfl) T.z_len (by decide +kernel) (la_cons (le_var (pv 1)) la_nil)) (nomark _)) (lss_one (ls_ret le_bl)) lss_nil)
    (lss_one (ls_ret (le_callB (call_allD rfl) (by rfl) T.z_all (by decide +kernel) (la_cons (le_lc (own := [("_law_one_here", 2), ("_law_other", 3)]) rfl sc__law_alike.nd (li_zip (pi_zipA (by rfl) T.z_zip (la_cons (le_var (pv 0)) (la_cons (le_var (pv 1)) la_nil)))) (blkOk_by (own := [("_law_one_here", 2), ("_law_other", 3)]) (N := ["_law_found", "_law_due", "_law_one_here", "_law_other"]) (sc := defScope s__law_alike) (by decide +kernel)) (fun _ _ _ _ _ => (lgw_tup rfl (lgws_cons (lgw_name (pg_name (i := 2) sc__law_alike.nd rfl (by first | exact Or.inl rfl | exact Or.inr rfl)) (by decide)) (lgws_cons (lgw_name (pg_name (i := 3) sc__law_alike.nd rfl (by first | exact Or.inl rfl | exact Or.inr rfl)) (by decide)) lgws_nil)))) (fun _ _ _ _ _ => lts_nil) (fun _ _ _ _ _ => (le_call0 ih__law_alike (hr.mono (by omega)) T.g__law_alike T.F__law_alike.kp T.b__law_alike (la_cons (le_var (pv 2)) (la_cons (le_var (pv 3)) la_nil)) (len_cons (len_cons (fun _ _ _ _ h => len_nil h)))))) la_nil))))))) lss_nil)
    (lss_cons (ls_if (lt_val (le_callB call_isiD (by rfl) T.z_isinstance (by decide +kernel) (la_cons (le_var (pv 1)) (la_cons (le_ty (by rfl) T.z_bool (by decide +kernel)) la_nil)))) (lss_one (ls_ret (le_and (le_callB call_isiD (by rfl) T.z_isinstance (by decide +kernel) (la_cons (le_var (pv 0)) (la_cons (le_ty (by rfl) T.z_bool (by decide +kernel)) la_nil))) (le_and1 (le_cmp (op_eqDD hr.units) (le_var (pv 0)) (le_var (pv 1)) (nomark _)))))) lss_nil)
    (lss_cons (ls_if (lt_val (le_callB call_isiD (by rfl) T.z_isinstance (by decide +kernel) (la_cons (le_var (pv 1)) (la_cons (le_ty (by rfl) T.z_str (by decide +kernel)) la_nil)))) (lss_one (ls_ret (le_and (le_callB call_isiD (by rfl) T.z_isinstance (by decide +kernel) (la_cons (le_var (pv 0)) (la_cons (le_ty (by rfl) T.z_str (by decide +kernel)) la_nil))) (le_and1 (le_cmp (op_eqDD hr.units) (le_var (pv 0)) (le_var (pv 1)) (nomark _)))))) lss_nil)
    (lss_one (ls_ret (le_and (le_call0 (ok__law_whole T) (hr.mono (by omega)) T.g__law_whole T.F__law_whole.kp T.b__law_whole (la_cons (le_var (pv 0)) la_nil) (len_cons (fun _ _ _ _ h => len_nil h))) (le_and1 (le_cmp (op_eqDD hr.units) (le_var (pv 0)) (le_var (pv 1)) (nomark _)))))))))
theorem okA__law_alike (T : Tx K mg) : ∀ d : Nat, (FnOk P w K mg base CX0 (1 + d) T.a__law_alike T.d__law_alike ["_law_found", "_law_due"] (Sp0 ⟨P, w, K, mg, B0⟩ 2 (f__law_alike d)))
  | 0 => fn_bad rfl
  | d + 1 => by
    obtain h__law_alike := okA__law_alike T d
    exact okb__law_alike T d _ h__law_alike
theorem ok__law_alike (T : Tx K mg) (d : Nat) : FnOk P w K mg base CX0 (1 + d) T.a__law_alike T.d__law_alike ["_law_found", "_law_due"] (Sp0 ⟨P, w, K, mg, B0⟩ 2 (f__law_alike d)) := (okA__law_alike T d)
theorem okb_Net_lay_rounds (T : Tx K mg) (d : Nat) (r_Net_lay_rounds : Fn) (r_Net_lay : Fn) (ih_Net_lay_rounds : FnOk P w K mg base CX0 (2 + d) T.a_Net_lay_rounds T.d_Net_lay_rounds ["self", "view", "names"] (Sp0 ⟨P, w, K, mg, B0⟩ 3 r_Net_lay_rounds)) (ih_Net_lay : FnOk P w K mg base CX0 (2 + d) T.a_Net_lay T.d_Net_lay ["self", "view", "names"] (Sp0 ⟨P, w, K, mg, B0⟩ 3 r_Net_lay)) : FnOk P w K mg base CX0 (2 + d + 1) T.a_Net_lay_rounds T.d_Net_lay_rounds ["self", "view", "names"] (Sp0 ⟨P, w, K, mg, B0⟩ 3 (fnF 7 (b_Net_lay_rounds r_Net_lay_rounds r_Net_lay))) := by
  refine fn0 T.F_Net_lay_rounds sc_Net_lay_rounds rfl rfl fun cdv A outer s H E hr => ?_
  exact (lss_cons (ls_set (i := 3) sc_Net_lay_rounds.nd (le_meth (ok_Net_worded T) (hr.mono (by omega)) T.cl_Net T.m_Net_worded T.k_Net T.b_Net_worded (le_var (pv 0)) (la_cons le_str (la_cons (le_tup la_nil) (la_cons (le_tup (la_cons (le_meth ih_Net_lay (hr.mono (by omega)) T.cl_Net T.m_Net_lay T.k_Net T.b_Net_lay (le_var (pv 0)) (la_cons (le_ix ix_D (le_var (pv 1)) le_int (fun _ _ => rfl)) (la_cons (le_var (pv 2)) la_nil)) (len_cons (len_cons (fun _ _ _ _ h => len_nil h)))) la_nil)) la_nil))) (len_cons (len_cons (len_cons (fun _ _ _ _ h => len_nil h))))))
    (lss_cons (ls_for PassesOwn.never rfl (li_rng1 (by rfl) T.z_range (la_cons (le_ix ix_D (le_var (pv 1)) le_int (fun _ _ => rfl)) la_nil)) (lg_name (pg_name (i := 4) sc_Net_lay_rounds.nd rfl (by first | exact Or.inl rfl | exact Or.inr rfl))) (lss_cons (ls_set (i := 5) sc_Net_lay_rounds.nd (le_callTy call_dictDD (by rfl) T.z_dict (by decide +kernel) (la_cons (le_var (pv 2)) la_nil)))
    (lss_cons (ls_dput (uu hr.units) (le_var (pv 5)) (le_ix ix_D (le_var (pv 1)) le_int (fun _ _ => rfl)) (le_var (pv 3)))
    (lss_cons (ls_set (i := 6) sc_Net_lay_rounds.nd (le_meth ih_Net_lay (hr.mono (by omega)) T.cl_Net T.m_Net_lay T.k_Net T.b_Net_lay (le_var (pv 0)) (la_cons (le_ix ix_D (le_var (pv 1)) le_int (fun _ _ => rfl)) (la_cons (le_var (pv 5)) la_nil)) (len_cons (len_cons (fun _ _ _ _ h => len_nil h)))))
    (lss_one (ls_set (i := 3) sc_Net_lay_rounds.nd (le_meth (ok_Net_worded T) (hr.mono (by omega)) T.cl_Net T.m_Net_worded T.k_Net T.b_Net_worded (le_var (pv 0)) (la_cons le_str (la_cons (le_tup la_nil) (la_cons (le_tup (la_cons (le_meth (ok_Net_worded T) (hr.mono (by omega)) T.cl_Net T.m_Net_worded T.k_Net T.b_Net_worded (le_var (pv 0)) (la_cons le_str (la_cons (le_tup la_nil) (la_cons (le_tup (la_cons (le_var (pv 3)) (la_cons (le_var (pv 6)) la_nil))) la_nil))) (len_cons (len_cons (len_cons (fun _ _ _ _ h => len_nil h))))) la_nil)) la_nil))) (len_cons (len_cons (len_cons (fun _ _ _ _ h => len_nil h)))))))))))
    (lss_one (ls_ret (le_var (pv 3))))))
theorem okb_Net_lay (T : Tx K mg) (d : Nat) (r_Net_lay_rounds : Fn) (r_Net_lay : Fn) (ih_Net_lay_rounds : FnOk P w K mg base CX0 (2 + d) T.a_Net_lay_rounds T.d_Net_lay_rounds ["self", "view", "names"] (Sp0 ⟨P, w, K, mg, B0⟩ 3 r_Net_lay_rounds)) (ih_Net_lay : FnOk P w K mg base CX0 (2 + d) T.a_Net_lay T.d_Net_lay ["self", "view", "names"] (Sp0 ⟨P, w, K, mg, B0⟩ 3 r_Net_lay)) : FnOk P w K mg base CX0 (2 + d + 1) T.a_Net_lay T.d_Net_lay ["self", "view", "names"] (Sp0 ⟨P, w, K, mg, B0⟩ 3 (fnF 6 (b_Net_lay r_Net_lay_rounds r_Net_lay))) := by
  refine fn0 T.F_Net_lay sc_Net_lay rfl rfl fun cdv A outer s H E hr => ?_
  exact (lss_cons (ls_set (i := 3) sc_Net_lay.nd (le_ix ix_D (le_var (pv 1)) le_int (fun _ _ => rfl)))
    (lss_cons (ls_if (lt_cmp (op_eqDD hr.units) (le_var (pv 3)) le_str (nomark _)) (lss_one (ls_ret (le_dix (uu hr.units) (le_var (pv 2)) (le_ix ix_D (le_var (pv 1)) le_int (fun _ _ => rfl)) (fun _ _ => rfl)))) lss_nil)
    (lss_cons (ls_if (lt_cmp (op_eqDD hr.units) (le_var (pv 3)) le_str (nomark _)) (lss_one (ls_ret (le_meth ih_Net_lay_rounds (hr.mono (by omega)) T.cl_Net T.m_Net_lay_rounds T.k_Net T.b_Net_lay_rounds (le_var (pv 0)) (la_cons (le_var (pv 1)) (la_cons (le_var (pv 2)) la_nil)) (len_cons (len_cons (fun _ _ _ _ h => len_nil h)))))) lss_nil)
    (lss_cons (ls_set (i := 4) sc_Net_lay.nd (le_meth ih_Net_lay (hr.mono (by omega)) T.cl_Net T.m_Net_lay T.k_Net T.b_Net_lay (le_var (pv 0)) (la_cons (le_ix ix_D (le_var (pv 1)) le_int (fun _ _ => rfl)) (la_cons (le_var (pv 2)) la_nil)) (len_cons (len_cons (fun _ _ _ _ h => len_nil h)))))
    (lss_cons (ls_if (lt_cmp op_notInD (le_var (pv 3)) (le_gct (by rfl) T.v_TWO rfl) (by rfl)) (lss_one (ls_ret (le_meth (ok_Net_worded T) (hr.mono (by omega)) T.cl_Net T.m_Net_worded T.k_Net T.b_Net_worded (le_var (pv 0)) (la_cons (le_var (pv 3)) (la_cons (le_call0 (ok_besides_of T) (hr.mono (by omega)) T.g_besides_of T.F_besides_of.kp T.b_besides_of (la_cons (le_var (pv 1)) (la_cons le_int la_nil)) (len_cons (len_cons (fun _ _ _ _ h => len_nil h)))) (la_cons (le_tup (la_cons (le_var (pv 4)) la_nil)) la_nil))) (len_cons (len_cons (len_cons (fun _ _ _ _ h => len_nil h))))))) lss_nil)
    (lss_cons (ls_set (i := 5) sc_Net_lay.nd (le_meth ih_Net_lay (hr.mono (by omega)) T.cl_Net T.m_Net_lay T.k_Net T.b_Net_lay (le_var (pv 0)) (la_cons (le_ix ix_D (le_var (pv 1)) le_int (fun _ _ => rfl)) (la_cons (le_var (pv 2)) la_nil)) (len_cons (len_cons (fun _ _ _ _ h => len_nil h)))))
    (lss_one (ls_ret (le_meth (ok_Net_worded T) (hr.mono (by omega)) T.cl_Net T.m_Net_worded T.k_Net T.b_Net_worded (le_var (pv 0)) (la_cons (le_var (pv 3)) (la_cons (le_call0 (ok_besides_of T) (hr.mono (by omega)) T.g_besides_of T.F_besides_of.kp T.b_besides_of (la_cons (le_var (pv 1)) (la_cons (le_ix ix_D (le_fld T.cl_Net T.n_Net_wide T.k_Net (le_var (pv 0))) (le_var (pv 5)) (fun _ _ => rfl)) la_nil)) (len_cons (len_cons (fun _ _ _ _ h => len_nil h)))) (la_cons (le_tup (la_cons (le_var (pv 4)) (la_cons (le_var (pv 5)) la_nil))) la_nil))) (len_cons (len_cons (len_cons (fun _ _ _ _ h => len_nil h)))))))))))))
theorem okA_Net_lay_rounds (T : Tx K mg) : ∀ d : Nat, (FnOk P w K mg base CX0 (2 + d) T.a_Net_lay_rounds T.d_Net_lay_rounds ["self", "view", "names"] (Sp0 ⟨P, w, K, mg, B0⟩ 3 (f_Net_lay_rounds d))) ∧ (FnOk P w K mg base CX0 (2 + d) T.a_Net_lay T.d_Net_lay ["self", "view", "names"] (Sp0 ⟨P, w, K, mg, B0⟩ 3 (f_Net_lay d)))
  | 0 => ⟨fn_bad rfl, fn_bad rfl⟩
  | d + 1 => by
    obtain ⟨h_Net_lay_rounds, h_Net_lay⟩ := okA_Net_lay_rounds T d
    exact ⟨okb_Net_lay_rounds T d _ _ h_Net_lay_rounds h_Net_lay, okb_Net_lay T d _ _ h_Net_lay_rounds h_Net_lay⟩
theorem ok_Net_lay_rounds (T : Tx K mg) (d : Nat) : FnOk P w K mg base CX0 (2 + d) T.a_Net_lay_rounds T.d_Net_lay_rounds ["self", "view", "names"] (Sp0 ⟨P, w, K, mg, B0⟩ 3 (f_Net_lay_rounds d)) := (okA_Net_lay_rounds T d).1
theorem ok_Net_lay (T : Tx K mg) (d : Nat) : FnOk P w K mg base CX0 (2 + d) T.a_Net_lay T.d_Net_lay ["self", "view", "names"] (Sp0 ⟨P, w, K, mg, B0⟩ 3 (f_Net_lay d)) := (okA_Net_lay_rounds T d).2
theorem okb__law_laid (T : Tx K mg) (d : Nat) (r__law_laid : Fn) (ih__law_laid : FnOk P w K mg base CX0 (2 + d) T.a__law_laid T.d__law_laid ["_law_laid_here", "_law_view", "_law_names_here"] (Sp0 ⟨P, w, K, mg, B0⟩ 3 r__law_laid)) : FnOk P w K mg base CX0 (2 + d + 1) T.a__law_laid T.d__law_laid ["_law_laid_here", "_law_view", "_law_names_here"] (Sp0 ⟨P, w, K, mg, B0⟩ 3 (fnF 9 (b__law_laid r__law_laid))) := by
  refine fn0 T.F__law_laid sc__law_laid rfl rfl fun cdv A outer s H E hr => ?_
  exact (lss_cons (ls_set (i := 3) sc__law_laid.nd (le_ix ix_D (le_var (pv 1)) le_int (fun _ _ => rfl)))
    (lss_cons (ls_if (lt_cmp (op_eqDD hr.units) (le_var (pv 3)) le_str (nomark _)) (lss_one (ls_ret (le_dix (uu hr.units) (le_var (pv 2)) (le_ix ix_D (le_var (pv 1)) le_int (fun _ _ => rfl)) (fun _ _ => rfl)))) lss_nil)
    (lss_cons (ls_if (lt_cmp (op_eqDD hr.units) (le_var (pv 3)) le_str (nomark _)) (lss_cons (ls_set (i := 4) sc__law_laid.nd (le_call0 (ok__law_put T) (hr.mono (by omega)) T.g__law_put T.F__law_put.kp T.b__law_put (la_cons (le_var (pv 0)) (la_cons (le_tup (la_cons le_str (la_cons (le_tup la_nil) (la_cons (le_tup (la_cons (le_call0 ih__law_laid (hr.mono (by omega)) T.g__law_laid T.F__law_laid.kp T.b__law_laid (la_cons (le_var (pv 0)) (la_cons (le_ix ix_D (le_var (pv 1)) le_int (fun _ _ => rfl)) (la_cons (le_var (pv 2)) la_nil))) (len_cons (len_cons (len_cons (fun _ _ _ _ h => len_nil h))))) la_nil)) la_nil)))) la_nil)) (len_cons (len_cons (fun _ _ _ _ h => len_nil h)))))
    (lss_cons (ls_for PassesOwn.never rfl (li_rng1 (by rfl) T.z_range (la_cons (le_ix ix_D (le_var (pv 1)) le_int (fun _ _ => rfl)) la_nil)) (lg_name (pg_name (i := 5) sc__law_laid.nd rfl (by first | exact Or.inl rfl | exact Or.inr rfl))) (lss_cons (ls_set (i := 6) sc__law_laid.nd (le_callTy call_dictDD (by rfl) T.z_dict (by decide +kernel) (la_cons (le_var (pv 2)) la_nil)))
    (lss_cons (ls_dput (uu hr.units) (le_var (pv 6)) (le_ix ix_D (le_var (pv 1)) le_int (fun _ _ => rfl)) (le_var (pv 4)))
    (lss_cons (ls_set (i := 7) sc__law_laid.nd (le_call0 ih__law_laid (hr.mono (by omega)) T.g__law_laid T.F__law_laid.kp T.b__law_laid (la_cons (le_var (pv 0)) (la_cons (le_ix ix_D (le_var (pv 1)) le_int (fun _ _ => rfl)) (la_cons (le_var (pv 6)) la_nil))) (len_cons (len_cons (len_cons (fun _ _ _ _ h => len_nil h))))))
    (lss_one (ls_set (i := 4) sc__law_laid.nd (le_call0 (ok__law_put T) (hr.mono (by omega)) T.g__law_put T.F__law_put.kp T.b__law_put (la_cons (le_var (pv 0)) (la_cons (le_tup (la_cons le_str (la_cons (le_tup la_nil) (la_cons (le_tup (la_cons (le_call0 (ok__law_put T) (hr.mono (by omega)) T.g__law_put T.F__law_put.kp T.b__law_put (la_cons (le_var (pv 0)) (la_cons (le_tup (la_cons le_str (la_cons (le_tup la_nil) (la_cons (le_tup (la_cons (le_var (pv 4)) (la_cons (le_var (pv 7)) la_nil))) la_nil)))) la_nil)) (len_cons (len_cons (fun _ _ _ _ h => len_nil h)))) la_nil)) la_nil)))) la_nil)) (len_cons (len_cons (fun _ _ _ _ h => len_nil h))))))))))
    (lss_one (ls_ret (le_var (pv 4)))))) lss_nil)
    (lss_cons (ls_set (i := 8) sc__law_laid.nd (le_call0 ih__law_laid (hr.mono (by omega)) T.g__law_laid T.F__law_laid.kp T.b__law_laid (la_cons (le_var (pv 0)) (la_cons (le_ix ix_D (le_var (pv 1)) le_int (fun _ _ => rfl)) (la_cons (le_var (pv 2)) la_nil))) (len_cons (len_cons (len_cons (fun _ _ _ _ h => len_nil h))))))
    (lss_cons (ls_if (lt_cmp op_notInD (le_var (pv 3)) (le_tup (la_cons le_str (la_cons le_str (la_cons le_str (la_cons le_str (la_cons le_str (la_cons le_str (la_cons le_str la_nil)))))))) (by rfl)) (lss_one (ls_ret (le_call0 (ok__law_put T) (hr.mono (by omega)) T.g__law_put T.F__law_put.kp T.b__law_put (la_cons (le_var (pv 0)) (la_cons (le_tup (la_cons (le_var (pv 3)) (la_cons (le_call0 (ok__law_besides T) (hr.mono (by omega)) T.g__law_besides T.F__law_besides.kp T.b__law_besides (la_cons (le_var (pv 1)) (la_cons le_int la_nil)) (len_cons (len_cons (fun _ _ _ _ h => len_nil h)))) (la_cons (le_tup (la_cons (le_var (pv 8)) la_nil)) la_nil)))) la_nil)) (len_cons (len_cons (fun _ _ _ _ h => len_nil h)))))) lss_nil)
    (lss_cons (ls_set (i := 7) sc__law_laid.nd (le_call0 ih__law_laid (hr.mono (by omega)) T.g__law_laid T.F__law_laid.kp T.b__law_laid (la_cons (le_var (pv 0)) (la_cons (le_ix ix_D (le_var (pv 1)) le_int (fun _ _ => rfl)) (la_cons (le_var (pv 2)) la_nil))) (len_cons (len_cons (len_cons (fun _ _ _ _ h => len_nil h))))))
    (lss_one (ls_ret (le_call0 (ok__law_put T) (hr.mono (by omega)) T.g__law_put T.F__law_put.kp T.b__law_put (la_cons (le_var (pv 0)) (la_cons (le_tup (la_cons (le_var (pv 3)) (la_cons (le_call0 (ok__law_besides T) (hr.mono (by omega)) T.g__law_besides T.F__law_besides.kp T.b__law_besides (la_cons (le_var (pv 1)) (la_cons (le_ix ix_D (le_ix ix_D (le_var (pv 0)) le_int (fun _ _ => rfl)) (le_var (pv 7)) (fun _ _ => rfl)) la_nil)) (len_cons (len_cons (fun _ _ _ _ h => len_nil h)))) (la_cons (le_tup (la_cons (le_var (pv 8)) (la_cons (le_var (pv 7)) la_nil))) la_nil)))) la_nil)) (len_cons (len_cons (fun _ _ _ _ h => len_nil h))))))))))))
theorem okA__law_laid (T : Tx K mg) : ∀ d : Nat, (FnOk P w K mg base CX0 (2 + d) T.a__law_laid T.d__law_laid ["_law_laid_here", "_law_view", "_law_names_here"] (Sp0 ⟨P, w, K, mg, B0⟩ 3 (f__law_laid d)))
  | 0 => fn_bad rfl
  | d + 1 => by
    obtain h__law_laid := okA__law_laid T d
    exact okb__law_laid T d _ h__law_laid
theorem ok__law_laid (T : Tx K mg) (d : Nat) : FnOk P w K mg base CX0 (2 + d) T.a__law_laid T.d__law_laid ["_law_laid_here", "_law_view", "_law_names_here"] (Sp0 ⟨P, w, K, mg, B0⟩ 3 (f__law_laid d)) := (okA__law_laid T d)
theorem ok_law (T : Tx K mg) : FnOk P w K mg base CX0 (83) T.a_law T.d_law ["_law_script"] (Sp0 ⟨P, w, K, mg, B0⟩ 1 f_law) := by
  refine fn0 T.F_law sc_law rfl rfl fun cdv A outer s H E hr => ?_
  exact (lss_cons (ls_set (i := 1) sc_law.nd (le_call0 (ok__law_names T) (hr.mono (by omega)) T.g__law_names T.F__law_names.kp T.b__law_names (la_cons (le_call0 (ok__law_cell_at T) (hr.mono (by omega)) T.g__law_cell_at T.F__law_cell_at.kp T.b__law_cell_at (la_cons (le_var (pv 0)) (la_cons le_int la_nil)) (len_cons (len_cons (fun _ _ _ _ h => len_nil h)))) la_nil) (len_cons (fun _ _ _ _ h => len_nil h))))
    (lss_cons (ls_set (i := 2) sc_law.nd (le_lst la_nil))
    (lss_cons (ls_set (i := 3) sc_law.nd (le_dic pe_dnewK))
    (lss_cons (ls_set (i := 4) sc_law.nd (le_make0 T.mk_Net (ok_Net___init__ T) (hr.mono (by omega)) T.k_Net T.b_Net___init__))
    (lss_cons (ls_set (i := 5) sc_law.nd (le_tup (la_cons (le_dic pe_dnewK) (la_cons (le_lst la_nil) (la_cons (le_lst la_nil) la_nil)))))
    (lss_cons (ls_for PassesOwn.never rfl (li_rng1 (by rfl) T.z_range (la_cons le_int la_nil)) (lg_name (pg_name (i := 6) sc_law.nd rfl (by first | exact Or.inl rfl | exact Or.inr rfl))) (lss_cons (ls_set (i := 7) sc_law.nd (le_op op_addD le_int (le_op op_modD (le_call0 (ok__law_cell_at T) (hr.mono (by omega)) T.g__law_cell_at T.F__law_cell_at.kp T.b__law_cell_at (la_cons (le_var (pv 0)) (la_cons (le_ix ix_D (le_lst (la_cons le_int (la_cons le_int (la_cons le_int (la_cons le_int la_nil))))) (le_var (pv 6)) (fun _ _ => rfl)) la_nil)) (len_cons (len_cons (fun _ _ _ _ h => len_nil h)))) le_int)))
    (lss_cons (ls_expr (le_bm PySem.F.plainAttrs_list PySem.F.slot_list_append PySem.F.type_list_append mt_appD (le_var (pv 2)) (la_cons (le_tup (la_cons (le_tup (la_cons le_str (la_cons (le_ix ix_D (le_var (pv 1)) (le_var (pv 6)) (fun _ _ => rfl)) la_nil))) (la_cons (le_var (pv 7)) (la_cons le_int (la_cons le_int (la_cons le_int la_nil)))))) la_nil)))
    (lss_cons (ls_dput (uu hr.units) (le_var (pv 3)) (le_ix ix_D (le_var (pv 1)) (le_var (pv 6)) (fun _ _ => rfl)) (le_meth (ok_Net_table T) (hr.mono (by omega)) T.cl_Net T.m_Net_table T.k_Net T.b_Net_table (le_var (pv 4)) (la_cons (le_ix ix_D (le_var (pv 1)) (le_var (pv 6)) (fun _ _ => rfl)) (la_cons (le_var (pv 7)) la_nil)) (len_cons (len_cons (fun _ _ _ _ h => len_nil h)))))
    (lss_one (ls_if (lt_cmp (op_neDD hr.units) (le_call0 (ok__law_put T) (hr.mono (by omega)) T.g__law_put T.F__law_put.kp T.b__law_put (la_cons (le_var (pv 5)) (la_cons (le_tup (la_cons le_str (la_cons (le_tup (la_cons (le_ix ix_D (le_var (pv 1)) (le_var (pv 6)) (fun _ _ => rfl)) (la_cons (le_var (pv 7)) la_nil))) (la_cons (le_tup la_nil) la_nil)))) la_nil)) (len_cons (len_cons (fun _ _ _ _ h => len_nil h)))) (le_dix (uu hr.units) (le_var (pv 3)) (le_ix ix_D (le_var (pv 1)) (le_var (pv 6)) (fun _ _ => rfl)) (fun _ _ => rfl)) (nomark _)) (lss_one (ls_ret le_bl)) lss_nil))))))
    (lss_cons (ls_set (i := 8) sc_law.nd (le_ix ix_D (le_var (pv 2)) (le_op op_modD (le_call0 (ok__law_cell_at T) (hr.mono (by omega)) T.g__law_cell_at T.F__law_cell_at.kp T.b__law_cell_at (la_cons (le_var (pv 0)) (la_cons le_int la_nil)) (len_cons (len_cons (fun _ _ _ _ h => len_nil h)))) le_int) (fun _ _ => rfl)))
    (lss_cons (ls_set (i := 9) sc_law.nd (le_ix ix_D (le_var (pv 2)) (le_op op_modD (le_op op_divD (le_call0 (ok__law_cell_at T) (hr.mono (by omega)) T.g__law_cell_at T.F__law_cell_at.kp T.b__law_cell_at (la_cons (le_var (pv 0)) (la_cons le_int la_nil)) (len_cons (len_cons (fun _ _ _ _ h => len_nil h)))) le_int) le_int) (fun _ _ => rfl)))
    (lss_cons (ls_for PassesOwn.never rfl (li_rng2 (by rfl) T.z_range (la_cons le_int (la_cons (le_callB (call_minD rfl) (by rfl) T.z_min (by decide +kernel) (la_cons (le_callB call_lenD (by rfl) T.z_len (by decide +kernel) (la_cons (le_var (pv 0)) la_nil)) (la_cons le_int la_nil))) la_nil))) (lg_name (pg_name (i := 10) sc_law.nd rfl (by first | exact Or.inl rfl | exact Or.inr rfl))) (lss_cons (ls_set (i := 11) sc_law.nd (le_ix ix_D (le_var (pv 0)) (le_var (pv 10)) (fun _ _ => rfl)))
    (lss_cons (ls_if (lt_cmp op_ltD (le_op op_modD (le_var (pv 11)) le_int) le_int (nomark _)) (lss_cons (ls_set (i := 9) sc_law.nd (le_var (pv 8)))
    (lss_one (ls_set (i := 8) sc_law.nd (le_ix ix_D (le_var (pv 2)) (le_op op_modD (le_op op_divD (le_var (pv 11)) le_int) le_int) (fun _ _ => rfl))))) (lss_one (ls_set (i := 8) sc_law.nd (le_call0 (ok__law_next T) (hr.mono (by omega)) T.g__law_next T.F__law_next.kp T.b__law_next (la_cons (le_var (pv 11)) (la_cons (le_call0 (ok__law_mixed T) (hr.mono (by omega)) T.g__law_mixed T.F__law_mixed.kp T.b__law_mixed (la_cons (le_op op_addD (le_op op_mulD le_int (le_var (pv 11))) (le_var (pv 10))) la_nil) (len_cons (fun _ _ _ _ h => len_nil h))) (la_cons (le_var (pv 8)) (la_cons (le_var (pv 9)) (la_cons (le_call0 (ok__law_fresh T) (hr.mono (by omega)) T.g__law_fresh T.F__law_fresh.kp T.b__law_fresh (la_cons (le_var (pv 1)) (la_cons (le_var (pv 10)) la_nil)) (len_cons (len_cons (fun _ _ _ _ h => len_nil h)))) la_nil))))) (len_cons (len_cons (len_cons (len_cons (len_cons (fun _ _ _ _ h => len_nil h))))))))))
    (lss_one (ls_if (PW.pt (lw_or (lt_cmp op_gtD (le_ix ix_D (le_var (pv 8)) le_int (fun _ _ => rfl)) le_int (nomark _)) (lw_or (lt_cmp op_gtD (le_ix ix_D (le_var (pv 8)) le_int (fun _ _ => rfl)) le_int (nomark _)) (lw_or1 (lt_cmp op_gtD (le_ix ix_D (le_var (pv 8)) le_int (fun _ _ => rfl)) le_int (nomark _)))))) (lss_one (ls_set (i := 8) sc_law.nd (le_ix ix_D (le_var (pv 2)) (le_op op_modD (le_op op_divD (le_var (pv 11)) le_int) le_int) (fun _ _ => rfl)))) lss_nil)))))
    (lss_cons (ls_set (i := 12) sc_law.nd (le_callTy call_dictDD (by rfl) T.z_dict (by decide +kernel) (la_cons (le_var (pv 3)) la_nil)))
    (lss_cons (ls_dput (uu hr.units) (le_var (pv 12)) (le_ix ix_D (le_var (pv 1)) le_int (fun _ _ => rfl)) (le_dix (uu hr.units) (le_var (pv 3)) (le_ix ix_D (le_var (pv 1)) le_int (fun _ _ => rfl)) (fun _ _ => rfl)))
    (lss_cons (ls_dput (uu hr.units) (le_var (pv 12)) (le_ix ix_D (le_var (pv 1)) le_int (fun _ _ => rfl)) (le_dix (uu hr.units) (le_var (pv 3)) (le_ix ix_D (le_var (pv 1)) le_int (fun _ _ => rfl)) (fun _ _ => rfl)))
    (lss_cons (ls_for PassesOwn.never rfl (li_seq (le_lst (la_cons (le_tup (la_cons (le_var (pv 9)) (la_cons (le_var (pv 3)) la_nil))) (la_cons (le_tup (la_cons (le_var (pv 8)) (la_cons (le_var (pv 3)) la_nil))) (la_cons (le_tup (la_cons (le_var (pv 8)) (la_cons (le_var (pv 12)) la_nil))) (la_cons (le_tup (la_cons (le_var (pv 9)) (la_cons (le_var (pv 12)) la_nil))) (la_cons (le_tup (la_cons (le_var (pv 8)) (la_cons (le_var (pv 3)) la_nil))) la_nil))))))) (lg_tup rfl (lgs_cons (lg_name (pg_name (i := 13) sc_law.nd rfl (by first | exact Or.inl rfl | exact Or.inr rfl))) (lgs_cons (lg_name (pg_name (i := 14) sc_law.nd rfl (by first | exact Or.inl rfl | exact Or.inr rfl))) lgs_nil))) (lss_cons (ls_set (i := 15) sc_law.nd (le_meth (ok_Net_lay T 80) (hr.mono (by omega)) T.cl_Net T.m_Net_lay T.k_Net T.b_Net_lay (le_var (pv 4)) (la_cons (le_ix ix_D (le_var (pv 13)) le_int (fun _ _ => rfl)) (la_cons (le_callTy call_dictDD (by rfl) T.z_dict (by decide +kernel) (la_cons (le_var (pv 14)) la_nil)) la_nil)) (len_cons (len_cons (fun _ _ _ _ h => len_nil h)))))
    (lss_cons (ls_set (i := 16) sc_law.nd (le_call0 (ok__law_laid T 80) (hr.mono (by omega)) T.g__law_laid T.F__law_laid.kp T.b__law_laid (la_cons (le_var (pv 5)) (la_cons (le_ix ix_D (le_var (pv 13)) le_int (fun _ _ => rfl)) (la_cons (le_var (pv 14)) la_nil))) (len_cons (len_cons (len_cons (fun _ _ _ _ h => len_nil h))))))
    (lss_one (ls_if (PW.pt (lw_or (lt_not (lt_val (le_call0 (ok__law_whole T) (hr.mono (by omega)) T.g__law_whole T.F__law_whole.kp T.b__law_whole (la_cons (le_var (pv 15)) la_nil) (len_cons (fun _ _ _ _ h => len_nil h))))) (lw_or (lt_cmp (op_neDD hr.units) (le_var (pv 15)) (le_var (pv 16)) (nomark _)) (lw_or1 (lt_not (lt_val (le_call0 (ok__law_alike T 12) (hr.mono (by omega)) T.g__law_alike T.F__law_alike.kp T.b__law_alike (la_cons (le_meth0 (ok_Net_nodes T) (hr.mono (by omega)) T.cl_Net T.m_Net_nodes T.k_Net T.b_Net_nodes (le_var (pv 4))) (la_cons (le_ix ix_D (le_var (pv 5)) le_int (fun _ _ => rfl)) la_nil)) (len_cons (len_cons (fun _ _ _ _ h => len_nil h)))))))))) (lss_one (ls_ret le_bl)) lss_nil)))))
    (lss_one (ls_ret le_bl)))))))))))))))
end
/-! ### what the top has written -/
theorem all_mk {l : PySem.W.OpenLaw} {w : World} {K : PySem.W.Frag} {h : Heap} {mg : Str → Option Value} {fa f0 f1 f2 f3 f4 f5 f6 f7 f8 f9 f10 f11 f12 f13 f14 f15 f16 f17 f18 f19 f20 f21 f22 f23 f24 f25 f26 f27 f28 f29 f30 : Addr} (X : K.In h) (G : h.Ns mainGlobals mg) (hfa : mg "law" = some (.ref fa))
    {od0 an0 od1 an1 od2 an2 od3 an3 od4 an4 od5 an5 od6 an6 od7 an7 od8 an8 od9 an9 od10 an10 od11 an11 od12 an12 od13 an13 od14 an14 od15 an15 od16 an16 od17 an17 od18 an18 od19 an19 od20 an20 od21 an21 od22 an22 od23 an23 od24 an24 od25 an25 od26 an26 od27 an27 od28 an28 od29 an29 od30 an30 : Option Addr} {sl0 sl1 sl2 sl3 sl4 sl5 sl6 sl7 sl8 sl9 sl10 sl11 sl12 sl13 sl14 sl15 sl16 sl17 sl18 sl19 sl20 sl21 sl22 sl23 sl24 sl25 sl26 sl27 sl28 sl29 sl30 : Array (Option Value)} {oc0 kV0 dc0 pm0 cd0 ct0 oc1 kV1 dc1 pm1 cd1 ct1 oc2 kV2 dc2 pm2 cd2 ct2 oc3 kV3 dc3 pm3 cd3 ct3 oc4 kV4 dc4 pm4 cd4 ct4 oc5 kV5 dc5 pm5 cd5 ct5 oc6 kV6 dc6 pm6 cd6 ct6 oc7 kV7 dc7 pm7 cd7 ct7 oc8 kV8 dc8 pm8 cd8 ct8 oc9 kV9 dc9 pm9 cd9 ct9 oc10 kV10 dc10 pm10 cd10 ct10 oc11 kV11 dc11 pm11 cd11 ct11 oc12 kV12 dc12 pm12 cd12 ct12 oc13 kV13 dc13 pm13 cd13 ct13 oc14 kV14 dc14 pm14 cd14 ct14 oc15 kV15 dc15 pm15 cd15 ct15 oc16 kV16 dc16 pm16 cd16 ct16 oc17 kV17 dc17 pm17 cd17 ct17 oc18 kV18 dc18 pm18 cd18 ct18 oc19 kV19 dc19 pm19 cd19 ct19 oc20 kV20 dc20 pm20 cd20 ct20 oc21 kV21 dc21 pm21 cd21 ct21 oc22 kV22 dc22 pm22 cd22 ct22 oc23 kV23 dc23 pm23 cd23 ct23 oc24 kV24 dc24 pm24 cd24 ct24 oc25 kV25 dc25 pm25 cd25 ct25 oc26 kV26 dc26 pm26 cd26 ct26 oc27 kV27 dc27 pm27 cd27 ct27 oc28 kV28 dc28 pm28 cd28 ct28 oc29 kV29 dc29 pm29 cd29 ct29 oc30 kV30 dc30 pm30 cd30 ct30 : Value}
    {C_Net : Addr}
    (a0 : PySem.W.nsIn K mainGlobals "besides_of" = some (some (.ref f0))) (l0 : K.lookup f0 = some ⟨oc0, od0, .func (PySem.W.fnOf "besides_of" "besides_of" (defArgs s_besides_of) (defBody s_besides_of) (defScope s_besides_of) .none kV0 dc0 pm0 an0 cd0 ct0), sl0⟩) (c0 : PySem.W.codeIn K cd0 "besides_of" = true) (k0 : PySem.W.keepIn K (.ref f0) = true)
    (a1 : PySem.W.nsIn K mainGlobals "width_of" = some (some (.ref f1))) (l1 : K.lookup f1 = some ⟨oc1, od1, .func (PySem.W.fnOf "width_of" "width_of" (defArgs s_width_of) (defBody s_width_of) (defScope s_width_of) .none kV1 dc1 pm1 an1 cd1 ct1), sl1⟩) (c1 : PySem.W.codeIn K cd1 "width_of" = true) (k1 : PySem.W.keepIn K (.ref f1) = true)
    (a2 : PySem.W.findIn K (.ref C_Net) "__init__" = some (some (.ref f2))) (i2 : PySem.W.isFn K (.ref f2) = true) (l2 : K.lookup f2 = some ⟨oc2, od2, .func (PySem.W.fnOf "__init__" "Net.__init__" (defArgs s_Net___init__) (defBody s_Net___init__) (defScope s_Net___init__) .none kV2 dc2 pm2 an2 cd2 ct2), sl2⟩) (c2 : PySem.W.codeIn K cd2 "Net.__init__" = true) (k2 : PySem.W.keepIn K (.ref f2) = true)
    (a3 : PySem.W.findIn K (.ref C_Net) "put" = some (some (.ref f3))) (i3 : PySem.W.isFn K (.ref f3) = true) (l3 : K.lookup f3 = some ⟨oc3, od3, .func (PySem.W.fnOf "put" "Net.put" (defArgs s_Net_put) (defBody s_Net_put) (defScope s_Net_put) .none kV3 dc3 pm3 an3 cd3 ct3), sl3⟩) (c3 : PySem.W.codeIn K cd3 "Net.put" = true) (k3 : PySem.W.keepIn K (.ref f3) = true)
    (a4 : PySem.W.findIn K (.ref C_Net) "width" = some (some (.ref f4))) (i4 : PySem.W.isFn K (.ref f4) = true) (l4 : K.lookup f4 = some ⟨oc4, od4, .func (PySem.W.fnOf "width" "Net.width" (defArgs s_Net_width) (defBody s_Net_width) (defScope s_Net_width) .none kV4 dc4 pm4 an4 cd4 ct4), sl4⟩) (c4 : PySem.W.codeIn K cd4 "Net.width" = true) (k4 : PySem.W.keepIn K (.ref f4) = true)
    (a5 : PySem.W.findIn K (.ref C_Net) "nodes" = some (some (.ref f5))) (i5 : PySem.W.isFn K (.ref f5) = true) (l5 : K.lookup f5 = some ⟨oc5, od5, .func (PySem.W.fnOf "nodes" "Net.nodes" (defArgs s_Net_nodes) (defBody s_Net_nodes) (defScope s_Net_nodes) .none kV5 dc5 pm5 an5 cd5 ct5), sl5⟩) (c5 : PySem.W.codeIn K cd5 "Net.nodes" = true) (k5 : PySem.W.keepIn K (.ref f5) = true)
    (a6 : PySem.W.nsIn K mainGlobals "_law_cell_at" = some (some (.ref f6))) (l6 : K.lookup f6 = some ⟨oc6, od6, .func (PySem.W.fnOf "_law_cell_at" "_law_cell_at" (defArgs s__law_cell_at) (defBody s__law_cell_at) (defScope s__law_cell_at) .none kV6 dc6 pm6 an6 cd6 ct6), sl6⟩) (c6 : PySem.W.codeIn K cd6 "_law_cell_at" = true) (k6 : PySem.W.keepIn K (.ref f6) = true)
    (a7 : PySem.W.nsIn K mainGlobals "_law_whole" = some (some (.ref f7))) (l7 : K.lookup f7 = some ⟨oc7, od7, .func (PySem.W.fnOf "_law_whole" "_law_whole" (defArgs s__law_whole) (defBody s__law_whole) (defScope s__law_whole) .none kV7 dc7 pm7 an7 cd7 ct7), sl7⟩) (c7 : PySem.W.codeIn K cd7 "_law_whole" = true) (k7 : PySem.W.keepIn K (.ref f7) = true)
    (a8 : PySem.W.nsIn K mainGlobals "_law_mixed" = some (some (.ref f8))) (l8 : K.lookup f8 = some ⟨oc8, od8, .func (PySem.W.fnOf "_law_mixed" "_law_mixed" (defArgs s__law_mixed) (defBody s__law_mixed) (defScope s__law_mixed) .none kV8 dc8 pm8 an8 cd8 ct8), sl8⟩) (c8 : PySem.W.codeIn K cd8 "_law_mixed" = true) (k8 : PySem.W.keepIn K (.ref f8) = true)
    (a9 : PySem.W.nsIn K mainGlobals "_law_digits" = some (some (.ref f9))) (l9 : K.lookup f9 = some ⟨oc9, od9, .func (PySem.W.fnOf "_law_digits" "_law_digits" (defArgs s__law_digits) (defBody s__law_digits) (defScope s__law_digits) .none kV9 dc9 pm9 an9 cd9 ct9), sl9⟩) (c9 : PySem.W.codeIn K cd9 "_law_digits" = true) (k9 : PySem.W.keepIn K (.ref f9) = true)
    (a10 : PySem.W.nsIn K mainGlobals "_law_fresh" = some (some (.ref f10))) (l10 : K.lookup f10 = some ⟨oc10, od10, .func (PySem.W.fnOf "_law_fresh" "_law_fresh" (defArgs s__law_fresh) (defBody s__law_fresh) (defScope s__law_fresh) .none kV10 dc10 pm10 an10 cd10 ct10), sl10⟩) (c10 : PySem.W.codeIn K cd10 "_law_fresh" = true) (k10 : PySem.W.keepIn K (.ref f10) = true)
    (a11 : PySem.W.nsIn K mainGlobals "_law_term" = some (some (.ref f11))) (l11 : K.lookup f11 = some ⟨oc11, od11, .func (PySem.W.fnOf "_law_term" "_law_term" (defArgs s__law_term) (defBody s__law_term) (defScope s__law_term) .none kV11 dc11 pm11 an11 cd11 ct11), sl11⟩) (c11 : PySem.W.codeIn K cd11 "_law_term" = true) (k11 : PySem.W.keepIn K (.ref f11) = true)
    (a12 : PySem.W.nsIn K mainGlobals "_law_asked" = some (some (.ref f12))) (l12 : K.lookup f12 = some ⟨oc12, od12, .func (PySem.W.fnOf "_law_asked" "_law_asked" (defArgs s__law_asked) (defBody s__law_asked) (defScope s__law_asked) .none kV12 dc12 pm12 an12 cd12 ct12), sl12⟩) (c12 : PySem.W.codeIn K cd12 "_law_asked" = true) (k12 : PySem.W.keepIn K (.ref f12) = true)
    (a13 : PySem.W.nsIn K mainGlobals "_law_fitted" = some (some (.ref f13))) (l13 : K.lookup f13 = some ⟨oc13, od13, .func (PySem.W.fnOf "_law_fitted" "_law_fitted" (defArgs s__law_fitted) (defBody s__law_fitted) (defScope s__law_fitted) .none kV13 dc13 pm13 an13 cd13 ct13), sl13⟩) (c13 : PySem.W.codeIn K cd13 "_law_fitted" = true) (k13 : PySem.W.keepIn K (.ref f13) = true)
    (a14 : PySem.W.nsIn K mainGlobals "_law_once" = some (some (.ref f14))) (l14 : K.lookup f14 = some ⟨oc14, od14, .func (PySem.W.fnOf "_law_once" "_law_once" (defArgs s__law_once) (defBody s__law_once) (defScope s__law_once) .none kV14 dc14 pm14 an14 cd14 ct14), sl14⟩) (c14 : PySem.W.codeIn K cd14 "_law_once" = true) (k14 : PySem.W.keepIn K (.ref f14) = true)
    (a15 : PySem.W.nsIn K mainGlobals "_law_besides" = some (some (.ref f15))) (l15 : K.lookup f15 = some ⟨oc15, od15, .func (PySem.W.fnOf "_law_besides" "_law_besides" (defArgs s__law_besides) (defBody s__law_besides) (defScope s__law_besides) .none kV15 dc15 pm15 an15 cd15 ct15), sl15⟩) (c15 : PySem.W.codeIn K cd15 "_law_besides" = true) (k15 : PySem.W.keepIn K (.ref f15) = true)
    (a16 : PySem.W.nsIn K mainGlobals "_law_wide" = some (some (.ref f16))) (l16 : K.lookup f16 = some ⟨oc16, od16, .func (PySem.W.fnOf "_law_wide" "_law_wide" (defArgs s__law_wide) (defBody s__law_wide) (defScope s__law_wide) .none kV16 dc16 pm16 an16 cd16 ct16), sl16⟩) (c16 : PySem.W.codeIn K cd16 "_law_wide" = true) (k16 : PySem.W.keepIn K (.ref f16) = true)
    (a17 : PySem.W.findIn K (.ref C_Net) "table" = some (some (.ref f17))) (i17 : PySem.W.isFn K (.ref f17) = true) (l17 : K.lookup f17 = some ⟨oc17, od17, .func (PySem.W.fnOf "table" "Net.table" (defArgs s_Net_table) (defBody s_Net_table) (defScope s_Net_table) .none kV17 dc17 pm17 an17 cd17 ct17), sl17⟩) (c17 : PySem.W.codeIn K cd17 "Net.table" = true) (k17 : PySem.W.keepIn K (.ref f17) = true)
    (a18 : PySem.W.findIn K (.ref C_Net) "worded" = some (some (.ref f18))) (i18 : PySem.W.isFn K (.ref f18) = true) (l18 : K.lookup f18 = some ⟨oc18, od18, .func (PySem.W.fnOf "worded" "Net.worded" (defArgs s_Net_worded) (defBody s_Net_worded) (defScope s_Net_worded) .none kV18 dc18 pm18 an18 cd18 ct18), sl18⟩) (c18 : PySem.W.codeIn K cd18 "Net.worded" = true) (k18 : PySem.W.keepIn K (.ref f18) = true)
    (a19 : PySem.W.nsIn K mainGlobals "_law_names" = some (some (.ref f19))) (l19 : K.lookup f19 = some ⟨oc19, od19, .func (PySem.W.fnOf "_law_names" "_law_names" (defArgs s__law_names) (defBody s__law_names) (defScope s__law_names) .none kV19 dc19 pm19 an19 cd19 ct19), sl19⟩) (c19 : PySem.W.codeIn K cd19 "_law_names" = true) (k19 : PySem.W.keepIn K (.ref f19) = true)
    (a20 : PySem.W.nsIn K mainGlobals "_law_grouped" = some (some (.ref f20))) (l20 : K.lookup f20 = some ⟨oc20, od20, .func (PySem.W.fnOf "_law_grouped" "_law_grouped" (defArgs s__law_grouped) (defBody s__law_grouped) (defScope s__law_grouped) .none kV20 dc20 pm20 an20 cd20 ct20), sl20⟩) (c20 : PySem.W.codeIn K cd20 "_law_grouped" = true) (k20 : PySem.W.keepIn K (.ref f20) = true)
    (a21 : PySem.W.nsIn K mainGlobals "_law_two" = some (some (.ref f21))) (l21 : K.lookup f21 = some ⟨oc21, od21, .func (PySem.W.fnOf "_law_two" "_law_two" (defArgs s__law_two) (defBody s__law_two) (defScope s__law_two) .none kV21 dc21 pm21 an21 cd21 ct21), sl21⟩) (c21 : PySem.W.codeIn K cd21 "_law_two" = true) (k21 : PySem.W.keepIn K (.ref f21) = true)
    (a22 : PySem.W.nsIn K mainGlobals "_law_put" = some (some (.ref f22))) (l22 : K.lookup f22 = some ⟨oc22, od22, .func (PySem.W.fnOf "_law_put" "_law_put" (defArgs s__law_put) (defBody s__law_put) (defScope s__law_put) .none kV22 dc22 pm22 an22 cd22 ct22), sl22⟩) (c22 : PySem.W.codeIn K cd22 "_law_put" = true) (k22 : PySem.W.keepIn K (.ref f22) = true)
    (a23 : PySem.W.nsIn K mainGlobals "_law_one" = some (some (.ref f23))) (l23 : K.lookup f23 = some ⟨oc23, od23, .func (PySem.W.fnOf "_law_one" "_law_one" (defArgs s__law_one) (defBody s__law_one) (defScope s__law_one) .none kV23 dc23 pm23 an23 cd23 ct23), sl23⟩) (c23 : PySem.W.codeIn K cd23 "_law_one" = true) (k23 : PySem.W.keepIn K (.ref f23) = true)
    (a24 : PySem.W.nsIn K mainGlobals "_law_rounds" = some (some (.ref f24))) (l24 : K.lookup f24 = some ⟨oc24, od24, .func (PySem.W.fnOf "_law_rounds" "_law_rounds" (defArgs s__law_rounds) (defBody s__law_rounds) (defScope s__law_rounds) .none kV24 dc24 pm24 an24 cd24 ct24), sl24⟩) (c24 : PySem.W.codeIn K cd24 "_law_rounds" = true) (k24 : PySem.W.keepIn K (.ref f24) = true)
    (a25 : PySem.W.nsIn K mainGlobals "_law_next" = some (some (.ref f25))) (l25 : K.lookup f25 = some ⟨oc25, od25, .func (PySem.W.fnOf "_law_next" "_law_next" (defArgs s__law_next) (defBody s__law_next) (defScope s__law_next) .none kV25 dc25 pm25 an25 cd25 ct25), sl25⟩) (c25 : PySem.W.codeIn K cd25 "_law_next" = true) (k25 : PySem.W.keepIn K (.ref f25) = true)
    (a26 : PySem.W.nsIn K mainGlobals "_law_alike" = some (some (.ref f26))) (l26 : K.lookup f26 = some ⟨oc26, od26, .func (PySem.W.fnOf "_law_alike" "_law_alike" (defArgs s__law_alike) (defBody s__law_alike) (defScope s__law_alike) .none kV26 dc26 pm26 an26 cd26 ct26), sl26⟩) (c26 : PySem.W.codeIn K cd26 "_law_alike" = true) (k26 : PySem.W.keepIn K (.ref f26) = true)
    (a27 : PySem.W.findIn K (.ref C_Net) "lay_rounds" = some (some (.ref f27))) (i27 : PySem.W.isFn K (.ref f27) = true) (l27 : K.lookup f27 = some ⟨oc27, od27, .func (PySem.W.fnOf "lay_rounds" "Net.lay_rounds" (defArgs s_Net_lay_rounds) (defBody s_Net_lay_rounds) (defScope s_Net_lay_rounds) .none kV27 dc27 pm27 an27 cd27 ct27), sl27⟩) (c27 : PySem.W.codeIn K cd27 "Net.lay_rounds" = true) (k27 : PySem.W.keepIn K (.ref f27) = true)
    (a28 : PySem.W.findIn K (.ref C_Net) "lay" = some (some (.ref f28))) (i28 : PySem.W.isFn K (.ref f28) = true) (l28 : K.lookup f28 = some ⟨oc28, od28, .func (PySem.W.fnOf "lay" "Net.lay" (defArgs s_Net_lay) (defBody s_Net_lay) (defScope s_Net_lay) .none kV28 dc28 pm28 an28 cd28 ct28), sl28⟩) (c28 : PySem.W.codeIn K cd28 "Net.lay" = true) (k28 : PySem.W.keepIn K (.ref f28) = true)
    (a29 : PySem.W.nsIn K mainGlobals "_law_laid" = some (some (.ref f29))) (l29 : K.lookup f29 = some ⟨oc29, od29, .func (PySem.W.fnOf "_law_laid" "_law_laid" (defArgs s__law_laid) (defBody s__law_laid) (defScope s__law_laid) .none kV29 dc29 pm29 an29 cd29 ct29), sl29⟩) (c29 : PySem.W.codeIn K cd29 "_law_laid" = true) (k29 : PySem.W.keepIn K (.ref f29) = true)
    (a30 : PySem.W.nsIn K mainGlobals "law" = some (some (.ref f30))) (l30 : K.lookup f30 = some ⟨oc30, od30, .func (PySem.W.fnOf "law" "law" (defArgs s_law) (defBody s_law) (defScope s_law) .none kV30 dc30 pm30 an30 cd30 ct30), sl30⟩) (c30 : PySem.W.codeIn K cd30 "law" = true) (k30 : PySem.W.keepIn K (.ref f30) = true)
    (z_all : PySem.W.nsIn K mainGlobals "all" = some none)
    (z_bool : PySem.W.nsIn K mainGlobals "bool" = some none)
    (z_dict : PySem.W.nsIn K mainGlobals "dict" = some none)
    (z_int : PySem.W.nsIn K mainGlobals "int" = some none)
    (z_isinstance : PySem.W.nsIn K mainGlobals "isinstance" = some none)
    (z_len : PySem.W.nsIn K mainGlobals "len" = some none)
    (z_list : PySem.W.nsIn K mainGlobals "list" = some none)
    (z_max : PySem.W.nsIn K mainGlobals "max" = some none)
    (z_min : PySem.W.nsIn K mainGlobals "min" = some none)
    (z_range : PySem.W.nsIn K mainGlobals "range" = some none)
    (z_str : PySem.W.nsIn K mainGlobals "str" = some none)
    (z_sum : PySem.W.nsIn K mainGlobals "sum" = some none)
    (z_tuple : PySem.W.nsIn K mainGlobals "tuple" = some none)
    (z_zip : PySem.W.nsIn K mainGlobals "zip" = some none)
    {vv_TWO : Addr} {oo_TWO : Option Addr} {oi_TWO : Array Value} {on_TWO : Nat} {os_TWO : Array (Option Value)} (v_TWO : PySem.W.nsIn K mainGlobals "TWO" = some (some (.ref vv_TWO))) (w_TWO : K.lookup vv_TWO = some ⟨.type "tuple", oo_TWO, .seq oi_TWO on_TWO, os_TWO⟩) (u_TWO : oi_TWO.size ≤ sizeLine) (r_TWO : Vals ((["join", "left", "notin", "pour", "both", "either", "less"] : List Str).map V.str) oi_TWO.toList)
    (xn_Net : PySem.W.nsIn K mainGlobals "Net" = some (some (.ref C_Net)))
    (xg_Net : PySem.W.plainGet K C_Net Str.empty = true)
    (xh_Net : PySem.W.hasDictIn K C_Net = true)
    (xp_Net : PySem.W.plainOver K C_Net = true)
    (xs_Net : PySem.W.findIn K (.ref C_Net) "__setattr__" = some (some (.builtin "object.__setattr__")))
    (xm_Net : PySem.W.makesIn K C_Net = true)
    (xk_Net : PySem.W.keepIn K (.ref C_Net) = true)
    (xf_Net_laid : PySem.W.findIn K (.ref C_Net) "laid" = some none)
    (xf_Net_wide : PySem.W.findIn K (.ref C_Net) "wide" = some none)
    (xf_Net_numbers : PySem.W.findIn K (.ref C_Net) "numbers" = some none)
    (true_law : ∀ ns : List Int, ns.length ≤ 63 → ∃ st, f_law [.ref 0] [.rl (ns.map D.int)] = .ok (.bl true) st) :
    ∃ fd : FuncData, (∀ (s : Shared) (v : Value), BindsTo s fd ⟨[v], []⟩ [("_law_script", v)]) ∧ ∀ base : Heap, K.In base → base.Ns mainGlobals mg → FnOk l.prog w K mg base CX0 83 fa fd ["_law_script"] (spLaw K) := by
  have e := hfa.symm.trans (PySem.W.mg_of X G a30)
  cases e
  have F0 := fun_mk (st := s_besides_of) l0 c0 k0
  have b0 := F0.binds (ps := ["view", "width"]) fun _ _ _ _ _ _ us hl => match us, hl with | [_, _], _ => rfl
  have F1 := fun_mk (st := s_width_of) l1 c1 k1
  have b1 := F1.binds (ps := ["node", "widths"]) fun _ _ _ _ _ _ us hl => match us, hl with | [_, _], _ => rfl
  have F2 := fun_mk (st := s_Net___init__) l2 c2 k2
  have b2 := F2.binds (ps := ["self"]) fun _ _ _ _ _ _ us hl => match us, hl with | [_], _ => rfl
  have F3 := fun_mk (st := s_Net_put) l3 c3 k3
  have b3 := F3.binds (ps := ["self", "node", "width"]) fun _ _ _ _ _ _ us hl => match us, hl with | [_, _, _], _ => rfl
  have F4 := fun_mk (st := s_Net_width) l4 c4 k4
  have b4 := F4.binds (ps := ["self", "k"]) fun _ _ _ _ _ _ us hl => match us, hl with | [_, _], _ => rfl
  have F5 := fun_mk (st := s_Net_nodes) l5 c5 k5
  have b5 := F5.binds (ps := ["self"]) fun _ _ _ _ _ _ us hl => match us, hl with | [_], _ => rfl
  have F6 := fun_mk (st := s__law_cell_at) l6 c6 k6
  have b6 := F6.binds (ps := ["_law_script", "_law_k"]) fun _ _ _ _ _ _ us hl => match us, hl with | [_, _], _ => rfl
  have F7 := fun_mk (st := s__law_whole) l7 c7 k7
  have b7 := F7.binds (ps := ["_law_found"]) fun _ _ _ _ _ _ us hl => match us, hl with | [_], _ => rfl
  have F8 := fun_mk (st := s__law_mixed) l8 c8 k8
  have b8 := F8.binds (ps := ["_law_cell"]) fun _ _ _ _ _ _ us hl => match us, hl with | [_], _ => rfl
  have F9 := fun_mk (st := s__law_digits) l9 c9 k9
  have b9 := F9.binds (ps := ["_law_number", "_law_many", "_law_top"]) fun _ _ _ _ _ _ us hl => match us, hl with | [_, _, _], _ => rfl
  have F10 := fun_mk (st := s__law_fresh) l10 c10 k10
  have b10 := F10.binds (ps := ["_law_names_here", "_law_k"]) fun _ _ _ _ _ _ us hl => match us, hl with | [_, _], _ => rfl
  have F11 := fun_mk (st := s__law_term) l11 c11 k11
  have b11 := F11.binds (ps := ["_law_number", "_law_wide_here"]) fun _ _ _ _ _ _ us hl => match us, hl with | [_, _], _ => rfl
  have F12 := fun_mk (st := s__law_asked) l12 c12 k12
  have b12 := F12.binds (ps := ["_law_number", "_law_wide_here"]) fun _ _ _ _ _ _ us hl => match us, hl with | [_, _], _ => rfl
  have F13 := fun_mk (st := s__law_fitted) l13 c13 k13
  have b13 := F13.binds (ps := ["_law_now", "_law_wide_here"]) fun _ _ _ _ _ _ us hl => match us, hl with | [_, _], _ => rfl
  have F14 := fun_mk (st := s__law_once) l14 c14 k14
  have b14 := F14.binds (ps := ["_law_now"]) fun _ _ _ _ _ _ us hl => match us, hl with | [_], _ => rfl
  have F15 := fun_mk (st := s__law_besides) l15 c15 k15
  have b15 := F15.binds (ps := ["_law_view", "_law_wide_here"]) fun _ _ _ _ _ _ us hl => match us, hl with | [_, _], _ => rfl
  have F16 := fun_mk (st := s__law_wide) l16 c16 k16
  have b16 := F16.binds (ps := ["_law_node", "_law_wides"]) fun _ _ _ _ _ _ us hl => match us, hl with | [_, _], _ => rfl
  have F17 := fun_mk (st := s_Net_table) l17 c17 k17
  have b17 := F17.binds (ps := ["self", "name", "width"]) fun _ _ _ _ _ _ us hl => match us, hl with | [_, _, _], _ => rfl
  have F18 := fun_mk (st := s_Net_worded) l18 c18 k18
  have b18 := F18.binds (ps := ["self", "word", "besides", "inputs"]) fun _ _ _ _ _ _ us hl => match us, hl with | [_, _, _, _], _ => rfl
  have F19 := fun_mk (st := s__law_names) l19 c19 k19
  have b19 := F19.binds (ps := ["_law_cell"]) fun _ _ _ _ _ _ us hl => match us, hl with | [_], _ => rfl
  have F20 := fun_mk (st := s__law_grouped) l20 c20 k20
  have b20 := F20.binds (ps := ["_law_number", "_law_word", "_law_now"]) fun _ _ _ _ _ _ us hl => match us, hl with | [_, _, _], _ => rfl
  have F21 := fun_mk (st := s__law_two) l21 c21 k21
  have b21 := F21.binds (ps := ["_law_number", "_law_word", "_law_now", "_law_kept"]) fun _ _ _ _ _ _ us hl => match us, hl with | [_, _, _, _], _ => rfl
  have F22 := fun_mk (st := s__law_put) l22 c22 k22
  have b22 := F22.binds (ps := ["_law_laid_here", "_law_node"]) fun _ _ _ _ _ _ us hl => match us, hl with | [_, _], _ => rfl
  have F23 := fun_mk (st := s__law_one) l23 c23 k23
  have b23 := F23.binds (ps := ["_law_number", "_law_word", "_law_now"]) fun _ _ _ _ _ _ us hl => match us, hl with | [_, _, _], _ => rfl
  have F24 := fun_mk (st := s__law_rounds) l24 c24 k24
  have b24 := F24.binds (ps := ["_law_number", "_law_now", "_law_kept", "_law_name"]) fun _ _ _ _ _ _ us hl => match us, hl with | [_, _, _, _], _ => rfl
  have F25 := fun_mk (st := s__law_next) l25 c25 k25
  have b25 := F25.binds (ps := ["_law_cell", "_law_number", "_law_now", "_law_kept", "_law_name"]) fun _ _ _ _ _ _ us hl => match us, hl with | [_, _, _, _, _], _ => rfl
  have F26 := fun_mk (st := s__law_alike) l26 c26 k26
  have b26 := F26.binds (ps := ["_law_found", "_law_due"]) fun _ _ _ _ _ _ us hl => match us, hl with | [_, _], _ => rfl
  have F27 := fun_mk (st := s_Net_lay_rounds) l27 c27 k27
  have b27 := F27.binds (ps := ["self", "view", "names"]) fun _ _ _ _ _ _ us hl => match us, hl with | [_, _, _], _ => rfl
  have F28 := fun_mk (st := s_Net_lay) l28 c28 k28
  have b28 := F28.binds (ps := ["self", "view", "names"]) fun _ _ _ _ _ _ us hl => match us, hl with | [_, _, _], _ => rfl
  have F29 := fun_mk (st := s__law_laid) l29 c29 k29
  have b29 := F29.binds (ps := ["_law_laid_here", "_law_view", "_law_names_here"]) fun _ _ _ _ _ _ us hl => match us, hl with | [_, _, _], _ => rfl
  have F30 := fun_mk (st := s_law) l30 c30 k30
  have b30 := F30.binds (ps := ["_law_script"]) fun _ _ _ _ _ _ us hl => match us, hl with | [_], _ => rfl
  have T : Tx K mg := ⟨_, _, F0, PySem.W.mg_of X G a0, b0, _, _, F1, PySem.W.mg_of X G a1, b1, _, _, F2, b2, _, _, F3, b3, _, _, F4, b4, _, _, F5, b5, _, _, F6, PySem.W.mg_of X G a6, b6, _, _, F7, PySem.W.mg_of X G a7, b7, _, _, F8, PySem.W.mg_of X G a8, b8, _, _, F9, PySem.W.mg_of X G a9, b9, _, _, F10, PySem.W.mg_of X G a10, b10, _, _, F11, PySem.W.mg_of X G a11, b11, _, _, F12, PySem.W.mg_of X G a12, b12, _, _, F13, PySem.W.mg_of X G a13, b13, _, _, F14, PySem.W.mg_of X G a14, b14, _, _, F15, PySem.W.mg_of X G a15, b15, _, _, F16, PySem.W.mg_of X G a16, b16, _, _, F17, b17, _, _, F18, b18, _, _, F19, PySem.W.mg_of X G a19, b19, _, _, F20, PySem.W.mg_of X G a20, b20, _, _, F21, PySem.W.mg_of X G a21, b21, _, _, F22, PySem.W.mg_of X G a22, b22, _, _, F23, PySem.W.mg_of X G a23, b23, _, _, F24, PySem.W.mg_of X G a24, b24, _, _, F25, PySem.W.mg_of X G a25, b25, _, _, F26, PySem.W.mg_of X G a26, b26, _, _, F27, b27, _, _, F28, b28, _, _, F29, PySem.W.mg_of X G a29, b29, _, _, F30, PySem.W.mg_of X G a30, b30, PySem.W.mg_none_of X G z_all, PySem.W.mg_none_of X G z_bool, PySem.W.mg_none_of X G z_dict, PySem.W.mg_none_of X G z_int, PySem.W.mg_none_of X G z_isinstance, PySem.W.mg_none_of X G z_len, PySem.W.mg_none_of X G z_list, PySem.W.mg_none_of X G z_max, PySem.W.mg_none_of X G z_min, PySem.W.mg_none_of X G z_range, PySem.W.mg_none_of X G z_str, PySem.W.mg_none_of X G z_sum, PySem.W.mg_none_of X G z_tuple, PySem.W.mg_none_of X G z_zip, ⟨_, PySem.W.mg_of X G v_TWO, ⟨_, _, _, w_TWO, rfl, rfl, u_TWO, r_TWO⟩⟩, _, PySem.W.mg_of X G xn_Net, ⟨xg_Net, xh_Net, xp_Net, xs_Net⟩, ⟨xm_Net, a2, i2, xk_Net⟩, ⟨a3, i3, k3⟩, ⟨a4, i4, k4⟩, ⟨a5, i5, k5⟩, ⟨a17, i17, k17⟩, ⟨a18, i18, k18⟩, ⟨a27, i27, k27⟩, ⟨a28, i28, k28⟩, xf_Net_laid, xf_Net_wide, xf_Net_numbers⟩
  exact ⟨_, fun s v => .of_eq rfl, fun base _ _ => by
    have T : Tx K mg := ⟨_, _, F0, PySem.W.mg_of X G a0, b0, _, _, F1, PySem.W.mg_of X G a1, b1, _, _, F2, b2, _, _, F3, b3, _, _, F4, b4, _, _, F5, b5, _, _, F6, PySem.W.mg_of X G a6, b6, _, _, F7, PySem.W.mg_of X G a7, b7, _, _, F8, PySem.W.mg_of X G a8, b8, _, _, F9, PySem.W.mg_of X G a9, b9, _, _, F10, PySem.W.mg_of X G a10, b10, _, _, F11, PySem.W.mg_of X G a11, b11, _, _, F12, PySem.W.mg_of X G a12, b12, _, _, F13, PySem.W.mg_of X G a13, b13, _, _, F14, PySem.W.mg_of X G a14, b14, _, _, F15, PySem.W.mg_of X G a15, b15, _, _, F16, PySem.W.mg_of X G a16, b16, _, _, F17, b17, _, _, F18, b18, _, _, F19, PySem.W.mg_of X G a19, b19, _, _, F20, PySem.W.mg_of X G a20, b20, _, _, F21, PySem.W.mg_of X G a21, b21, _, _, F22, PySem.W.mg_of X G a22, b22, _, _, F23, PySem.W.mg_of X G a23, b23, _, _, F24, PySem.W.mg_of X G a24, b24, _, _, F25, PySem.W.mg_of X G a25, b25, _, _, F26, PySem.W.mg_of X G a26, b26, _, _, F27, b27, _, _, F28, b28, _, _, F29, PySem.W.mg_of X G a29, b29, _, _, F30, PySem.W.mg_of X G a30, b30, PySem.W.mg_none_of X G z_all, PySem.W.mg_none_of X G z_bool, PySem.W.mg_none_of X G z_dict, PySem.W.mg_none_of X G z_int, PySem.W.mg_none_of X G z_isinstance, PySem.W.mg_none_of X G z_len, PySem.W.mg_none_of X G z_list, PySem.W.mg_none_of X G z_max, PySem.W.mg_none_of X G z_min, PySem.W.mg_none_of X G z_range, PySem.W.mg_none_of X G z_str, PySem.W.mg_none_of X G z_sum, PySem.W.mg_none_of X G z_tuple, PySem.W.mg_none_of X G z_zip, ⟨_, PySem.W.mg_of X G v_TWO, ⟨_, _, _, w_TWO, rfl, rfl, u_TWO, r_TWO⟩⟩, _, PySem.W.mg_of X G xn_Net, ⟨xg_Net, xh_Net, xp_Net, xs_Net⟩, ⟨xm_Net, a2, i2, xk_Net⟩, ⟨a3, i3, k3⟩, ⟨a4, i4, k4⟩, ⟨a5, i5, k5⟩, ⟨a17, i17, k17⟩, ⟨a18, i18, k18⟩, ⟨a27, i27, k27⟩, ⟨a28, i28, k28⟩, xf_Net_laid, xf_Net_wide, xf_Net_numbers⟩
    exact (ok_law (P := l.prog) (w := w) (base := base) ⟨_, _, F0, PySem.W.mg_of X G a0, b0, _, _, F1, PySem.W.mg_of X G a1, b1, _, _, F2, b2, _, _, F3, b3, _, _, F4, b4, _, _, F5, b5, _, _, F6, PySem.W.mg_of X G a6, b6, _, _, F7, PySem.W.mg_of X G a7, b7, _, _, F8, PySem.W.mg_of X G a8, b8, _, _, F9, PySem.W.mg_of X G a9, b9, _, _, F10, PySem.W.mg_of X G a10, b10, _, _, F11, PySem.W.mg_of X G a11, b11, _, _, F12, PySem.W.mg_of X G a12, b12, _, _, F13, PySem.W.mg_of X G a13, b13, _, _, F14, PySem.W.mg_of X G a14, b14, _, _, F15, PySem.W.mg_of X G a15, b15, _, _, F16, PySem.W.mg_of X G a16, b16, _, _, F17, b17, _, _, F18, b18, _, _, F19, PySem.W.mg_of X G a19, b19, _, _, F20, PySem.W.mg_of X G a20, b20, _, _, F21, PySem.W.mg_of X G a21, b21, _, _, F22, PySem.W.mg_of X G a22, b22, _, _, F23, PySem.W.mg_of X G a23, b23, _, _, F24, PySem.W.mg_of X G a24, b24, _, _, F25, PySem.W.mg_of X G a25, b25, _, _, F26, PySem.W.mg_of X G a26, b26, _, _, F27, b27, _, _, F28, b28, _, _, F29, PySem.W.mg_of X G a29, b29, _, _, F30, PySem.W.mg_of X G a30, b30, PySem.W.mg_none_of X G z_all, PySem.W.mg_none_of X G z_bool, PySem.W.mg_none_of X G z_dict, PySem.W.mg_none_of X G z_int, PySem.W.mg_none_of X G z_isinstance, PySem.W.mg_none_of X G z_len, PySem.W.mg_none_of X G z_list, PySem.W.mg_none_of X G z_max, PySem.W.mg_none_of X G z_min, PySem.W.mg_none_of X G z_range, PySem.W.mg_none_of X G z_str, PySem.W.mg_none_of X G z_sum, PySem.W.mg_none_of X G z_tuple, PySem.W.mg_none_of X G z_zip, ⟨_, PySem.W.mg_of X G v_TWO, ⟨_, _, _, w_TWO, rfl, rfl, u_TWO, r_TWO⟩⟩, _, PySem.W.mg_of X G xn_Net, ⟨xg_Net, xh_Net, xp_Net, xs_Net⟩, ⟨xm_Net, a2, i2, xk_Net⟩, ⟨a3, i3, k3⟩, ⟨a4, i4, k4⟩, ⟨a5, i5, k5⟩, ⟨a17, i17, k17⟩, ⟨a18, i18, k18⟩, ⟨a27, i27, k27⟩, ⟨a28, i28, k28⟩, xf_Net_laid, xf_Net_wide, xf_Net_numbers⟩).imp (law_end (g := ⟨l.prog, w, K, mg, B0⟩) rfl true_law)⟩
end Law
open PySem PySem.W PyProof.Rows in
set_option maxRecDepth 100000 in
set_option maxHeartbeats 0 in
theorem PySem.Challenge.cw_viewkeep_k41_in_which_order_holds : PySem.Challenge.rw_viewkeep_k41_in_which_order.Holds := by
  w_on; o_law; k_head; (case hw => w_witness2)
  k_fill
  refine L2.walk_of (l := PySem.Challenge.rw_viewkeep_k41_in_which_order) (n := 63) (k := 83) (x := "_law_script") (CX := fun _ => L2.CX0) (sp := fun w => VL.spLaw _) rfl (by decide) rfl ⟨rfl, by decide, by decide⟩ (fun w h Y => PySem.W.kIn_of Y) ?F (fun _ _ a ns hl hO hS => ⟨a, ns, rfl, hS, hl, hO, fun _ => rfl⟩) (fun _ _ _ _ _ h => h)
  case F =>
    intro w mg fa h KX G hmg
    refine' Law.all_mk KX G hmg ?a0 ?l0 ?c0 ?k0 ?a1 ?l1 ?c1 ?k1 ?a2 ?i2 ?l2 ?c2 ?k2 ?a3 ?i3 ?l3 ?c3 ?k3 ?a4 ?i4 ?l4 ?c4 ?k4 ?a5 ?i5 ?l5 ?c5 ?k5 ?a6 ?l6 ?c6 ?k6 ?a7 ?l7 ?c7 ?k7 ?a8 ?l8 ?c8 ?k8 ?a9 ?l9 ?c9 ?k9 ?a10 ?l10 ?c10 ?k10 ?a11 ?l11 ?c11 ?k11 ?a12 ?l12 ?c12 ?k12 ?a13 ?l13 ?c13 ?k13 ?a14 ?l14 ?c14 ?k14 ?a15 ?l15 ?c15 ?k15 ?a16 ?l16 ?c16 ?k16 ?a17 ?i17 ?l17 ?c17 ?k17 ?a18 ?i18 ?l18 ?c18 ?k18 ?a19 ?l19 ?c19 ?k19 ?a20 ?l20 ?c20 ?k20 ?a21 ?l21 ?c21 ?k21 ?a22 ?l22 ?c22 ?k22 ?a23 ?l23 ?c23 ?k23 ?a24 ?l24 ?c24 ?k24 ?a25 ?l25 ?c25 ?k25 ?a26 ?l26 ?c26 ?k26 ?a27 ?i27 ?l27 ?c27 ?k27 ?a28 ?i28 ?l28 ?c28 ?k28 ?a29 ?l29 ?c29 ?k29 ?a30 ?l30 ?c30 ?k30 ?z0 ?z1 ?z2 ?z3 ?z4 ?z5 ?z6 ?z7 ?z8 ?z9 ?z10 ?z11 ?z12 ?z13 ?v_TWO ?w_TWO ?u_TWO ?r_TWO ?xn_Net ?xg_Net ?xh_Net ?xp_Net ?xs_Net ?xm_Net ?xk_Net ?xf_Net_laid ?xf_Net_wide ?xf_Net_numbers Law.true_law
    (case xn_Net => k_is)
    (case a0 => k_is)
    (case l0 => k_is)
    (case c0 => k_is)
    (case k0 => k_is)
    (case a1 => k_is)
    (case l1 => k_is)
    (case c1 => k_is)
    (case k1 => k_is)
    (case a2 => k_is)
    (case i2 => k_is)
    (case l2 => k_is)
    (case c2 => k_is)
    (case k2 => k_is)
    (case a3 => k_is)
    (case i3 => k_is)
    (case l3 => k_is)
    (case c3 => k_is)
    (case k3 => k_is)
    (case a4 => k_is)
    (case i4 => k_is)
    (case l4 => k_is)
    (case c4 => k_is)
    (case k4 => k_is)
    (case a5 => k_is)
    (case i5 => k_is)
    (case l5 => k_is)
    (case c5 => k_is)
    (case k5 => k_is)
    (case a6 => k_is)
    (case l6 => k_is)
    (case c6 => k_is)
    (case k6 => k_is)
    (case a7 => k_is)
    (case l7 => k_is)
    (case c7 => k_is)
    (case k7 => k_is)
    (case a8 => k_is)
    (case l8 => k_is)
    (case c8 => k_is)
    (case k8 => k_is)
    (case a9 => k_is)
    (case l9 => k_is)
    (case c9 => k_is)
    (case k9 => k_is)
    (case a10 => k_is)
    (case l10 => k_is)
    (case c10 => k_is)
    (case k10 => k_is)
    (case a11 => k_is)
    (case l11 => k_is)
    (case c11 => k_is)
    (case k11 => k_is)
    (case a12 => k_is)
    (case l12 => k_is)
    (case c12 => k_is)
    (case k12 => k_is)
    (case a13 => k_is)
    (case l13 => k_is)
    (case c13 => k_is)
    (case k13 => k_is)
    (case a14 => k_is)
    (case l14 => k_is)
    (case c14 => k_is)
    (case k14 => k_is)
    (case a15 => k_is)
    (case l15 => k_is)
    (case c15 => k_is)
    (case k15 => k_is)
    (case a16 => k_is)
    (case l16 => k_is)
    (case c16 => k_is)
    (case k16 => k_is)
    (case a17 => k_is)
    (case i17 => k_is)
    (case l17 => k_is)
    (case c17 => k_is)
    (case k17 => k_is)
    (case a18 => k_is)
    (case i18 => k_is)
    (case l18 => k_is)
    (case c18 => k_is)
    (case k18 => k_is)
    (case a19 => k_is)
    (case l19 => k_is)
    (case c19 => k_is)
    (case k19 => k_is)
    (case a20 => k_is)
    (case l20 => k_is)
    (case c20 => k_is)
    (case k20 => k_is)
    (case a21 => k_is)
    (case l21 => k_is)
    (case c21 => k_is)
    (case k21 => k_is)
    (case a22 => k_is)
    (case l22 => k_is)
    (case c22 => k_is)
    (case k22 => k_is)
    (case a23 => k_is)
    (case l23 => k_is)
    (case c23 => k_is)
    (case k23 => k_is)
    (case a24 => k_is)
    (case l24 => k_is)
    (case c24 => k_is)
    (case k24 => k_is)
    (case a25 => k_is)
    (case l25 => k_is)
    (case c25 => k_is)
    (case k25 => k_is)
    (case a26 => k_is)
    (case l26 => k_is)
    (case c26 => k_is)
    (case k26 => k_is)
    (case a27 => k_is)
    (case i27 => k_is)
    (case l27 => k_is)
    (case c27 => k_is)
    (case k27 => k_is)
    (case a28 => k_is)
    (case i28 => k_is)
    (case l28 => k_is)
    (case c28 => k_is)
    (case k28 => k_is)
    (case a29 => k_is)
    (case l29 => k_is)
    (case c29 => k_is)
    (case k29 => k_is)
    (case a30 => k_is)
    (case l30 => k_is)
    (case c30 => k_is)
    (case k30 => k_is)
    (case z0 => k_is)
    (case z1 => k_is)
    (case z2 => k_is)
    (case z3 => k_is)
    (case z4 => k_is)
    (case z5 => k_is)
    (case z6 => k_is)
    (case z7 => k_is)
    (case z8 => k_is)
    (case z9 => k_is)
    (case z10 => k_is)
    (case z11 => k_is)
    (case z12 => k_is)
    (case z13 => k_is)
    (case v_TWO => k_is)
    (case w_TWO => k_is)
    (case u_TWO => decide)
    (case r_TWO => repeat (first | exact .nil | refine .cons ⟨_, rfl⟩ ?_))
    (case xg_Net => k_is)
    (case xh_Net => k_is)
    (case xp_Net => k_is)
    (case xs_Net => k_is)
    (case xm_Net => k_is)
    (case xk_Net => k_is)
    (case xf_Net_laid => k_is)
    (case xf_Net_wide => k_is)
    (case xf_Net_numbers => k_is)

