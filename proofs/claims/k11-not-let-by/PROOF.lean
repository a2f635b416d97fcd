import PyProof.Rows.All
import Wide.All
import OpenK.AllK
import Wide.FinOn
import HandS.ForMost
import HandS.IsInst
import HandS.TupAny
import HandS.Wide
import KE.KeyNested
import HandS.Nested
import HandS.NestedK
import HandS.EndTab
import HandS.Zip
import HandS.RevTup
import KE.GoesMore
import HandS.Rev
import KE.KRevSl
import KE.GoesEnum
import HandS.NoneIn
import HandS.Flt
import HandS.Dict
import HandS.More
import HandS.Text
import HandS.TupLe
import HandS.DeepEq
import HandS.Codes
import KE.KDictZip
import HandS.Conv
import PyProof.NeKinds
import HandS.ListEq
import HandS.ExcOwn
import HandS.ExcIs
import HandS.WordsExc
import HandS.DictComp
import PySem.Challenge.RW_viewkeep_k11_not_let_by
set_option Elab.async false
set_option linter.all false
set_option maxRecDepth 100000
set_option maxHeartbeats 4000000
/-! VL1: the value layer. Data D, objects O, the store; a def as a function over them; how they lie in HandS's abstract heap. -/
namespace VL
open PySem PySem.Spec PyProof.Rows L2 LamX NdefX

/-- pure data; ref n: the n-th object of the store; glb x: what the module calls x -/
inductive D where
  | non | bl (b : Bool) | int (i : Int) | str (x : Str) | tup (xs : List D) | ref (n : Nat) | glb (x : Str) | ty (n : String) | clo (k : Nat) (cap : List D)
inductive O where
  | lst (xs : List D) | rl (xs : List D) | dic (kvs : List (D × D)) | ins (c : Str) (fs : List (Str × D))
abbrev Sto := List O
abbrev EnvD := List (Option D)
inductive R (A : Type) where
  | ok (a : A) (s : Sto) | ex (c : Str) (s : Sto) | bad
namespace R
variable {A B : Type}
def bind (r : R A) (k : A → Sto → R B) : R B := match r with
  | ok a s => k a s
  | ex c s => ex c s
  | bad => bad
def post (r : R A) (Q : A → Sto → Prop) (X : Str → Sto → Prop) : Prop := match r with
  | ok a s => Q a s
  | ex c s => X c s
  | bad => False
theorem post_bind {r : R A} {k : A → Sto → R B} {Q : B → Sto → Prop} {X : Str → Sto → Prop} : (r.bind k).post Q X ↔ r.post (fun a s => (k a s).post Q X) X := by cases r <;> exact Iff.rfl
theorem post.imp {r : R A} {Q Q' : A → Sto → Prop} {X X' : Str → Sto → Prop} (h : r.post Q X) (hq : ∀ a s, Q a s → Q' a s) (hx : ∀ c s, X c s → X' c s) : r.post Q' X' := by
  cases r with
  | ok a s => exact hq a s h
  | ex c s => exact hx c s h
  | bad => exact h
/-- an exception here is not told -/
def noex (r : R A) : R A := match r with
  | ok a s => ok a s
  | _ => bad
theorem post_noex {r : R A} {Q : A → Sto → Prop} {X X' : Str → Sto → Prop} (h : r.noex.post Q X) : r.post Q X' := by
  cases r with
  | ok a s => exact h
  | ex c s => exact False.elim h
  | bad => exact h
@[simp] theorem bind_ok {a : A} {s : Sto} {k : A → Sto → R B} : (R.ok a s).bind k = k a s := rfl
@[simp] theorem bind_ex {c : Str} {s : Sto} {k : A → Sto → R B} : (R.ex c s : R A).bind k = R.ex c s := rfl
@[simp] theorem bind_bad {k : A → Sto → R B} : (R.bad : R A).bind k = R.bad := rfl
@[simp] theorem noex_ok {a : A} {s : Sto} : (R.ok a s).noex = R.ok a s := rfl
end R

mutual
/-- as a key of a dict -/
def nkey : D → Option NestedKey
  | .non => some .none
  | .bl b => some (.num (if b = true then 1 else 0))
  | .int i => some (.num i)
  | .str x => some (.text x)
  | .tup xs => (nkeys xs).map .tup
  | .ref _ => none
  | .glb _ => none
  | .ty _ => none
  | .clo _ _ => none
def nkeys : List D → Option (List NestedKey)
  | [] => some []
  | x :: xs => (nkey x).bind fun k => (nkeys xs).map fun ks => k :: ks
end

/-- a nested def, a lambda, as its text has it: name, qualified name, parameters; the body (a lambda's: its expression); its scope, its parameters, what it captures, all its names -/
structure NFS where
  name : Str
  qual : Str
  params : Arguments
  body : List Stmt
  lam : Option Expr
  scope : Scope
  ps : List Str
  fr : List Str
  N : List Str
abbrev NFS.nf (S : NFS) (cl : List (Str × Addr)) (c : Addr) : NF := ⟨S.name, S.qual, S.params, S.body, S.scope, cl, c⟩
/-- the function object of a lambda -/
def LamO (f : Addr) (S : NFS) (e : Expr) (cl : List (Str × Addr)) (c : Addr) : HO := .ext fun h => ∃ (od : Option Addr) (sl : Array (Option Value)) (pm ctv : Value), h.get? f = some (⟨.type "function", od, .func (PySem.W.kla_fn S.name S.qual S.params e S.scope cl pm (.ref c) ctv), sl⟩ : Obj)
def CloO (f : Addr) (S : NFS) (cl : List (Str × Addr)) (c : Addr) : HO := match S.lam with
  | none => FnO f (S.nf cl c)
  | some e => LamO f S e cl c
/-- a cell that holds w -/
def CellO (c : Addr) (w : V) : HO := .ext fun h => ∃ u, L2.RelV w u ∧ h.IsCell c (some u)
/-- tables of code objects (each tells one name); the nested defs by number -/
structure Tb where
  T : List (Addr × Str)
  nf : Nat → Option NFS
def B0 : Tb := ⟨[], fun _ => none⟩
/-- what is fixed through the law -/
structure G where
  P : Program
  w : World
  K : PySem.W.Frag
  mg : Str → Option Value
  B : Tb
abbrev gOf (B : Tb) (X : Cx) : G := ⟨X.prog, X.w, X.K, X.mg, B⟩
/-- the heap without the cells -/
def less (H : Hp) (cl : List (Str × Addr)) : Hp := fun b => if b ∈ cl.map (·.2) then none else H b
/-- a made function at f, its captured cells hold ws -/
structure CloAt (q : List Addr) (H : Hp) (f : Addr) (S : NFS) (cl : List (Str × Addr)) (c : Addr) (ws : List V) : Prop where
  fn : H f = some (CloO f S cl c)
  fq : f ∉ q
  code : H c = some (CodeO c S.qual)
  cq : c ∉ q
  all : ∀ p ∈ cl, p.2 ∉ q ∧ ∃ w, H p.2 = some (CellO p.2 w)
  inj : ∀ x y a, cl.lookup x = some a → cl.lookup y = some a → x = y
  len : ws.length = S.fr.length
  has : ∀ (i : Nat) (y : Str), S.fr[i]? = some y → ∃ a w, cl.lookup y = some a ∧ ws[i]? = some w ∧ H a = some (CellO a w)

mutual
inductive RD (g : G) (q : List Addr) : Hp → V → D → Prop
  | non {H : Hp} : RD g q H .non .non
  | bl {H : Hp} (b : Bool) : RD g q H (.bl b) (.bl b)
  | int {H : Hp} (i : Int) : RD g q H (.int i) (.int i)
  | str {H : Hp} (x : Str) : RD g q H (.str x) (.str x)
  | tup {H : Hp} {a : Addr} {xs : List V} {ds : List D} : SqT g.K H a xs → RDs g q H xs ds → RD g q H (.ref a) (.tup ds)
  | ref {H : Hp} {n : Nat} {a : Addr} : q[n]? = some a → RD g q H (.ref a) (.ref n)
  | glb {H : Hp} {x : Str} {a : Addr} : g.mg x = some (.ref a) → RD g q H (.ref a) (.glb x)
  | ty {H : Hp} (n : String) : RD g q H (.ty n) (.ty n)
  | clo {H : Hp} {f : Addr} {k : Nat} {cap : List D} {S : NFS} {cl : List (Str × Addr)} {c : Addr} {ws : List V} : g.B.nf k = some S → CloAt q H f S cl c ws → RDs g q (less H cl) ws cap → RD g q H (.ref f) (.clo k cap)
inductive RDs (g : G) (q : List Addr) : Hp → List V → List D → Prop
  | nil {H : Hp} : RDs g q H [] []
  | cons {H : Hp} {v : V} {vs : List V} {d : D} {ds : List D} : RD g q H v d → RDs g q H vs ds → RDs g q H (v :: vs) (d :: ds)
end

/-- something but a table stands there -/
def Live (H : Hp) (a : Addr) : Prop := ∃ o, H a = some o ∧ ∀ ps, o ≠ .tbl ps
/-- the later heap has the tuples of the earlier one, and all that is no place of the store; the later places begin as the earlier ones -/
structure Ext (q : List Addr) (H : Hp) (q' : List Addr) (H' : Hp) : Prop where
  pre : ∃ m, q' = q ++ m ∧ ∀ a ∈ m, ¬ Live H a
  tup : ∀ a xs, Rd H a (.tup xs) → Rd H' a (.tup xs)
  rest : ∀ a o, H a = some o → a ∉ q → (∀ ps, o ≠ .tbl ps) → H' a = some o
  live : ∀ a, Live H a → Live H' a
theorem Ext.refl {q : List Addr} {H : Hp} : Ext q H q H := ⟨⟨[], by simp⟩, fun _ _ h => h, fun _ _ h _ _ => h, fun _ h => h⟩
theorem Ext.trans {q q1 q2 : List Addr} {H H1 H2 : Hp} (a : Ext q H q1 H1) (b : Ext q1 H1 q2 H2) : Ext q H q2 H2 := by
  obtain ⟨m, rfl, hm⟩ := a.pre
  obtain ⟨m', rfl, hm'⟩ := b.pre
  refine ⟨⟨m ++ m', by simp, fun c hc => ?_⟩, fun c xs h => b.tup c xs (a.tup c xs h), fun c o h n t => ?_, fun c h => b.live c (a.live c h)⟩
  · rcases List.mem_append.mp hc with h | h
    · exact hm c h
    · exact fun z => hm' c h (a.live c z)
  · refine b.rest c o (a.rest c o h n t) (fun z => ?_) t
    rcases List.mem_append.mp z with z | z
    · exact n z
    · exact hm c z ⟨o, h, t⟩
theorem Ext.notin {q q' : List Addr} {H H' : Hp} (e : Ext q H q' H') {a : Addr} (l : Live H a) (n : a ∉ q) : a ∉ q' := by
  obtain ⟨m, rfl, hm⟩ := e.pre
  intro z
  rcases List.mem_append.mp z with z | z
  · exact n z
  · exact hm a z l
theorem less_some {H : Hp} {cl : List (Str × Addr)} {a : Addr} {o : HO} : less H cl a = some o ↔ a ∉ cl.map (·.2) ∧ H a = some o := by
  by_cases h : a ∈ cl.map (·.2)
  · constructor
    · intro z; unfold less at z; rw [if_pos h] at z; cases z
    · intro z; exact absurd h z.1
  · constructor
    · intro z; unfold less at z; rw [if_neg h] at z; exact ⟨h, z⟩
    · intro z; unfold less; rw [if_neg h]; exact z.2
theorem less_rd {H : Hp} {cl : List (Str × Addr)} {a : Addr} {u : HO} : Rd (less H cl) a u ↔ a ∉ cl.map (·.2) ∧ Rd H a u := by
  constructor
  · rintro (h | ⟨o, h⟩)
    · exact ⟨(less_some.mp h).1, .inl (less_some.mp h).2⟩
    · exact ⟨(less_some.mp h).1, .inr ⟨o, (less_some.mp h).2⟩⟩
  · rintro ⟨n, h | ⟨o, h⟩⟩
    · exact .inl (less_some.mpr ⟨n, h⟩)
    · exact .inr ⟨o, less_some.mpr ⟨n, h⟩⟩
theorem less_live {H : Hp} {cl : List (Str × Addr)} {a : Addr} : Live (less H cl) a ↔ a ∉ cl.map (·.2) ∧ Live H a := by
  constructor
  · rintro ⟨o, h, t⟩
    exact ⟨(less_some.mp h).1, o, (less_some.mp h).2, t⟩
  · rintro ⟨n, o, h, t⟩
    exact ⟨o, less_some.mpr ⟨n, h⟩, t⟩
theorem Ext.less {q q' : List Addr} {H H' : Hp} (e : Ext q H q' H') (cl : List (Str × Addr)) : Ext q (less H cl) q' (VL.less H' cl) := by
  obtain ⟨m, rfl, hm⟩ := e.pre
  exact ⟨⟨m, rfl, fun a ha z => hm a ha (less_live.mp z).2⟩, fun a xs h => less_rd.mpr ⟨(less_rd.mp h).1, e.tup a xs (less_rd.mp h).2⟩, fun a o h n t => less_some.mpr ⟨(less_some.mp h).1, e.rest a o (less_some.mp h).2 n t⟩, fun a h => less_live.mpr ⟨(less_live.mp h).1, e.live a (less_live.mp h).2⟩⟩
theorem cloO_ne {f : Addr} {S : NFS} {cl : List (Str × Addr)} {c : Addr} (ps : Array Value) : CloO f S cl c ≠ .tbl ps := by
  unfold CloO
  split
  · exact fnO_ne ps
  · intro z; unfold LamO at z; cases z
theorem cellO_ne {c : Addr} {w : V} (ps : Array Value) : CellO c w ≠ .tbl ps := fun z => by unfold CellO at z; cases z
theorem CloAt.ext {q q' : List Addr} {H H' : Hp} {f : Addr} {S : NFS} {cl : List (Str × Addr)} {c : Addr} {ws : List V} (e : Ext q H q' H') (x : CloAt q H f S cl c ws) : CloAt q' H' f S cl c ws where
  fn := e.rest _ _ x.fn x.fq cloO_ne
  fq := e.notin ⟨_, x.fn, cloO_ne⟩ x.fq
  code := e.rest _ _ x.code x.cq codeO_ne
  cq := e.notin ⟨_, x.code, codeO_ne⟩ x.cq
  all := fun p h => by
    obtain ⟨n, w, z⟩ := x.all p h
    exact ⟨e.notin ⟨_, z, cellO_ne⟩ n, w, e.rest _ _ z n cellO_ne⟩
  inj := x.inj
  len := x.len
  has := fun i y h => by
    obtain ⟨a, w, h1, h2, h3⟩ := x.has i y h
    exact ⟨a, w, h1, h2, e.rest _ _ h3 (x.all (y, a) (PySem.mem_of_lookup h1)).1 cellO_ne⟩
theorem Ext.at {q q' : List Addr} {H H' : Hp} (e : Ext q H q' H') {n : Nat} {a : Addr} (h : q[n]? = some a) : q'[n]? = some a := by
  obtain ⟨m, rfl, _⟩ := e.pre
  rw [List.getElem?_append_left (List.getElem?_eq_some_iff.mp h).1]
  exact h
theorem Rd.same {H H' : Hp} {a : Addr} {u : HO} (s : Same H H') (h : Rd H a u) : Rd H' a u := by
  rcases h with h | ⟨o, h⟩
  · exact .inl (s _ _ h)
  · exact .inr ⟨o, s _ _ h⟩
theorem Same.live {H H' : Hp} (s : Same H H') {a : Addr} (h : Live H a) : Live H' a := let ⟨o, h1, h2⟩ := h; ⟨o, s _ _ h1, h2⟩
theorem Same.ext {q : List Addr} {p : Addr} {H H' : Hp} (s : Same H H') (hp : H p = none) : Ext q H (q ++ [p]) H' := ⟨⟨[p], rfl, fun a ha ⟨o, h, _⟩ => by
  rw [List.mem_singleton] at ha
  subst ha
  rw [hp] at h
  cases h⟩, fun _ _ h => Rd.same s h, fun _ _ h _ _ => s _ _ h, fun _ h => Same.live s h⟩
theorem Same.ext0 {q : List Addr} {H H' : Hp} (s : Same H H') : Ext q H q H' := ⟨⟨[], by simp⟩, fun _ _ h => Rd.same s h, fun _ _ h _ _ => s _ _ h, fun _ h => Same.live s h⟩
theorem same_upd {H : Hp} {p : Addr} {o : HO} (h : H p = none) : Same H (upd H p o) := fun b x e => by
  rw [upd_ne (ne_of_none e h)]
  exact e
theorem sqT_ext {K : PySem.W.Frag} {q q' : List Addr} {H H' : Hp} {a : Addr} {xs : List V} (e : Ext q H q' H') (h : SqT K H a xs) : SqT K H' a xs := by
  rcases h with h | h
  · exact .inl (e.tup _ _ h)
  · exact .inr h

section
variable {g : G} {q q' : List Addr}
mutual
theorem RD.ext {H H' : Hp} (e : Ext q H q' H') : ∀ {v : V} {d : D}, RD g q H v d → RD g q' H' v d
  | _, _, .non => .non
  | _, _, .bl b => .bl b
  | _, _, .int i => .int i
  | _, _, .str x => .str x
  | _, _, .tup h r => .tup (sqT_ext e h) (RDs.ext e r)
  | _, _, .ref h => .ref (e.at h)
  | _, _, .glb h => .glb h
  | _, _, .ty n => .ty n
  | _, _, .clo h x r => .clo h (x.ext e) (RDs.ext (e.less _) r)
theorem RDs.ext {H H' : Hp} (e : Ext q H q' H') : ∀ {vs : List V} {ds : List D}, RDs g q H vs ds → RDs g q' H' vs ds
  | _, _, .nil => .nil
  | _, _, .cons r t => .cons (RD.ext e r) (RDs.ext e t)
end
variable {H H' : Hp}
theorem RDs.length : ∀ {vs : List V} {ds : List D}, RDs g q H vs ds → vs.length = ds.length
  | _, _, .nil => rfl
  | _, _, .cons _ t => by rw [List.length_cons, List.length_cons, RDs.length t]
theorem RDs.get : ∀ {vs : List V} {ds : List D} {i : Nat} {d : D}, RDs g q H vs ds → ds[i]? = some d → ∃ v, vs[i]? = some v ∧ RD g q H v d
  | _, _, _, _, .nil, e => by simp at e
  | _, _, 0, _, .cons r _, e => by simp at e; subst e; exact ⟨_, rfl, r⟩
  | _, _, i + 1, d, .cons _ t, e => by
    obtain ⟨v, h1, h2⟩ := RDs.get (i := i) (d := d) t (by simpa using e)
    exact ⟨v, by simpa using h1, h2⟩
theorem RDs.getV {vs : List V} {ds : List D} {i : Nat} {v : V} (r : RDs g q H vs ds) (e : vs[i]? = some v) : ∃ d, ds[i]? = some d ∧ RD g q H v d := by
  have hl : i < ds.length := by rw [← r.length]; exact (List.getElem?_eq_some_iff.mp e).1
  obtain ⟨v', h1, h2⟩ := r.get (List.getElem?_eq_getElem hl)
  rw [e] at h1; cases h1
  exact ⟨_, List.getElem?_eq_getElem hl, h2⟩
theorem RDs.append : ∀ {vs ws : List V} {ds es : List D}, RDs g q H vs ds → RDs g q H ws es → RDs g q H (vs ++ ws) (ds ++ es)
  | _, _, _, _, .nil, s => s
  | _, _, _, _, .cons r t, s => .cons r (RDs.append t s)
theorem RDs.take : ∀ {vs : List V} {ds : List D} (n : Nat), RDs g q H vs ds → RDs g q H (vs.take n) (ds.take n)
  | _, _, 0, _ => .nil
  | _, _, _ + 1, .nil => .nil
  | _, _, n + 1, .cons r t => .cons r (RDs.take n t)
theorem RDs.drop : ∀ {vs : List V} {ds : List D} (n : Nat), RDs g q H vs ds → RDs g q H (vs.drop n) (ds.drop n)
  | _, _, 0, r => r
  | _, _, _ + 1, .nil => .nil
  | _, _, n + 1, .cons _ t => RDs.drop n t
theorem RDs.set {v : V} {d : D} (r : RD g q H v d) : ∀ {vs : List V} {ds : List D} (i : Nat), RDs g q H vs ds → RDs g q H (vs.set i v) (ds.set i d)
  | _, _, _, .nil => .nil
  | _, _, 0, .cons _ t => .cons r t
  | _, _, i + 1, .cons q t => .cons q (RDs.set r i t)
theorem RDs.reverse : ∀ {vs : List V} {ds : List D}, RDs g q H vs ds → RDs g q H vs.reverse ds.reverse
  | _, _, .nil => .nil
  | _, _, .cons r t => by
    rw [List.reverse_cons, List.reverse_cons]
    exact (RDs.reverse t).append (.cons r .nil)
theorem RDs.dropLast {vs : List V} {ds : List D} (h : RDs g q H vs ds) : RDs g q H vs.dropLast ds.dropLast := by
  rw [List.dropLast_eq_take, List.dropLast_eq_take, h.length]
  exact h.take _
theorem RDs.ints : ∀ {ns : List Int}, RDs g q H (ns.map V.int) (ns.map D.int)
  | [] => .nil
  | n :: ns => .cons (.int n) RDs.ints
end

/-- the raw dict at a: its entries by their keys, the keys' tuples, the values -/
def rawK (g : G) (a : Addr) (xs : List (NestedKey × Addr × Value)) (h : Heap) : Prop :=
  (a == sysModules) = false ∧ ∃ o es ep, h.get? a = some o ∧ o.ExactDict ∧ o.data = .dict es ep ∧ es.toList = xs.map (entryOfKey (nestedKind g.P g.w)) ∧ (xs.map (·.1)).Nodup
/-- a dict whose keys are tuples -/
def RowDict (g : G) (q : List Addr) (H : Hp) (a : Addr) (kvs : List (D × D)) : Prop :=
  (kvs ≠ [] ∧ kvs.length ≤ sizeLine) ∧ ∃ xs : List (NestedKey × Addr × Value), H a = some (.ext (rawK g a xs)) ∧
    Paired (fun (p : D × D) (x : NestedKey × Addr × Value) => nkey p.1 = some x.1 ∧ x.1.depth ≤ 8 ∧ RD g q H (.ref x.2.1) p.1 ∧ ∃ v, RelV v x.2.2 ∧ RD g q H v p.2) kvs xs
/-- a key that is an int or a text -/
def dK : Key → D
  | .inl i => .int i
  | .inr x => .str x
/-- a list that is read and never written: locked, or of the written part -/
def RoL (K : PySem.W.Frag) (H : Hp) (a : Addr) (xs : List V) : Prop :=
  (∃ ob, H a = some (.frz ob (.lst xs))) ∨ ∃ (o : Obj) (its : Array Value) (n : Nat), K.lookup a = some o ∧ o.cls = .type "list" ∧ o.dict = none ∧ o.data = .seq its n ∧ its.size ≤ sizeLine ∧ Vals xs its.toList
theorem RoL.sq {K : PySem.W.Frag} {H : Hp} {a : Addr} {xs : List V} (h : RoL K H a xs) : SqL K H a xs := by
  rcases h with ⟨ob, h⟩ | h
  · exact .inl (.inr ⟨ob, h⟩)
  · exact .inr h
def RO (g : G) (q : List Addr) (H : Hp) (a : Addr) : O → Prop
  | .lst ds => ∃ xs, H a = some (.lst xs) ∧ RDs g q H xs ds
  | .rl ds => ∃ xs, RoL g.K H a xs ∧ RDs g q H xs ds
  | .dic kvs => (∃ gs : List (Key × V), H a = some (.dK gs) ∧ Paired (fun (p : D × D) (x : Key × V) => p.1 = dK x.1 ∧ RD g q H x.2 p.2) kvs gs) ∨ RowDict g q H a kvs
  | .ins c fs => ∃ C dx gs, g.mg c = some (.ref C) ∧ H a = some (.ins C dx gs) ∧ Paired (fun (p : Str × D) (x : Str × V) => p.1 = x.1 ∧ RD g q H x.2 p.2) fs gs
/-- the store as it lies: q, its objects' places -/
structure RS (g : G) (q : List Addr) (H : Hp) (st : Sto) : Prop where
  len : q.length = st.length
  nd : ∀ (m n : Nat) (a : Addr), q[m]? = some a → q[n]? = some a → m = n ∨ (∃ xs, st[m]? = some (.rl xs)) ∨ ∃ xs, st[n]? = some (.rl xs)
  at_ : ∀ (n : Nat) (a : Addr) (o : O), q[n]? = some a → st[n]? = some o → RO g q H a o
  tabs : Tabs g.B.T H
/-- the names' values -/
def RE (g : G) (q : List Addr) (H : Hp) (sg : L2.St) (env : EnvD) : Prop := Paired (fun (v : Option V) (d : Option D) => ∀ x, d = some x → ∃ y, v = some y ∧ RD g q H y x) sg env

section
variable {g : G} {q q' : List Addr} {H H' : Hp} {a : Addr} {o : O} {st : Sto} {sg : L2.St} {env : EnvD}
/-- an object that stands as it stood -/
theorem RO.stay (e : Ext q H q' H') (h0 : H' a = H a) (r : RO g q H a o) : RO g q' H' a o := by
  cases o with
  | lst ds => obtain ⟨xs, h, r⟩ := r; exact ⟨xs, h0.trans h, r.ext e⟩
  | rl ds =>
    obtain ⟨xs, h, r⟩ := r
    refine ⟨xs, ?_, r.ext e⟩
    rcases h with ⟨ob, h⟩ | h
    · exact .inl ⟨ob, h0.trans h⟩
    · exact .inr h
  | dic kvs =>
    rcases r with ⟨gs, h, r⟩ | ⟨hz, xs, h, r⟩
    · exact .inl ⟨gs, h0.trans h, Paired.mapP r fun p x z => ⟨z.1, z.2.ext e⟩⟩
    · exact .inr ⟨hz, xs, h0.trans h, Paired.mapP r fun p x ⟨z1, z2, z3, v, z4, z5⟩ => ⟨z1, z2, z3.ext e, v, z4, z5.ext e⟩⟩
  | ins c fs =>
    obtain ⟨C, dx, gs, hc, h, r⟩ := r
    exact ⟨C, dx, gs, hc, h0.trans h, Paired.mapP r fun p x z => ⟨z.1, z.2.ext e⟩⟩
/-- it is tracked, or a list of the written part (then nothing of the heap is asked) -/
theorem RO.there (r : RO g q H a o) : H a ≠ none ∨ ((∃ xs, o = O.rl xs) ∧ ∀ q' H', Ext q H q' H' → RO g q' H' a o) := by
  cases o with
  | lst ds => obtain ⟨xs, h, _⟩ := r; exact .inl (by rw [h]; simp)
  | rl ds =>
    obtain ⟨xs, h, r⟩ := r
    rcases h with ⟨ob, h⟩ | h
    · exact .inl (by rw [h]; simp)
    · exact .inr ⟨⟨ds, rfl⟩, fun q' H' e => ⟨xs, .inr h, r.ext e⟩⟩
  | dic kvs =>
    rcases r with ⟨gs, h, _⟩ | ⟨_, xs, h, _⟩
    · exact .inl (by rw [h]; simp)
    · exact .inl (by rw [h]; simp)
  | ins c fs => obtain ⟨C, dx, gs, _, h, _⟩ := r; exact .inl (by rw [h]; simp)
theorem RO.same (s : Same H H') (r : RO g q H a o) : RO g q H' a o := by
  rcases r.there with h | ⟨_, h⟩
  · cases e : H a with
    | some u => exact RO.stay (Same.ext0 s) ((s _ _ e).trans e.symm) r
    | none => exact absurd e h
  · exact h _ _ (Same.ext0 s)
theorem RS.same (s : Same H H') (r : RS g q H st) : RS g q H' st := ⟨r.len, r.nd, fun n a o h1 h2 => (r.at_ n a o h1 h2).same s, r.tabs.ext fun b o e => s b o e⟩
theorem RS.get (r : RS g q H st) {n : Nat} {o : O} (h : st[n]? = some o) : ∃ a, q[n]? = some a ∧ RO g q H a o := by
  have hl : n < q.length := by rw [r.len]; exact (List.getElem?_eq_some_iff.mp h).1
  exact ⟨_, List.getElem?_eq_getElem hl, r.at_ n _ o (List.getElem?_eq_getElem hl) h⟩
theorem RE.ext (e : Ext q H q' H') (r : RE g q H sg env) : RE g q' H' sg env := Paired.mapP r fun v d z x hx => let ⟨y, h1, h2⟩ := z x hx; ⟨y, h1, h2.ext e⟩
theorem Paired.at? {A B : Type} {F : A → B → Prop} : ∀ {l : List A} {m : List B} {i : Nat} {b : B}, Paired F l m → m[i]? = some b → ∃ a, l[i]? = some a ∧ F a b
  | _, _, _, _, .nil, h => by simp at h
  | _, _, 0, _, .cons r _, h => by simp at h; subst h; exact ⟨_, rfl, r⟩
  | _, _, i + 1, b, .cons _ t, h => by
    obtain ⟨a, h1, h2⟩ := Paired.at? (i := i) (b := b) t (by simpa using h)
    exact ⟨a, by simpa using h1, h2⟩
theorem Paired.set_ {A B : Type} {F : A → B → Prop} {a : A} {b : B} (r : F a b) : ∀ {l : List A} {m : List B} (i : Nat), Paired F l m → Paired F (l.set i a) (m.set i b)
  | _, _, _, .nil => .nil
  | _, _, 0, .cons _ t => .cons r t
  | _, _, i + 1, .cons q t => .cons q (Paired.set_ r i t)
theorem Paired.app {A B : Type} {F : A → B → Prop} : ∀ {l l' : List A} {m m' : List B}, Paired F l m → Paired F l' m' → Paired F (l ++ l') (m ++ m')
  | _, _, _, _, .nil, s => s
  | _, _, _, _, .cons r t, s => .cons r (Paired.app t s)
theorem RE.get (r : RE g q H sg env) {i : Nat} {d : D} (h : env[i]? = some (some d)) : ∃ v, sg[i]? = some (some v) ∧ RD g q H v d := by
  obtain ⟨ov, h1, h2⟩ := Paired.at? r h
  obtain ⟨y, rfl, h3⟩ := h2 d rfl
  exact ⟨y, h1, h3⟩
theorem RE.set (r : RE g q H sg env) {i : Nat} {v : V} {d : D} (h : RD g q H v d) : RE g q H (sg.set i (some v)) (env.set i (some d)) := Paired.set_ (fun x e => by cases e; exact ⟨v, rfl, h⟩) i r
/-- a new object of the store -/
theorem RS.new (r : RS g q H st) {p : Addr} {u : HO} (hp : H p = none) (ho : RO g (q ++ [p]) (upd H p u) p o) : RS g (q ++ [p]) (upd H p u) (st ++ [o]) := by
  have s := same_upd (o := u) hp
  have low : ∀ {n : Nat} {a : Addr}, q[n]? = some a → n < st.length := fun h => by rw [← r.len]; exact (List.getElem?_eq_some_iff.mp h).1
  have fresh : ∀ n, q[n]? = some p → ∃ xs, (st ++ [o])[n]? = some (O.rl xs) := fun n hn => by
    have hl := low hn
    rcases (r.at_ n p _ hn (List.getElem?_eq_getElem hl)).there with h | ⟨⟨xs, h⟩, _⟩
    · exact absurd hp h
    · exact ⟨xs, by rw [List.getElem?_append_left hl, List.getElem?_eq_getElem hl, h]⟩
  have last : ∀ {n : Nat} {a : Addr}, ¬ n < q.length → (q ++ [p])[n]? = some a → n = q.length ∧ a = p := fun {n a} hn h => by
    have e : n = q.length := by
      have := (List.getElem?_eq_some_iff.mp h).1
      rw [List.length_append, List.length_singleton] at this
      omega
    subst e
    rw [List.getElem?_append_right (Nat.le_refl _), Nat.sub_self] at h
    simp at h
    exact ⟨rfl, h.symm⟩
  refine ⟨by simp [r.len], fun m n a h1 h2 => ?_, fun n a x h1 h2 => ?_, r.tabs.ext fun b o e => s b o e⟩
  · by_cases hm : m < q.length
    · by_cases hn : n < q.length
      · rw [List.getElem?_append_left hm] at h1
        rw [List.getElem?_append_left hn] at h2
        rw [List.getElem?_append_left (low h1), List.getElem?_append_left (low h2)]
        exact r.nd m n a h1 h2
      · obtain ⟨_, rfl⟩ := last hn h2
        rw [List.getElem?_append_left hm] at h1
        exact .inr (.inl (fresh m h1))
    · obtain ⟨e1, rfl⟩ := last hm h1
      by_cases hn : n < q.length
      · rw [List.getElem?_append_left hn] at h2
        exact .inr (.inr (fresh n h2))
      · obtain ⟨e2, _⟩ := last hn h2
        exact .inl (e1.trans e2.symm)
  · by_cases hn : n < q.length
    · rw [List.getElem?_append_left hn] at h1
      rw [List.getElem?_append_left (low h1)] at h2
      have z := r.at_ n a x h1 h2
      rcases z.there with h | ⟨_, h⟩
      · have hne : a ≠ p := fun e => h (by rw [e]; exact hp)
        exact z.stay (Same.ext s hp) (upd_ne hne)
      · exact h _ _ (Same.ext s hp)
    · obtain ⟨rfl, rfl⟩ := last hn h1
      rw [r.len, List.getElem?_append_right (Nat.le_refl _), Nat.sub_self] at h2
      simp at h2
      subst h2
      exact ho
/-- an object of the store written -/
theorem RS.put' (r : RS g q H st) {n : Nat} {u : HO} (ha : q[n]? = some a) (h0 : ∀ xs, st[n]? ≠ some (O.rl xs)) (mu : Mut (H a)) (nx : ∀ φ, H a ≠ some (.ext φ)) (hu : ∀ ps, u ≠ .tbl ps) (ho : Ext q H q (upd H a u) → RO g q (upd H a u) a o) : RS g q (upd H a u) (st.set n o) ∧ Ext q H q (upd H a u) := by
  have hin : a ∈ q := List.mem_of_getElem? ha
  have ext : Ext q H q (upd H a u) := ⟨⟨[], by simp⟩, fun b xs h => by
    have hb : b ≠ a := fun e => by
      subst e
      rcases h with h | ⟨ob, h⟩
      · rw [h] at mu; exact mu
      · rw [h] at mu; exact mu
    rcases h with h | ⟨ob, h⟩
    · exact .inl (by rw [upd_ne hb]; exact h)
    · exact .inr ⟨ob, by rw [upd_ne hb]; exact h⟩, fun b o h n _ => by
      have hb : b ≠ a := fun e => n (by rw [e]; exact hin)
      rw [upd_ne hb]; exact h, fun b ⟨o, h, t⟩ => by
      by_cases hb : b = a
      · subst hb; exact ⟨u, upd_same, hu⟩
      · exact ⟨o, by rw [upd_ne hb]; exact h, t⟩⟩
  have tabs : Tabs g.B.T (upd H a u) := fun p hp => by
    obtain ⟨ps, h1, h2, h3⟩ := r.tabs p hp
    have n1 : p.1 ≠ a := fun e => by rw [← e, h1] at mu; exact mu
    refine ⟨ps, by rw [upd_ne n1]; exact h1, h2, fun pos cv hc => ?_⟩
    obtain ⟨c, e1, e2⟩ := h3 pos cv hc
    refine ⟨c, e1, ?_⟩
    rw [upd_ne]
    · exact e2
    · intro e
      rw [e] at e2
      unfold CodeO at e2
      exact nx _ e2
  have hl : n < st.length := by rw [← r.len]; exact (List.getElem?_eq_some_iff.mp ha).1
  have other : ∀ m : Nat, q[m]? = some a → m ≠ n → ∃ xs, st[m]? = some (O.rl xs) := fun m hm hne => by
    rcases r.nd m n a hm ha with z | z | ⟨xs, z⟩
    · exact absurd z hne
    · exact z
    · exact absurd z (h0 xs)
  refine ⟨⟨by simp [r.len], fun m k b h1 h2 => ?_, fun m b x h1 h2 => ?_, tabs⟩, ext⟩
  · by_cases e : m = k
    · exact .inl e
    · have keep : ∀ {j : Nat} {xs : List D}, st[j]? = some (O.rl xs) → (st.set n o)[j]? = some (O.rl xs) := fun {j xs} z => by
        have : n ≠ j := fun e => h0 xs (by rw [e]; exact z)
        rw [List.getElem?_set_ne this]; exact z
      rcases r.nd m k b h1 h2 with z | ⟨xs, z⟩ | ⟨xs, z⟩
      · exact .inl z
      · exact .inr (.inl ⟨xs, keep z⟩)
      · exact .inr (.inr ⟨xs, keep z⟩)
  · by_cases e : m = n
    · subst e
      rw [ha] at h1; cases h1
      rw [List.getElem?_set_self hl] at h2
      cases h2
      exact ho ext
    · rw [List.getElem?_set_ne (Ne.symm e)] at h2
      have z := r.at_ m b x h1 h2
      by_cases hb : b = a
      · subst hb
        obtain ⟨xs, hx⟩ := other m h1 e
        rw [h2] at hx; cases hx
        obtain ⟨ys, hy, ry⟩ := z
        rcases hy with ⟨ob, hy⟩ | hy
        · rw [hy] at mu; exact False.elim mu
        · exact ⟨ys, .inr hy, ry.ext ext⟩
      · exact z.stay ext (upd_ne hb)
end
end VL

/-! VL2: readings by functions of the store; expressions, tests, statements. -/
namespace L2
open PySem PySem.Spec PyProof.Rows
section
variable {X : Cx}
theorem PE.imp {e : Expr} {t t' : TE} (h : PE X e t) (i : ∀ sg H Q, t' sg H Q → t sg H Q) : PE X e t' := ⟨fun pins s sg H Q I w => h.run pins s sg H Q I (i _ _ _ w)⟩
theorem PT.imp {e : Expr} {t t' : TT} (h : PT X e t) (i : ∀ sg H Q, t' sg H Q → t sg H Q) : PT X e t' := ⟨fun pins s sg H Q I w => h.run pins s sg H Q I (i _ _ _ w)⟩
theorem PW.imp {e : Expr} {t t' : TT} (h : PW X e t) (i : ∀ sg H Q, t' sg H Q → t sg H Q) : PW X e t' := ⟨fun wh pins s sg H Q I w => h.run wh pins s sg H Q I (i _ _ _ w)⟩
theorem PA.imp {e : List Expr} {t t' : TA} (h : PA X e t) (i : ∀ sg H Q, t' sg H Q → t sg H Q) : PA X e t' := ⟨fun pos pins s sg H Q I w => h.run pos pins s sg H Q I (i _ _ _ w)⟩
theorem PS.imp {e : Stmt} {t t' : TS} (h : PS X e t) (i : ∀ T sg H, t' T sg H → t T sg H) : PS X e t' := ⟨fun pins s sg H Q I w => h.run pins s sg H Q I (i _ _ _ w)⟩
theorem PSs.imp {e : List Stmt} {t t' : TS} (h : PSs X e t) (i : ∀ T sg H, t' T sg H → t T sg H) : PSs X e t' := ⟨fun pins s sg H Q I w => h.run pins s sg H Q I (i _ _ _ w)⟩
theorem OpR.imp {f : Value → Value → Sem Value} {r r' : R2} (h : OpR X f r) (i : ∀ x y H Q, r' x y H Q → r x y H Q) : OpR X f r' := fun pins s sg H x y v u Q I r1 r2 w => h pins s sg H x y v u Q I r1 r2 (i _ _ _ _ w)
theorem CallR.imp {f : Value} {r r' : List V → Hp → VK → Prop} (h : CallR X f r) (i : ∀ xs H Q, r' xs H Q → r xs H Q) : CallR X f r' := fun pins s sg H xs us Q I r1 w => h pins s sg H xs us Q I r1 (i _ _ _ w)
theorem MtR.imp {f : String} {r r' : V → List V → Hp → VK → Prop} (h : MtR X f r) (i : ∀ x xs H Q, r' x xs H Q → r x xs H Q) : MtR X f r' := fun pins s sg H x xs v us Q I r1 r2 w => h pins s sg H x xs v us Q I r1 r2 (i _ _ _ _ w)
theorem IxR.imp {r r' : R2} (h : IxR X r) (i : ∀ x y H Q, r' x y H Q → r x y H Q) : IxR X r' := fun a b pins s sg H x y v u Q I r1 r2 w => h a b pins s sg H x y v u Q I r1 r2 (i _ _ _ _ w)
theorem UnR.imp {f : Value → Sem Value} {r r' : V → Hp → VK → Prop} (h : UnR X f r) (i : ∀ x H Q, r' x H Q → r x H Q) : UnR X f r' := fun pins s sg H x v Q I r1 w => h pins s sg H x v Q I r1 (i _ _ _ w)
theorem PG.imp {e : Expr} {t t' : TG} (h : PG X e t) (i : ∀ v sg H Q, t' v sg H Q → t v sg H Q) : PG X e t' := ⟨fun pins s sg H v u Q I r w => h.run pins s sg H v u Q I r (i _ _ _ _ w)⟩
theorem PGs.imp {e : List Expr} {t t' : TGs} (h : PGs X e t) (i : ∀ v sg H Q, t' v sg H Q → t v sg H Q) : PGs X e t' := ⟨fun pins s sg H v u Q I r w => h.run pins s sg H v u Q I r (i _ _ _ _ w)⟩
end
end L2
namespace VL
open PySem PySem.Spec PyProof.Rows L2 LamX NdefX
variable {B : Tb}

/-! ### liftings -/
/-- behind a value; behind an exception -/
def KV (g : G) (q : List Addr) (H : Hp) (Q : VK) : D → Sto → Prop := fun d st => ∀ q' v H', Ext q H q' H' → RS g q' H' st → RD g q' H' v d → Q v H'
def KX (g : G) (q : List Addr) (H : Hp) (E : XK) : Str → Sto → Prop := fun c st => ∀ q' H' C, Ext q H q' H' → RS g q' H' st → g.mg c = some (.ref C) → E (.ref C) none H'
theorem KX.ext {g : G} {q q' : List Addr} {H H' : Hp} {E : XK} (e : Ext q H q' H') {c : Str} {st : Sto} (k : KX g q H E c st) : KX g q' H' E c st := fun q2 H2 C e2 r m => k q2 H2 C (e.trans e2) r m
theorem KV.ext {g : G} {q q' : List Addr} {H H' : Hp} {Q : VK} (e : Ext q H q' H') {d : D} {st : Sto} (k : KV g q H Q d st) : KV g q' H' Q d st := fun q2 v H2 e2 r m => k q2 v H2 (e.trans e2) r m
abbrev EF := EnvD → Sto → R D
abbrev TF := EnvD → Sto → R Bool
abbrev AF := EnvD → Sto → R (List D)
inductive Fl where
  | nx (e : EnvD) | rt (d : D) | bk (e : EnvD) | ct (e : EnvD)
abbrev SF := EnvD → Sto → R Fl
abbrev Fn := List D → Sto → R D
def LE (g : G) (E : XK) (f : EF) : TE := fun sg H Q => ∃ q env st, RS g q H st ∧ RE g q H sg env ∧ (f env st).post (KV g q H Q) (KX g q H E)
def LT (g : G) (E : XK) (f : TF) : TT := fun sg H Q => ∃ q env st, RS g q H st ∧ RE g q H sg env ∧ (f env st).post (fun b st' => ∀ q' H', Ext q H q' H' → RS g q' H' st' → Q b H') (KX g q H E)
def LA (g : G) (E : XK) (f : AF) : TA := fun sg H Q => ∃ q env st, RS g q H st ∧ RE g q H sg env ∧ (f env st).post (fun ds st' => ∀ q' vs H', Ext q H q' H' → RS g q' H' st' → RDs g q' H' vs ds → Q vs H') (KX g q H E)
def KS (g : G) (q : List Addr) (H : Hp) (T : Ends) : Fl → Sto → Prop := fun fl st => ∀ q' H', Ext q H q' H' → RS g q' H' st → match fl with
  | .nx e => ∀ sg, RE g q' H' sg e → T.nx sg H'
  | .rt d => ∀ v, RD g q' H' v d → T.rt v H'
  | .bk e => ∀ sg, RE g q' H' sg e → T.bk sg H'
  | .ct e => ∀ sg, RE g q' H' sg e → T.ct sg H'
def LS (g : G) (E : XK) (f : SF) : TS := fun T sg H => ∃ q env st, RS g q H st ∧ RE g q H sg env ∧ (f env st).post (KS g q H T) (KX g q H E)
theorem KS.ext {g : G} {q q' : List Addr} {H H' : Hp} {T : Ends} (e : Ext q H q' H') {c : Fl} {st : Sto} (k : KS g q H T c st) : KS g q' H' T c st := fun q2 H2 e2 r => k q2 H2 (e.trans e2) r

section
variable {X : Cx}

variable {E : XK} {fa fb : EF} {a b : Expr} {pos : Pos}
/-! ### names, constants -/
def varF (i : Nat) : EF := fun env st => match env[i]? with
  | some (some d) => .ok d st
  | _ => .bad
def cF (d : D) : EF := fun _ st => .ok d st
theorem le_var {i : Nat} {x : Str} {pos : Pos} (h : PE X (.Name x pos) (tVar i)) : PE X (.Name x pos) (LE (gOf B X) E (varF i)) := h.imp fun sg H Q w => by
  obtain ⟨q, env, st, rs, re, p⟩ := w
  unfold varF at p
  split at p
  · rename_i d hd
    obtain ⟨v, h1, h2⟩ := re.get hd
    exact ⟨v, h1, p q v H Ext.refl rs h2⟩
  · exact False.elim p
theorem le_c {e : Expr} {v : V} {d : D} (h : PE X e (tC v)) (r : ∀ q H, RD (gOf B X) q H v d) : PE X e (LE (gOf B X) E (cF d)) := h.imp fun sg H Q w => by
  obtain ⟨q, env, st, rs, re, p⟩ := w
  exact p q v H Ext.refl rs (r q H)
theorem le_int {i j pos} : PE X (.Constant (.int i) j pos) (LE (gOf B X) E (cF (.int i))) := le_c pe_int fun _ _ => .int i
theorem le_bl {b j pos} : PE X (.Constant (.bool b) j pos) (LE (gOf B X) E (cF (.bl b))) := le_c pe_bl fun _ _ => .bl b
theorem le_non {j pos} : PE X (.Constant .none j pos) (LE (gOf B X) E (cF .non)) := le_c pe_non fun _ _ => .non
theorem RD.ty_inv {g : G} {q : List Addr} {H : Hp} {v : V} {n : String} (r : RD g q H v (.ty n)) : v = .ty n := by cases r; rfl
theorem le_str {x j pos} : PE X (.Constant (.str x) j pos) (LE (gOf B X) E (cF (.str x))) := le_c pe_str fun _ _ => .str x

/-! ### two-place operations by values -/
def LR (g : G) (E : XK) (f : D → D → Sto → R D) : R2 := fun x y H Q => ∃ q st a b, RS g q H st ∧ RD g q H x a ∧ RD g q H y b ∧ (f a b st).post (KV g q H Q) (KX g q H E)
def opF (f : D → D → Sto → R D) (fa fb : EF) : EF := fun env st => (fa env st).bind fun a s1 => (fb env s1).bind fun b s2 => f a b s2
theorem LE.chain {g : G} {sg : L2.St} {H : Hp} {f : EF} {q : List Addr} {env : EnvD} {st : Sto} {Q : VK} {K : D → Sto → Prop} (rs : RS g q H st) (re : RE g q H sg env) (p : (f env st).post K (KX g q H E))
    (k : ∀ d st' q' v H', K d st' → Ext q H q' H' → RS g q' H' st' → RE g q' H' sg env → RD g q' H' v d → Q v H') : LE g E f sg H Q :=
  ⟨q, env, st, rs, re, p.imp (fun d st' hk q' v H' e rs' rd => k d st' q' v H' hk e rs' (re.ext e) rd) fun _ _ h => h⟩
theorem opT_le {f : D → D → Sto → R D} {sg : L2.St} {H : Hp} {Q : VK} (w : LE (gOf B X) E (opF f fa fb) sg H Q) : tOp (LR (gOf B X) E f) (LE (gOf B X) E fa) (LE (gOf B X) E fb) sg H Q := by
  obtain ⟨q, env, st, rs, re, p⟩ := w
  refine LE.chain rs re (R.post_bind.mp p) fun x s1 q1 v H1 p e1 rs1 re1 rx => ?_
  refine LE.chain rs1 re1 ((R.post_bind.mp p).imp (fun _ _ h => h) fun _ _ h => h.ext e1) fun y s2 q2 u H2 p e2 rs2 re2 ry => ?_
  exact ⟨q2, s2, x, y, rs2, rx.ext e2, ry, p.imp (fun _ _ h => h.ext (e1.trans e2)) fun _ _ h => h.ext (e1.trans e2)⟩
theorem le_op {op : Operator} {f : D → D → Sto → R D} (ho : OpR X (binaryOp op) (LR (gOf B X) E f)) (ha : PE X a (LE (gOf B X) E fa)) (hb : PE X b (LE (gOf B X) E fb)) : PE X (.BinOp a op b pos) (LE (gOf B X) E (opF f fa fb)) :=
  (pe_op ho ha hb).imp fun _ _ _ w => opT_le w
theorem le_cmp {op : CmpOp} {f : D → D → Sto → R D} (ho : OpR X (compareOp op) (LR (gOf B X) E f)) (ha : PE X a (LE (gOf B X) E fa)) (hb : PE X b (LE (gOf B X) E fb)) (hm : behindInMarks op b = false) : PE X (.Compare a [op] [b] pos) (LE (gOf B X) E (opF f fa fb)) :=
  (pe_cmpR ho ha hb hm).imp fun _ _ _ w => opT_le w
theorem le_ix {f : D → D → Sto → R D} (ho : IxR X (LR (gOf B X) E f)) (ha : PE X a (LE (gOf B X) E fa)) (hb : PE X b (LE (gOf B X) E fb)) (hs : PlainIx b) : PE X (.Subscript a b pos) (LE (gOf B X) E (opF f fa fb)) :=
  (pe_ix ho ha hb hs).imp fun _ _ _ w => opT_le w

/-! ### tests -/
/-- the truth of a value that is a bool -/
def bF (f : EF) : TF := fun env st => (f env st).bind fun d s => match d with
  | .bl b => .ok b s
  | _ => .bad
theorem RD.bl_inv {g : G} {q : List Addr} {H : Hp} {v : V} {b : Bool} (r : RD g q H v (.bl b)) : v = .bl b := by cases r; rfl
theorem RD.int_inv {g : G} {q : List Addr} {H : Hp} {v : V} {b : Int} (r : RD g q H v (.int b)) : v = .int b := by cases r; rfl
theorem RD.str_inv {g : G} {q : List Addr} {H : Hp} {v : V} {b : Str} (r : RD g q H v (.str b)) : v = .str b := by cases r; rfl
theorem RD.non_inv {g : G} {q : List Addr} {H : Hp} {v : V} (r : RD g q H v .non) : v = .non := by cases r; rfl
theorem RD.tup_inv {g : G} {q : List Addr} {H : Hp} {v : V} {ds : List D} (r : RD g q H v (.tup ds)) : ∃ a xs, v = .ref a ∧ SqT g.K H a xs ∧ RDs g q H xs ds := by cases r with | tup h r => exact ⟨_, _, rfl, h, r⟩
theorem RD.ref_inv {g : G} {q : List Addr} {H : Hp} {v : V} {n : Nat} (r : RD g q H v (.ref n)) : ∃ a, v = .ref a ∧ q[n]? = some a := by cases r with | ref h => exact ⟨_, rfl, h⟩
theorem RD.glb_inv {g : G} {q : List Addr} {H : Hp} {v : V} {x : Str} (r : RD g q H v (.glb x)) : ∃ a, v = .ref a ∧ g.mg x = some (.ref a) := by cases r with | glb h => exact ⟨_, rfl, h⟩
theorem bool_le {sg : L2.St} {H : Hp} {Q : Bool → Hp → Prop} {f : EF} (w : LT (gOf B X) E (bF f) sg H Q) : LE (gOf B X) E f sg H fun x H1 => ∃ c, x = .bl c ∧ Q c H1 := by
  obtain ⟨q, env, st, rs, re, p⟩ := w
  refine LE.chain rs re (R.post_bind.mp p) fun x s1 q1 v H1 p e1 rs1 re1 rx => ?_
  cases x with
  | bl b => exact ⟨b, rx.bl_inv, p q1 H1 e1 rs1⟩
  | _ => exact False.elim p
theorem lt_val {e : Expr} {f : EF} (h : PE X e (LE (gOf B X) E f)) (he : ∀ whole, isTrue e X.env whole = (do let v ← whole; standAt e.pos; holding [v] (truthy v)) := by intro _; rfl) : PT X e (LT (gOf B X) E (bF f)) :=
  (pt_val h he).imp fun _ _ _ w => bool_le w
theorem lt_cmp {op : CmpOp} {f : D → D → Sto → R D} (ho : OpR X (compareOp op) (LR (gOf B X) E f)) (ha : PE X a (LE (gOf B X) E fa)) (hb : PE X b (LE (gOf B X) E fb)) (hm : behindInMarks op b = false) : PT X (.Compare a [op] [b] pos) (LT (gOf B X) E (bF (opF f fa fb))) :=
  (pt_cmpR ho ha hb hm).imp fun _ _ _ w => by
    obtain ⟨q, env, st, rs, re, p⟩ := w
    exact opT_le (bool_le ⟨q, env, st, rs, re, p⟩)
theorem LT.chain {g : G} {sg : L2.St} {H : Hp} {f : TF} {q : List Addr} {env : EnvD} {st : Sto} {Q : Bool → Hp → Prop} {K : Bool → Sto → Prop} (rs : RS g q H st) (re : RE g q H sg env) (p : (f env st).post K (KX g q H E))
    (k : ∀ d st' q' H', K d st' → Ext q H q' H' → RS g q' H' st' → RE g q' H' sg env → Q d H') : LT g E f sg H Q :=
  ⟨q, env, st, rs, re, p.imp (fun d st' hk q' H' e rs' => k d st' q' H' hk e rs' (re.ext e)) fun _ _ h => h⟩
variable {ta tb : TF} {rest : List Expr}
def andT (ta tb : TF) : TF := fun env st => (ta env st).bind fun c s => if c = true then tb env s else .ok false s
def orT (ta tb : TF) : TF := fun env st => (ta env st).bind fun c s => if c = true then .ok true s else tb env s
def notT (ta : TF) : TF := fun env st => (ta env st).bind fun c s => .ok (!c) s
def KT (g : G) (q : List Addr) (H : Hp) (Q : Bool → Hp → Prop) : Bool → Sto → Prop := fun b st => ∀ q' H', Ext q H q' H' → RS g q' H' st → Q b H'
theorem KT.ext {g : G} {q q' : List Addr} {H H' : Hp} {Q : Bool → Hp → Prop} (e : Ext q H q' H') {c : Bool} {st : Sto} (k : KT g q H Q c st) : KT g q' H' Q c st := fun q2 H2 e2 r => k q2 H2 (e.trans e2) r
theorem lw_and1 {ta : TF} (ha : PT X a (LT (gOf B X) E ta)) : PW X (.BoolOp .And [a] pos) (LT (gOf B X) E ta) := pw_and1 ha
theorem lw_or1 {ta : TF} (ha : PT X a (LT (gOf B X) E ta)) : PW X (.BoolOp .Or [a] pos) (LT (gOf B X) E ta) := pw_or1 ha
theorem lw_and (ha : PT X a (LT (gOf B X) E ta)) (hb : PW X (.BoolOp .And (b :: rest) pos) (LT (gOf B X) E tb)) : PW X (.BoolOp .And (a :: b :: rest) pos) (LT (gOf B X) E (andT ta tb)) :=
  (pw_and ha hb).imp fun sg H Q w => by
    obtain ⟨q, env, st, rs, re, p⟩ := w
    refine LT.chain rs re (R.post_bind.mp p) fun c s1 q1 H1 p e1 rs1 re1 => ?_
    cases c with
    | true => exact iteT ⟨q1, env, s1, rs1, re1, (show (tb env s1).post _ _ from p).imp (fun _ _ h => KT.ext e1 h) fun _ _ h => h.ext e1⟩
    | false => exact iteF (p q1 H1 e1 rs1)
theorem lw_or (ha : PT X a (LT (gOf B X) E ta)) (hb : PW X (.BoolOp .Or (b :: rest) pos) (LT (gOf B X) E tb)) : PW X (.BoolOp .Or (a :: b :: rest) pos) (LT (gOf B X) E (orT ta tb)) :=
  (pw_or ha hb).imp fun sg H Q w => by
    obtain ⟨q, env, st, rs, re, p⟩ := w
    refine LT.chain rs re (R.post_bind.mp p) fun c s1 q1 H1 p e1 rs1 re1 => ?_
    cases c with
    | false => exact iteF ⟨q1, env, s1, rs1, re1, (show (tb env s1).post _ _ from p).imp (fun _ _ h => KT.ext e1 h) fun _ _ h => h.ext e1⟩
    | true => exact iteT (p q1 H1 e1 rs1)
theorem lt_not (ha : PT X a (LT (gOf B X) E ta)) : PT X (.UnaryOp .Not a pos) (LT (gOf B X) E (notT ta)) :=
  (pt_not ha).imp fun sg H Q w => by
    obtain ⟨q, env, st, rs, re, p⟩ := w
    exact LT.chain rs re (R.post_bind.mp p) fun c s1 q1 H1 p e1 rs1 re1 => p q1 H1 e1 rs1
/-! .. as values -/
def andV (fa fb : EF) : EF := fun env st => (bF fa env st).bind fun c s => if c = true then fb env s else .ok (.bl false) s
def orV (fa fb : EF) : EF := fun env st => (bF fa env st).bind fun c s => if c = true then .ok (.bl true) s else fb env s
def notV (fa : EF) : EF := fun env st => (bF fa env st).bind fun c s => .ok (.bl (!c)) s
theorem bool_chain {g : G} {sg : L2.St} {H : Hp} {f : EF} {q : List Addr} {env : EnvD} {st : Sto} {Q : V → Hp → Prop} {K : Bool → Sto → Prop} (rs : RS g q H st) (re : RE g q H sg env) (p : (bF f env st).post K (KX g q H E))
    (k : ∀ c st' q' H', K c st' → Ext q H q' H' → RS g q' H' st' → RE g q' H' sg env → Q (.bl c) H') : LE g E f sg H Q := by
  refine LE.chain rs re (R.post_bind.mp p) fun x s1 q1 v H1 p e1 rs1 re1 rx => ?_
  cases x with
  | bl b => rw [rx.bl_inv]; exact k b s1 q1 H1 p e1 rs1 re1
  | _ => exact False.elim p
theorem le_and1 {op} (ha : PE X a (LE (gOf B X) E fa)) : PE X (.BoolOp op [a] pos) (LE (gOf B X) E fa) := pe_one ha
theorem le_and (ha : PE X a (LE (gOf B X) E fa)) (hb : PE X (.BoolOp .And (b :: rest) pos) (LE (gOf B X) E fb)) : PE X (.BoolOp .And (a :: b :: rest) pos) (LE (gOf B X) E (andV fa fb)) :=
  (pe_and ha hb).imp fun sg H Q w => by
    obtain ⟨q, env, st, rs, re, p⟩ := w
    refine bool_chain rs re (R.post_bind.mp p) fun c s1 q1 H1 p e1 rs1 re1 => ⟨c, rfl, ?_⟩
    cases c with
    | true => exact iteT ⟨q1, env, s1, rs1, re1, (show (fb env s1).post _ _ from p).imp (fun _ _ h => h.ext e1) fun _ _ h => h.ext e1⟩
    | false => exact iteF (p q1 _ H1 e1 rs1 (.bl false))
theorem le_or (ha : PE X a (LE (gOf B X) E fa)) (hb : PE X (.BoolOp .Or (b :: rest) pos) (LE (gOf B X) E fb)) : PE X (.BoolOp .Or (a :: b :: rest) pos) (LE (gOf B X) E (orV fa fb)) :=
  (pe_or ha hb).imp fun sg H Q w => by
    obtain ⟨q, env, st, rs, re, p⟩ := w
    refine bool_chain rs re (R.post_bind.mp p) fun c s1 q1 H1 p e1 rs1 re1 => ⟨c, rfl, ?_⟩
    cases c with
    | false => exact iteF ⟨q1, env, s1, rs1, re1, (show (fb env s1).post _ _ from p).imp (fun _ _ h => h.ext e1) fun _ _ h => h.ext e1⟩
    | true => exact iteT (p q1 _ H1 e1 rs1 (.bl true))
theorem le_not (ha : PE X a (LE (gOf B X) E fa)) : PE X (.UnaryOp .Not a pos) (LE (gOf B X) E (notV fa)) :=
  (pe_not ha).imp fun sg H Q w => by
    obtain ⟨q, env, st, rs, re, p⟩ := w
    exact bool_chain rs re (R.post_bind.mp p) fun c s1 q1 H1 p e1 rs1 re1 => ⟨c, rfl, p q1 _ H1 e1 rs1 (.bl _)⟩
/-- a if t else b -/
def ifF (t : TF) (fa fb : EF) : EF := fun env st => (t env st).bind fun c s => if c = true then fa env s else fb env s
theorem le_ifExp {c : Expr} (hc : PT X c (LT (gOf B X) E ta)) (ha : PE X a (LE (gOf B X) E fa)) (hb : PE X b (LE (gOf B X) E fb)) : PE X (.IfExp c a b pos) (LE (gOf B X) E (ifF ta fa fb)) :=
  (pe_ifExp hc ha hb).imp fun sg H Q w => by
    obtain ⟨q, env, st, rs, re, p⟩ := w
    refine LT.chain rs re (R.post_bind.mp p) fun c s1 q1 H1 p e1 rs1 re1 => ?_
    cases c with
    | true => exact iteT ⟨q1, env, s1, rs1, re1, (show (fa env s1).post _ _ from p).imp (fun _ _ h => h.ext e1) fun _ _ h => h.ext e1⟩
    | false => exact iteF ⟨q1, env, s1, rs1, re1, (show (fb env s1).post _ _ from p).imp (fun _ _ h => h.ext e1) fun _ _ h => h.ext e1⟩

/-! ### arguments, displays -/
def nilA : AF := fun _ st => .ok [] st
def consA (fa : EF) (fr : AF) : AF := fun env st => (fa env st).bind fun x s => (fr env s).bind fun xs s' => .ok (x :: xs) s'
theorem la_nil : PA X [] (LA (gOf B X) E nilA) := pa_nil.imp fun sg H Q w => by
  obtain ⟨q, env, st, rs, re, p⟩ := w
  exact p q [] H Ext.refl rs .nil
theorem LA.chain {g : G} {sg : L2.St} {H : Hp} {f : AF} {q : List Addr} {env : EnvD} {st : Sto} {Q : List V → Hp → Prop} {K : List D → Sto → Prop} (rs : RS g q H st) (re : RE g q H sg env) (p : (f env st).post K (KX g q H E))
    (k : ∀ d st' q' v H', K d st' → Ext q H q' H' → RS g q' H' st' → RE g q' H' sg env → RDs g q' H' v d → Q v H') : LA g E f sg H Q :=
  ⟨q, env, st, rs, re, p.imp (fun d st' hk q' v H' e rs' rd => k d st' q' v H' hk e rs' (re.ext e) rd) fun _ _ h => h⟩
theorem la_cons {es : List Expr} {fr : AF} (ha : PE X a (LE (gOf B X) E fa)) (hr : PA X es (LA (gOf B X) E fr)) (hs : starEach (a :: es) X.env = (false, eval a X.env) :: starEach es X.env := by rfl) : PA X (a :: es) (LA (gOf B X) E (consA fa fr)) :=
  (pa_cons ha hr hs).imp fun sg H Q w => by
    obtain ⟨q, env, st, rs, re, p⟩ := w
    refine LE.chain rs re (R.post_bind.mp p) fun x s1 q1 v H1 p e1 rs1 re1 rx => ?_
    refine LA.chain rs1 re1 ((R.post_bind.mp p).imp (fun _ _ h => h) fun _ _ h => h.ext e1) fun ys s2 q2 vs H2 p e2 rs2 re2 ry => ?_
    exact p q2 _ H2 (e1.trans e2) rs2 (.cons (rx.ext e2) ry)
/-- a new object of the store -/
def newO (o : O) (st : Sto) : R D := .ok (.ref st.length) (st ++ [o])
def tupA (f : AF) : EF := fun env st => (f env st).bind fun xs s => if xs.length ≤ sizeLine then .ok (.tup xs) s else .bad
def lstA (f : AF) : EF := fun env st => (f env st).bind fun xs s => if xs.length ≤ sizeLine then newO (.lst xs) s else .bad
section
variable {g : G} {q : List Addr} {H : Hp} {st : Sto} {p : Addr}
/-- a new tuple -/
theorem tup_new {xs : List V} {ds : List D} (rs : RS g q H st) (hp : H p = none) (r : RDs g q H xs ds) : Ext q H q (upd H p (.tup xs)) ∧ RS g q (upd H p (.tup xs)) st ∧ RD g q (upd H p (.tup xs)) (.ref p) (.tup ds) := by
  have s := same_upd (o := HO.tup xs) hp
  exact ⟨Same.ext0 s, rs.same s, .tup (.inl (.inl upd_same)) (r.ext (Same.ext0 s))⟩
theorem lst_new {xs : List V} {ds : List D} (rs : RS g q H st) (hp : H p = none) (r : RDs g q H xs ds) : Ext q H (q ++ [p]) (upd H p (.lst xs)) ∧ RS g (q ++ [p]) (upd H p (.lst xs)) (st ++ [.lst ds]) ∧ RD g (q ++ [p]) (upd H p (.lst xs)) (.ref p) (.ref st.length) := by
  have s := same_upd (o := HO.lst xs) hp
  refine ⟨Same.ext s hp, rs.new hp ⟨xs, upd_same, r.ext (Same.ext s hp)⟩, .ref ?_⟩
  rw [← rs.len]; simp
theorem dic_new (rs : RS g q H st) (hp : H p = none) : Ext q H (q ++ [p]) (upd H p (.dK [])) ∧ RS g (q ++ [p]) (upd H p (.dK [])) (st ++ [.dic []]) ∧ RD g (q ++ [p]) (upd H p (.dK [])) (.ref p) (.ref st.length) := by
  have s := same_upd (o := HO.dK []) hp
  refine ⟨Same.ext s hp, rs.new hp (.inl ⟨[], upd_same, .nil⟩), .ref ?_⟩
  rw [← rs.len]; simp
end
theorem le_tup {es : List Expr} {f : AF} {x1} (h : PA X es (LA (gOf B X) E f)) : PE X (.Tuple es x1 pos) (LE (gOf B X) E (tupA f)) := (pe_tup h).imp fun sg H Q w => by
  obtain ⟨q, env, st, rs, re, p⟩ := w
  refine LA.chain rs re (R.post_bind.mp p) fun xs s1 q1 vs H1 p e1 rs1 re1 rx => ?_
  by_cases hz : xs.length ≤ sizeLine
  · rw [if_pos hz] at p
    refine ⟨by rw [rx.length]; exact hz, fun pp hp => ?_⟩
    obtain ⟨e2, rs2, r2⟩ := tup_new rs1 hp rx
    exact p q1 _ _ (e1.trans e2) rs2 r2
  · rw [if_neg hz] at p
    exact False.elim p
theorem le_lst {es : List Expr} {f : AF} (h : PA X es (LA (gOf B X) E f)) : PE X (.List es pos) (LE (gOf B X) E (lstA f)) := (pe_lst h).imp fun sg H Q w => by
  obtain ⟨q, env, st, rs, re, p⟩ := w
  refine LA.chain rs re (R.post_bind.mp p) fun xs s1 q1 vs H1 p e1 rs1 re1 rx => ?_
  by_cases hz : xs.length ≤ sizeLine
  · rw [if_pos hz] at p
    refine ⟨by rw [rx.length]; exact hz, fun pp hp => ?_⟩
    obtain ⟨e2, rs2, r2⟩ := lst_new rs1 hp rx
    exact p _ _ _ (e1.trans e2) rs2 r2
  · rw [if_neg hz] at p
    exact False.elim p
def dicF : EF := fun _ st => newO (.dic []) st
theorem le_dic {e : Expr} (h : PE X e (fun _ H Q => ∀ p, H p = none → Q (.ref p) (upd H p (.dK [])))) : PE X e (LE (gOf B X) E dicF) := h.imp fun sg H Q w p hp => by
  obtain ⟨q, env, st, rs, re, k⟩ := w
  obtain ⟨e2, rs2, r2⟩ := dic_new rs hp
  exact k _ _ _ e2 rs2 r2

/-! ### calls by values -/
def LC (g : G) (E : XK) (f : List D → Sto → R D) : List V → Hp → VK → Prop := fun vs H Q => ∃ q st ds, RS g q H st ∧ RDs g q H vs ds ∧ (f ds st).post (KV g q H Q) (KX g q H E)
def callF (f : List D → Sto → R D) (fa : AF) : EF := fun env st => (fa env st).bind fun ds s => f ds s
theorem call_le {f : List D → Sto → R D} {fa : AF} {sg : L2.St} {H : Hp} {Q : VK} (w : LE (gOf B X) E (callF f fa) sg H Q) : LA (gOf B X) E fa sg H fun vs H1 => LC (gOf B X) E f vs H1 Q := by
  obtain ⟨q, env, st, rs, re, p⟩ := w
  exact LA.chain rs re (R.post_bind.mp p) fun xs s1 q1 vs H1 p e1 rs1 re1 rx => ⟨q1, s1, xs, rs1, rx, p.imp (fun _ _ h => h.ext e1) fun _ _ h => h.ext e1⟩
theorem le_callB {x : Str} {p : Pos} {id : String} {e : Expr} {es : List Expr} {fa : AF} {f : List D → Sto → R D} (hc : CallR X (.builtin id) (LC (gOf B X) E f)) (hg : Gl X x) (hm : X.mg x = none) (hv : bootBuiltins x = some (.builtin id)) (ha : PA X (e :: es) (LA (gOf B X) E fa)) (hn : x ≠ "__name__" := by decide) (hdb : (x == ("__debug__" : Str)) = false := by decide)
    (he : starEach (e :: es) X.env = (false, eval e X.env) :: starEach es X.env := by rfl) (hpl : (backTo pos (starEach es X.env)).any (·.1) = false := by rfl) : PE X (.Call (.Name x p) (e :: es) [] pos) (LE (gOf B X) E (callF f fa)) :=
  (pe_callB hc hg hm hv ha hn hdb he hpl).imp fun _ _ _ w => call_le w
theorem le_callTy {x : Str} {p : Pos} {T : String} {e : Expr} {es : List Expr} {fa : AF} {f : List D → Sto → R D} (hc : CallR X (.type T) (LC (gOf B X) E f)) (hg : Gl X x) (hm : X.mg x = none) (hv : bootBuiltins x = some (.type T)) (ha : PA X (e :: es) (LA (gOf B X) E fa)) (hn : x ≠ "__name__" := by decide) (hdb : (x == ("__debug__" : Str)) = false := by decide)
    (he : starEach (e :: es) X.env = (false, eval e X.env) :: starEach es X.env := by rfl) (hpl : (backTo pos (starEach es X.env)).any (·.1) = false := by rfl) : PE X (.Call (.Name x p) (e :: es) [] pos) (LE (gOf B X) E (callF f fa)) :=
  (pe_callTy hc hg hm hv ha hn hdb he hpl).imp fun _ _ _ w => call_le w
/-- a def's promise -/
def SpD (g : G) (n : Nat) (f : Fn) : Sp := fun vs H Q E => vs.length = n ∧ LC g E f vs H Q
theorem le_call {CX : CXT} {k n : Nat} {f : Addr} {fd : FuncData} {ps : List Str} {fn : Fn} {x : Str} {p : Pos} {e : Expr} {es : List Expr} {fa : AF} (F : FnOk X.prog X.w X.K X.mg X.base CX k f fd ps (SpD (gOf B X) n fn)) (hr : Room k X.A) (hg : Gl X x) (hm : X.mg x = some (.ref f)) (hk : PySem.W.keepIn X.K (.ref f) = true) (hb : Binds X.K fd ps []) (hx : Passes CX X E)
    (ha : PA X (e :: es) (LA (gOf B X) E fa)) (hl : (e :: es).length = n) (hla : ∀ env st ds s, fa env st = .ok ds s → ds.length = (e :: es).length) (hdb : (x == ("__debug__" : Str)) = false := by decide) (he : starEach (e :: es) X.env = (false, eval e X.env) :: starEach es X.env := by rfl) (hpl : (backTo pos (starEach es X.env)).any (·.1) = false := by rfl) :
    PE X (.Call (.Name x p) (e :: es) [] pos) (LE (gOf B X) E (callF fn fa)) :=
  (pe_call F hr hg hm hk hb .nil hx ha hdb he hpl).imp fun sg H Q w => by
    obtain ⟨q, env, st, rs, re, p⟩ := w
    have p := R.post_bind.mp p
    have p' : (fa env st).post (fun ds s => ds.length = n ∧ (fn ds s).post (KV (gOf B X) q H Q) (KX (gOf B X) q H E)) (KX (gOf B X) q H E) := by
      cases hfa : fa env st with
      | ok ds s => rw [hfa] at p; exact ⟨(hla _ _ _ _ hfa).trans hl, p⟩
      | ex c s => rw [hfa] at p; exact p
      | bad => rw [hfa] at p; exact p
    refine LA.chain rs re p' fun xs s1 q1 vs H1 p e1 rs1 re1 rx => ?_
    rw [List.append_nil]
    exact ⟨by rw [rx.length]; exact p.1, q1, s1, xs, rs1, rx, p.2.imp (fun _ _ h => h.ext e1) fun _ _ h => h.ext e1⟩
theorem len_nil {env : EnvD} {st : Sto} {ds : List D} {s : Sto} (h : nilA env st = .ok ds s) : ds.length = 0 := by cases h; rfl
theorem len_cons {fa : EF} {fr : AF} {n : Nat} (hr : ∀ env st ds s, fr env st = .ok ds s → ds.length = n) : ∀ env st ds s, consA fa fr env st = .ok ds s → ds.length = n + 1 := by
  intro env st ds s h
  unfold consA at h
  cases e1 : fa env st with
  | ok x s1 =>
    rw [e1, R.bind_ok] at h
    cases e2 : fr env s1 with
    | ok xs s2 =>
      rw [e2, R.bind_ok] at h
      cases h
      rw [List.length_cons, hr _ _ _ _ e2]
    | ex c s => rw [e2] at h; cases h
    | bad => rw [e2] at h; cases h
  | ex c s => rw [e1] at h; cases h
  | bad => rw [e1] at h; cases h

/-! ### statements -/
theorem LS.chain {g : G} {sg : L2.St} {H : Hp} {f : SF} {q : List Addr} {env : EnvD} {st : Sto} {T : Ends} {K : Fl → Sto → Prop} (rs : RS g q H st) (re : RE g q H sg env) (p : (f env st).post K (KX g q H E))
    (k : ∀ d st', K d st' → KS g q H T d st') : LS g E f T sg H := ⟨q, env, st, rs, re, p.imp k fun _ _ h => h⟩
def nilS : SF := fun env st => .ok (.nx env) st
def seqS (f r : SF) : SF := fun env st => (f env st).bind fun fl s => match fl with
  | .nx e => r e s
  | fl => .ok fl s
theorem lss_nil : PSs X [] (LS (gOf B X) E nilS) := pss_nil.imp fun T sg H w => by
  obtain ⟨q, env, st, rs, re, p⟩ := w
  exact p q H Ext.refl rs sg re
theorem lss_one {st : Stmt} {f : SF} (h : PS X st (LS (gOf B X) E f)) : PSs X [st] (LS (gOf B X) E f) := pss_one h
theorem lss_cons {st : Stmt} {r : List Stmt} {f fr : SF} (h : PS X st (LS (gOf B X) E f)) (hr : PSs X r (LS (gOf B X) E fr)) : PSs X (st :: r) (LS (gOf B X) E (seqS f fr)) := (pss_cons h hr).imp fun T sg H w => by
  obtain ⟨q, env, st, rs, re, p⟩ := w
  refine LS.chain rs re (R.post_bind.mp p) fun fl s p q1 H1 e1 rs1 => ?_
  cases fl with
  | nx e => exact fun sg1 re1 => ⟨q1, e, s, rs1, re1, (show (fr e s).post _ _ from p).imp (fun _ _ h => h.ext e1) fun _ _ h => h.ext e1⟩
  | rt d => exact p q1 H1 e1 rs1
  | bk e => exact p q1 H1 e1 rs1
  | ct e => exact p q1 H1 e1 rs1
theorem ls_pass : PS X (.Pass pos) (LS (gOf B X) E nilS) := ps_pass.imp fun T sg H w => by
  obtain ⟨q, env, st, rs, re, p⟩ := w
  exact p q H Ext.refl rs sg re
def bkS : SF := fun env st => .ok (.bk env) st
def ctS : SF := fun env st => .ok (.ct env) st
theorem ls_break : PS X (.Break pos) (LS (gOf B X) E bkS) := ps_break.imp fun T sg H w => by
  obtain ⟨q, env, st, rs, re, p⟩ := w
  exact p q H Ext.refl rs sg re
theorem ls_continue : PS X (.Continue pos) (LS (gOf B X) E ctS) := ps_continue.imp fun T sg H w => by
  obtain ⟨q, env, st, rs, re, p⟩ := w
  exact p q H Ext.refl rs sg re
def dropS (f : EF) : SF := fun env st => (f env st).bind fun _ s => .ok (.nx env) s
theorem ls_expr {e : Expr} {f : EF} (h : PE X e (LE (gOf B X) E f)) (hs : swapsWith e none pos.line X.env = pure false := by rfl) : PS X (.Expr e pos) (LS (gOf B X) E (dropS f)) := (ps_expr h hs).imp fun T sg H w => by
  obtain ⟨q, env, st, rs, re, p⟩ := w
  exact LE.chain rs re (R.post_bind.mp p) fun x s1 q1 v H1 p e1 rs1 re1 rx => p q1 H1 e1 rs1 sg re1
def retS (f : EF) : SF := fun env st => (f env st).bind fun d s => .ok (.rt d) s
theorem ls_ret {e : Expr} {f : EF} (h : PE X e (LE (gOf B X) E f)) : PS X (.Return (some e) pos) (LS (gOf B X) E (retS f)) := (ps_ret h).imp fun T sg H w => by
  obtain ⟨q, env, st, rs, re, p⟩ := w
  exact LE.chain rs re (R.post_bind.mp p) fun x s1 q1 v H1 p e1 rs1 re1 rx => p q1 H1 e1 rs1 v rx
def retN : SF := fun _ st => .ok (.rt .non) st
theorem ls_retN : PS X (.Return none pos) (LS (gOf B X) E retN) := ps_retN.imp fun T sg H w => by
  obtain ⟨q, env, st, rs, re, p⟩ := w
  exact p q H Ext.refl rs .non .non
def ifS (t : TF) (f r : SF) : SF := fun env st => (t env st).bind fun c s => if c = true then f env s else r env s
theorem ls_if {c : Expr} {x y : List Stmt} {t : TF} {f r : SF} (hc : PT X c (LT (gOf B X) E t)) (hx : PSs X x (LS (gOf B X) E f)) (hy : PSs X y (LS (gOf B X) E r)) : PS X (.If c x y pos) (LS (gOf B X) E (ifS t f r)) := (ps_if hc hx hy).imp fun T sg H w => by
  obtain ⟨q, env, st, rs, re, p⟩ := w
  refine LT.chain rs re (R.post_bind.mp p) fun c s1 q1 H1 p e1 rs1 re1 => ?_
  cases c with
  | true => exact iteT ⟨q1, env, s1, rs1, re1, (show (f env s1).post _ _ from p).imp (fun _ _ h => h.ext e1) fun _ _ h => h.ext e1⟩
  | false => exact iteF ⟨q1, env, s1, rs1, re1, (show (r env s1).post _ _ from p).imp (fun _ _ h => h.ext e1) fun _ _ h => h.ext e1⟩

/-! ### targets -/
abbrev GF := D → EnvD → Sto → R EnvD
def LG (g : G) (E : XK) (f : GF) : TG := fun v sg H Q => ∃ q d env st, RS g q H st ∧ RE g q H sg env ∧ RD g q H v d ∧ (f d env st).post (fun e st' => ∀ q' H' sg', Ext q H q' H' → RS g q' H' st' → RE g q' H' sg' e → Q sg' H') (KX g q H E)
def LGs (g : G) (E : XK) (f : List D → EnvD → Sto → R EnvD) : TGs := fun vs sg H Q => ∃ q ds env st, RS g q H st ∧ RE g q H sg env ∧ RDs g q H vs ds ∧ (f ds env st).post (fun e st' => ∀ q' H' sg', Ext q H q' H' → RS g q' H' st' → RE g q' H' sg' e → Q sg' H') (KX g q H E)
def nameG (i : Nat) : GF := fun d env st => .ok (env.set i (some d)) st
theorem lg_name {e : Expr} {i : Nat} (h : PG X e (gName i)) : PG X e (LG (gOf B X) E (nameG i)) := h.imp fun v sg H Q w => by
  obtain ⟨q, d, env, st, rs, re, rd, p⟩ := w
  exact p q H _ Ext.refl rs (re.set rd)
def nilG : List D → EnvD → Sto → R EnvD := fun ds env st => match ds with
  | [] => .ok env st
  | _ => .bad
def consG (f : GF) (r : List D → EnvD → Sto → R EnvD) : List D → EnvD → Sto → R EnvD := fun ds env st => match ds with
  | d :: ds => (f d env st).bind fun e s => r ds e s
  | [] => .bad
theorem lgs_nil : PGs X [] (LGs (gOf B X) E nilG) := pgs_nil.imp fun vs sg H Q w => by
  obtain ⟨q, ds, env, st, rs, re, rd, p⟩ := w
  cases rd with
  | nil => exact ⟨rfl, p q H sg Ext.refl rs re⟩
  | cons _ _ => exact False.elim p
theorem lgs_cons {e : Expr} {es : List Expr} {f : GF} {r : List D → EnvD → Sto → R EnvD} (h1 : PG X e (LG (gOf B X) E f)) (h2 : PGs X es (LGs (gOf B X) E r))
    (hs : (assignEach (e :: es) X.env).map (·.2) = assign e X.env :: (assignEach es X.env).map (·.2) := by rfl) : PGs X (e :: es) (LGs (gOf B X) E (consG f r)) := (pgs_cons h1 h2 hs).imp fun vs sg H Q w => by
  obtain ⟨q, ds, env, st, rs, re, rd, p⟩ := w
  cases rd with
  | nil => exact False.elim p
  | cons rd rds =>
    refine ⟨_, _, rfl, q, _, env, st, rs, re, rd, (R.post_bind.mp p).imp (fun e1 s1 p q1 H1 sg1 x1 rs1 re1 => ?_) fun _ _ h => h⟩
    exact ⟨q1, _, e1, s1, rs1, re1, rds.ext x1, (show (r _ e1 s1).post _ _ from p).imp (fun e2 s2 p q2 H2 sg2 x2 rs2 re2 => p q2 H2 sg2 (x1.trans x2) rs2 re2) fun _ _ h => h.ext x1⟩
/-- (a, b, ..) = a tuple -/
def tupG (n : Nat) (f : List D → EnvD → Sto → R EnvD) : GF := fun d env st => match d with
  | .tup ds => if ds.length = n then f ds env st else .bad
  | _ => .bad
theorem lg_tup {es : List Expr} {k : Nat} {f : List D → EnvD → Sto → R EnvD} {n : Nat} (hc : X.calm = true) (h : PGs X es (LGs (gOf B X) E f))
    (hn : (assignEach es X.env).length = n := by rfl) (hst : (assignEach es X.env).findIdx? (·.1) = none := by rfl) : PG X (.Tuple es k pos) (LG (gOf B X) E (tupG n f)) := (pg_tup hc h hn hst).imp fun v sg H Q w => by
  obtain ⟨q, d, env, st, rs, re, rd, p⟩ := w
  cases d with
  | tup ds =>
    obtain ⟨a, xs, rfl, hs, rx⟩ := rd.tup_inv
    by_cases hl : ds.length = n
    · have z : tupG n f (.tup ds) env st = f ds env st := if_pos hl
      rw [z] at p
      exact ⟨a, xs, rfl, hs, by rw [rx.length]; exact hl, q, ds, env, st, rs, re, rx, p⟩
    · have z : tupG n f (.tup ds) env st = .bad := if_neg hl
      rw [z] at p
      exact False.elim p
  | _ => exact False.elim p
def asgS (f : EF) (gf : GF) : SF := fun env st => (f env st).bind fun d s => (gf d env s).bind fun e s' => .ok (.nx e) s'
theorem asg_le {f : EF} {gf : GF} {T : Ends} {sg : L2.St} {H : Hp} (w : LS (gOf B X) E (asgS f gf) T sg H) : tAsg (LE (gOf B X) E f) (LG (gOf B X) E gf) T sg H := by
  obtain ⟨q, env, st, rs, re, p⟩ := w
  refine LE.chain rs re (R.post_bind.mp p) fun x s1 q1 v H1 p e1 rs1 re1 rx => ?_
  exact ⟨q1, x, env, s1, rs1, re1, rx, (R.post_bind.mp p).imp (fun e2 s2 p q2 H2 sg2 x2 rs2 re2 => p q2 H2 (e1.trans x2) rs2 sg2 re2) fun _ _ h => h.ext e1⟩
theorem ls_asg {tg e : Expr} {f : EF} {gf : GF} (he : PE X e (LE (gOf B X) E f)) (hg : PG X tg (LG (gOf B X) E gf)) (hs : swapsWithSole [tg] e pos.line X.env = pure false := by rfl) (hw : swappedStores [tg] e X.env = pure none := by rfl)
    (h1 : (assignEach [tg] X.env).map (·.2) = [assign tg X.env] := by rfl) : PS X (.Assign [tg] e pos) (LS (gOf B X) E (asgS f gf)) := (ps_asg he hg hs hw h1).imp fun _ _ _ w => asg_le w
def setS (i : Nat) (f : EF) : SF := fun env st => (f env st).bind fun d s => .ok (.nx (env.set i (some d))) s
theorem set_le {i : Nat} {f : EF} {T : Ends} {sg : L2.St} {H : Hp} (w : LS (gOf B X) E (setS i f) T sg H) : tAsg (LE (gOf B X) E f) (gName i) T sg H := by
  obtain ⟨q, env, st, rs, re, p⟩ := w
  exact LE.chain rs re (R.post_bind.mp p) fun x s1 q1 v H1 p e1 rs1 re1 rx => p q1 H1 e1 rs1 _ (re1.set rx)
theorem ls_set {i : Nat} {x : Str} {e : Expr} {f : EF} {pos' : Pos} (hN : X.N.Nodup) (he : PE X e (LE (gOf B X) E f)) (hi : X.N[i]? = some x := by rfl) (hx : Loc X.env.scope x := by first | exact Or.inl rfl | exact Or.inr rfl) (hs : swapsWith e (some (.Name x pos')) pos.line X.env = pure false := by rfl) (hf : X.fn x = true ∨ X.env.scope.names.lookup x = some .local := by first | exact .inl rfl | exact .inr rfl | assumption) :
    PS X (.Assign [.Name x pos'] e pos) (LS (gOf B X) E (setS i f)) := (ps_set hN hi hx he hs hf).imp fun _ _ _ w => set_le w
/-! ### a def -/
def startE (n : Nat) (ds : List D) : EnvD := ds.map some ++ List.replicate (n - ds.length) none
def fnF (n : Nat) (f : SF) : Fn := fun ds st => (f (startE n ds) st).bind fun fl s => match fl with
  | .nx _ => .ok .non s
  | .rt d => .ok d s
  | _ => .bad
theorem RE.of {g : G} {q : List Addr} {H : Hp} : ∀ {vs : List V} {ds : List D}, RDs g q H vs ds → RE g q H (vs.map some) (ds.map some)
  | _, _, .nil => .nil
  | _, _, .cons r t => .cons (fun x e => by cases e; exact ⟨_, rfl, r⟩) (RE.of t)
theorem RE.start {g : G} {q : List Addr} {H : Hp} {vs : List V} {ds : List D} (r : RDs g q H vs ds) (n : Nat) : RE g q H (vs.map some ++ List.replicate (n - vs.length) none) (startE n ds) := by
  have h2 : ∀ k : Nat, RE g q H (List.replicate k none) (List.replicate k none) := by
    intro k
    induction k with
    | zero => exact .nil
    | succ k ih => exact .cons (fun x e => nomatch e) ih
  unfold startE
  rw [r.length]
  exact Paired.app (RE.of r) (h2 _)
theorem fn_le {g : G} {E : XK} {n : Nat} {f : SF} {N : List Str} {vs : List V} {H : Hp} {Q : VK} (hN : N.length = n) (w : LC g E (fnF n f) vs H Q) : LS g E f { nx := fun _ H' => Q .non H', rt := Q } (start N vs) H := by
  obtain ⟨q, st, ds, rs, rd, p⟩ := w
  subst hN
  refine ⟨q, startE N.length ds, st, rs, RE.start rd _, (R.post_bind.mp p).imp (fun fl s p q1 H1 e1 rs1 => ?_) fun _ _ h => h⟩
  cases fl with
  | nx e => exact fun sg re => p q1 _ H1 e1 rs1 .non
  | rt d => exact fun v rv => p q1 v H1 e1 rs1 rv
  | bk e => exact False.elim p
  | ct e => exact False.elim p
end
end VL

/-! VL3: what the built-in operations are on data; loops, comprehensions; the rule for a def. -/
namespace L2
open PySem PySem.Spec PyProof.Rows
section
variable {X : Cx}
theorem OpR.rI0 {op : Value → Value → Sem Value} {v : Int → Int → V} (h : OpR X op (rI0 v)) : OpR X op (rI (fun _ _ => True) v) := h.imp fun x y H Q ⟨i, j, h1, h2, _, h3⟩ => ⟨i, j, h1, h2, h3⟩
theorem PO.imp {e : Option Expr} {t t' : TO} (h : PO X e t) (i : ∀ sg H Q, t' sg H Q → t sg H Q) : PO X e t' := ⟨fun pins s sg H Q I w => h.run pins s sg H Q I (i _ _ _ w)⟩
end
end L2
namespace VL
open PySem PySem.Spec PyProof.Rows L2 LamX NdefX
variable {B : Tb}

section
variable {X : Cx} {E : XK}
/-- a sequence that may be read: list or tuple -/
theorem RO.seqL {g : G} {q : List Addr} {H : Hp} {a : Addr} {ds : List D} (h : RO g q H a (.lst ds) ∨ RO g q H a (.rl ds)) : ∃ xs, SqL g.K H a xs ∧ RDs g q H xs ds := by
  rcases h with ⟨xs, h, r⟩ | ⟨xs, h, r⟩
  · exact ⟨xs, SqL.of h, r⟩
  · exact ⟨xs, h.sq, r⟩
/-- the items of the list n -/
def listAt (st : Sto) (n : Nat) : Option (List D) := match st[n]? with
  | some (.lst xs) => some xs
  | some (.rl xs) => some xs
  | _ => none
theorem listAt_lst {st : Sto} {n : Nat} {xs : List D} (h : st[n]? = some (.lst xs)) : listAt st n = some xs := by unfold listAt; rw [h]
theorem listAt_rl {st : Sto} {n : Nat} {xs : List D} (h : st[n]? = some (.rl xs)) : listAt st n = some xs := by unfold listAt; rw [h]
theorem RS.listAt {g : G} {q : List Addr} {H : Hp} {st : Sto} (rs : RS g q H st) {n : Nat} {ds : List D} (h : listAt st n = some ds) : ∃ a xs, q[n]? = some a ∧ SqL g.K H a xs ∧ RDs g q H xs ds := by
  unfold VL.listAt at h
  split at h
  · rename_i xs e
    cases h
    obtain ⟨a, h1, h2⟩ := rs.get e
    obtain ⟨ys, h3, h4⟩ := RO.seqL (.inl h2)
    exact ⟨a, ys, h1, h3, h4⟩
  · rename_i xs e
    cases h
    obtain ⟨a, h1, h2⟩ := rs.get e
    obtain ⟨ys, h3, h4⟩ := RO.seqL (.inr h2)
    exact ⟨a, ys, h1, h3, h4⟩
  · cases h
theorem RS.lstAt {g : G} {q : List Addr} {H : Hp} {st : Sto} (rs : RS g q H st) {n : Nat} {ds : List D} (h : st[n]? = some (.lst ds)) : ∃ a xs, q[n]? = some a ∧ H a = some (.lst xs) ∧ RDs g q H xs ds := by
  obtain ⟨a, h1, xs, h2, h3⟩ := rs.get h
  exact ⟨a, xs, h1, h2, h3⟩

/-! ### arithmetic -/
def addD : D → D → Sto → R D
  | .int a, .int b, st => .ok (.int (a + b)) st
  | .str a, .str b, st => if a.length + b.length ≤ sizeLine then .ok (.str (a ++ b)) st else .bad
  | .tup a, .tup b, st => if a.length + b.length ≤ sizeLine then .ok (.tup (a ++ b)) st else .bad
  | .ref m, .ref n, st => match st[m]?, st[n]? with
    | some (.lst a), some (.lst b) => if a.length + b.length ≤ sizeLine then newO (.lst (a ++ b)) st else .bad
    | _, _ => .bad
  | _, _, _ => .bad
theorem op_addD : OpR X (binaryOp .Add) (LR (gOf B X) E addD) := ((op_add.or op_add_str).or (op_cat.or op_catA)).imp fun x y H Q w => by
  obtain ⟨q, st, a, b, rs, ra, rb, p⟩ := w
  cases a with
  | int i =>
    cases b with
    | int j => rw [ra.int_inv, rb.int_inv]; exact .inl (.inl ⟨i, j, rfl, rfl, p q _ H Ext.refl rs (.int _)⟩)
    | _ => exact False.elim p
  | str i =>
    cases b with
    | str j =>
      rw [ra.str_inv, rb.str_inv]
      by_cases hz : i.length + j.length ≤ sizeLine
      · have p : ((if i.length + j.length ≤ sizeLine then .ok (.str (i ++ j)) st else .bad) : R D).post _ _ := p
        rw [if_pos hz] at p
        exact .inl (.inr ⟨i, j, rfl, rfl, hz, p q _ H Ext.refl rs (.str _)⟩)
      · have p : ((if i.length + j.length ≤ sizeLine then .ok (.str (i ++ j)) st else .bad) : R D).post _ _ := p
        rw [if_neg hz] at p
        exact False.elim p
    | _ => exact False.elim p
  | tup i =>
    cases b with
    | tup j =>
      obtain ⟨a, xs, rfl, sa, rx⟩ := ra.tup_inv
      obtain ⟨b, ys, rfl, sb, ry⟩ := rb.tup_inv
      by_cases hz : i.length + j.length ≤ sizeLine
      · have p : ((if i.length + j.length ≤ sizeLine then .ok (.tup (i ++ j)) st else .bad) : R D).post _ _ := p
        rw [if_pos hz] at p
        have rxy := rx.append ry
        refine .inr (.inr ⟨a, b, xs, ys, rfl, rfl, sa, sb, by rw [rx.length, ry.length]; exact hz, fun e => ?_, fun _ e => ?_, fun _ _ t ht => ?_⟩)
        · subst e
          exact p q _ H Ext.refl rs (.tup sb rxy)
        · subst e
          rw [List.append_nil] at rxy
          exact p q _ H Ext.refl rs (.tup sa rxy)
        · obtain ⟨e2, rs2, r2⟩ := tup_new rs ht rxy
          exact p _ _ _ e2 rs2 r2
      · have p : ((if i.length + j.length ≤ sizeLine then .ok (.tup (i ++ j)) st else .bad) : R D).post _ _ := p
        rw [if_neg hz] at p
        exact False.elim p
    | _ => exact False.elim p
  | ref m =>
    cases b with
    | ref n =>
      have p : (match st[m]?, st[n]? with
        | some (.lst a), some (.lst b) => if a.length + b.length ≤ sizeLine then newO (.lst (a ++ b)) st else .bad
        | _, _ => .bad : R D).post _ _ := p
      split at p
      · rename_i i j e1 e2
        split at p
        · rename_i hz
          obtain ⟨a, xs, qa, ha, rx⟩ := rs.lstAt e1
          obtain ⟨b, ys, qb, hb, ry⟩ := rs.lstAt e2
          obtain ⟨a', rfl, qa'⟩ := ra.ref_inv
          obtain ⟨b', rfl, qb'⟩ := rb.ref_inv
          rw [qa] at qa'; cases qa'
          rw [qb] at qb'; cases qb'
          refine .inr (.inl ⟨a, b, xs, ys, rfl, rfl, ha, hb, by rw [rx.length, ry.length]; exact hz, fun t ht => ?_⟩)
          obtain ⟨e2, rs2, r2⟩ := lst_new rs ht (rx.append ry)
          exact p _ _ _ e2 rs2 r2
        · exact False.elim p
      · exact False.elim p
    | _ => exact False.elim p
  | _ => exact False.elim p
/-- two ints, under a condition -/
def intD (c : Int → Int → Bool) (f : Int → Int → D) : D → D → Sto → R D
  | .int a, .int b, st => if c a b = true then .ok (f a b) st else .bad
  | _, _, _ => .bad
theorem op_intD {op : Value → Value → Sem Value} {C : Int → Int → Prop} {v : Int → Int → V} {c : Int → Int → Bool} {f : Int → Int → D} (h : OpR X op (rI C v)) (hc : ∀ i j, c i j = true → C i j) (hv : ∀ q H i j, RD (gOf B X) q H (v i j) (f i j)) : OpR X op (LR (gOf B X) E (intD c f)) := h.imp fun x y H Q w => by
  obtain ⟨q, st, a, b, rs, ra, rb, p⟩ := w
  cases a with
  | int i =>
    cases b with
    | int j =>
      have p : ((if c i j = true then .ok (f i j) st else .bad) : R D).post _ _ := p
      split at p
      · rename_i hcc
        exact ⟨i, j, ra.int_inv, rb.int_inv, hc i j hcc, p q _ H Ext.refl rs (hv q H i j)⟩
      · exact False.elim p
    | _ => exact False.elim p
  | _ => exact False.elim p
def yes2 : Int → Int → Bool := fun _ _ => true
abbrev subD := intD yes2 fun a b => .int (a - b)
/-- within the model's line -/
def MulOk (a b : Int) : Prop := a.natAbs.log2 + b.natAbs.log2 < 1000000 ∨ a.natAbs < 2 ^ 64 ∨ b.natAbs < 2 ^ 64
instance {a b : Int} : Decidable (MulOk a b) := inferInstanceAs (Decidable (_ ∨ _ ∨ _))
abbrev mulD := intD (fun a b => decide (MulOk a b)) fun a b => .int (a * b)
abbrev modD := intD (fun _ b => decide (0 < b)) fun a b => .int (a % b)
abbrev divD := intD (fun _ b => decide (0 < b ∧ b.natAbs.log2 < 9000)) fun a b => .int (a / b)
abbrev powD := intD (fun a b => decide (0 ≤ b ∧ b ≤ 1000000 ∧ a.natAbs < 2 ^ 64)) fun a b => .int (a ^ b.toNat)
abbrev ltD := intD yes2 fun a b => .bl (decide (a < b))
abbrev leD := intD yes2 fun a b => .bl (decide (a ≤ b))
abbrev gtD := intD yes2 fun a b => .bl (decide (b < a))
abbrev geD := intD yes2 fun a b => .bl (decide (b ≤ a))
theorem op_subD : OpR X (binaryOp .Sub) (LR (gOf B X) E subD) := op_intD op_sub.rI0 (fun _ _ _ => trivial) fun _ _ _ _ => .int _
theorem op_mulD : OpR X (binaryOp .Mult) (LR (gOf B X) E mulD) := op_intD (C := MulOk) ((op_mul.or op_mulW).imp fun x y H Q ⟨i, j, e1, e2, c, q⟩ => by
  rcases c with c | c | c
  · exact .inr ⟨i, j, e1, e2, c, q⟩
  · exact .inl ⟨i, j, e1, e2, .inl (by omega), q⟩
  · exact .inl ⟨i, j, e1, e2, .inr (by omega), q⟩) (fun i j h => of_decide_eq_true (p := MulOk i j) h) fun _ _ _ _ => .int _
theorem op_modD : OpR X (binaryOp .Mod) (LR (gOf B X) E modD) := op_intD op_mod (fun i j h => of_decide_eq_true (p := 0 < j) h) fun _ _ _ _ => .int _
theorem op_divD : OpR X (binaryOp .FloorDiv) (LR (gOf B X) E divD) := op_intD op_fdivW (fun i j h => of_decide_eq_true (p := _ ∧ _) h) fun _ _ _ _ => .int _
theorem op_powD : OpR X (binaryOp .Pow) (LR (gOf B X) E powD) := op_intD op_pow (fun i j h => of_decide_eq_true (p := _ ∧ _) h) fun _ _ _ _ => .int _
theorem op_ltD : OpR X (compareOp .Lt) (LR (gOf B X) E ltD) := op_intD op_lt.rI0 (fun _ _ _ => trivial) fun _ _ _ _ => .bl _
theorem op_leD : OpR X (compareOp .LtE) (LR (gOf B X) E leD) := op_intD op_le.rI0 (fun _ _ _ => trivial) fun _ _ _ _ => .bl _
theorem op_gtD : OpR X (compareOp .Gt) (LR (gOf B X) E gtD) := op_intD op_gt.rI0 (fun _ _ _ => trivial) fun _ _ _ _ => .bl _
theorem op_geD : OpR X (compareOp .GtE) (LR (gOf B X) E geD) := op_intD op_ge.rI0 (fun _ _ _ => trivial) fun _ _ _ _ => .bl _
def negD : D → Sto → R D
  | .int a, st => .ok (.int (-a)) st
  | _, _ => .bad
def un1 (f : D → Sto → R D) (fa : EF) : EF := fun env st => (fa env st).bind f
theorem le_neg {a : Expr} {fa : EF} {pos : Pos} (ha : PE X a (LE (gOf B X) E fa)) : PE X (.UnaryOp .USub a pos) (LE (gOf B X) E (un1 negD fa)) := (pe_un un_neg ha).imp fun sg H Q w => by
  obtain ⟨q, env, st, rs, re, p⟩ := w
  refine LE.chain rs re (R.post_bind.mp p) fun x s1 q1 v H1 p e1 rs1 re1 rx => ?_
  cases x with
  | int i => exact ⟨i, rx.int_inv, p q1 _ H1 e1 rs1 (.int _)⟩
  | _ => exact False.elim p

/-! ### == -/
mutual
/-- as the library's data -/
def toPy : D → Option PyData
  | .non => some .none
  | .bl b => some (.bool b)
  | .int i => some (.int i)
  | .str x => some (.str x)
  | .tup xs => (toPys xs).map .tuple
  | .ref _ => none
  | .glb _ => none
  | .ty _ => none
  | .clo _ _ => none
def toPys : List D → Option (List PyData)
  | [] => some []
  | x :: xs => (toPy x).bind fun k => (toPys xs).map fun ks => k :: ks
end
mutual
theorem RD.dp {g : G} {q : List Addr} {H : Hp} : ∀ {v : V} {d : D} {p : PyData}, RD g q H v d → toPy d = some p → Dp g.K H v p
  | _, _, _, .non, e => by cases e; exact .non
  | _, _, _, .bl b, e => by cases e; exact .bl b
  | _, _, _, .int b, e => by cases e; exact .int b
  | _, _, _, .str b, e => by cases e; exact .str b
  | _, .tup ds, p, .tup h r, e => by
    unfold toPy at e
    obtain ⟨ps, h1, h2⟩ := Option.map_eq_some_iff.mp e
    subst h2
    exact .tup h (RDs.dp r h1)
  | _, .clo _ _, _, _, e => by unfold toPy at e; cases e
theorem RDs.dp {g : G} {q : List Addr} {H : Hp} : ∀ {v : List V} {d : List D} {p : List PyData}, RDs g q H v d → toPys d = some p → DpAll g.K H v p
  | _, _, _, .nil, e => by cases e; exact .nil
  | _, x :: xs, p, .cons r t, e => by
    unfold toPys at e
    obtain ⟨k, h1, h2⟩ := Option.bind_eq_some_iff.mp e
    obtain ⟨ks, h3, h4⟩ := Option.map_eq_some_iff.mp h2
    subst h4
    exact .cons (RD.dp r h1) (RDs.dp t h3)
end
/-- two scalars of which == is told at once -/
def sEq : D → D → Option Bool
  | .non, .non => some true
  | .non, .int _ => some false | .int _, .non => some false | .non, .bl _ => some false | .bl _, .non => some false | .non, .str _ => some false | .str _, .non => some false
  | .int a, .int b => some (decide (a = b))
  | .bl a, .bl b => some (decide (a = b))
  | .str a, .str b => some (decide (a = b))
  | .int _, .str _ => some false | .str _, .int _ => some false | .bl _, .str _ => some false | .str _, .bl _ => some false
  | _, _ => none
/-- a == b of data without lists -/
def eqP (a b : D) : Option Bool := match sEq a b with
  | some c => some c
  | none => match toPy a, toPy b with
    | some p, some r => if (SeqAt.shaped p && SeqAt.shaped r) = true then some (PyData.eqv p r) else none
    | _, _ => none
def eqD (a b : D) (st : Sto) : R D := match eqP a b with
  | some c => .ok (.bl c) st
  | none => .bad
def neD (a b : D) (st : Sto) : R D := match eqP a b with
  | some c => .ok (.bl (!c)) st
  | none => .bad
theorem sEq_scal {g : G} {q : List Addr} {H : Hp} {x y : V} {a b : D} {c : Bool} (ra : RD g q H x a) (rb : RD g q H y b) (h : sEq a b = some c) : scal x y = true ∧ decide (x = y) = c := by
  cases a <;> cases b <;> first
    | (cases h; done)
    | (cases ra; cases rb; cases h; exact ⟨rfl, by simp⟩)
theorem eqP_of {g : G} {q : List Addr} {H : Hp} {x y : V} {a b : D} {c : Bool} (ra : RD g q H x a) (rb : RD g q H y b) (h : eqP a b = some c) :
    (scal x y = true ∧ decide (x = y) = c) ∨ ∃ d e, Dp g.K H x d ∧ Dp g.K H y e ∧ SeqAt.shaped d = true ∧ SeqAt.shaped e = true ∧ PyData.eqv d e = c := by
  unfold eqP at h
  split at h
  · rename_i c' e
    cases h
    exact .inl (sEq_scal ra rb e)
  · split at h
    · rename_i p r e1 e2
      split at h
      · rename_i hs
        cases h
        rw [Bool.and_eq_true] at hs
        exact .inr ⟨p, r, ra.dp e1, rb.dp e2, hs.1, hs.2, rfl⟩
      · cases h
    · cases h
theorem op_eqDD (hu : X.A.units + 64 < cLine) : OpR X (compareOp .Eq) (LR (gOf B X) E eqD) := (op_eq.or (op_eqD hu)).imp fun x y H Q w => by
  obtain ⟨q, st, a, b, rs, ra, rb, p⟩ := w
  unfold eqD at p
  split at p
  · rename_i c e
    have k := p q (.bl c) H Ext.refl rs (.bl c)
    rcases eqP_of ra rb e with ⟨h1, h2⟩ | ⟨d, e, h1, h2, h3, h4, h5⟩
    · exact .inl ⟨h1, by rw [h2]; exact k⟩
    · exact .inr ⟨d, e, h1, h2, h3, h4, by rw [h5]; exact k⟩
  · exact False.elim p
theorem op_neDD (hu : X.A.units + 64 < cLine) : OpR X (compareOp .NotEq) (LR (gOf B X) E neD) := (op_ne.or (op_neD hu)).imp fun x y H Q w => by
  obtain ⟨q, st, a, b, rs, ra, rb, p⟩ := w
  unfold neD at p
  split at p
  · rename_i c e
    have k := p q (.bl (!c)) H Ext.refl rs (.bl (!c))
    rcases eqP_of ra rb e with ⟨h1, h2⟩ | ⟨d, e, h1, h2, h3, h4, h5⟩
    · exact .inl ⟨h1, by rw [h2]; exact k⟩
    · exact .inr ⟨d, e, h1, h2, h3, h4, by rw [h5]; exact k⟩
  · exact False.elim p
/-- x is None -/
def isN (neg : Bool) : D → D → Sto → R D
  | a, .non, st => .ok (.bl (match a with | .non => !neg | _ => neg)) st
  | _, _, _ => .bad
theorem RD.isnon {g : G} {q : List Addr} {H : Hp} {x : V} {a : D} (r : RD g q H x a) : decide (x = .non) = (match a with | .non => true | _ => false) := by
  cases r <;> simp
theorem op_isND : OpR X (compareOp .Is) (LR (gOf B X) E (isN false)) := op_isN.imp fun x y H Q w => by
  obtain ⟨q, st, a, b, rs, ra, rb, p⟩ := w
  cases b with
  | non =>
    refine ⟨rb.non_inv, ?_⟩
    rw [ra.isnon]
    have k := p q _ H Ext.refl rs (.bl _)
    cases a <;> exact k
  | _ => cases a <;> exact False.elim p
theorem op_notND : OpR X (compareOp .IsNot) (LR (gOf B X) E (isN true)) := op_notN.imp fun x y H Q w => by
  obtain ⟨q, st, a, b, rs, ra, rb, p⟩ := w
  cases b with
  | non =>
    refine ⟨rb.non_inv, ?_⟩
    rw [ra.isnon]
    have k := p q _ H Ext.refl rs (.bl _)
    cases a <;> exact k
  | _ => cases a <;> exact False.elim p

/-! ### subscripts, slices -/
def ixD : D → D → Sto → R D
  | .tup xs, .int i, st => match atI xs i with
    | some d => .ok d st
    | none => .bad
  | .ref n, .int i, st => match (listAt st n).bind fun xs => atI xs i with
    | some d => .ok d st
    | none => .bad
  | .str z, .int i, st => if z.length ≤ sizeLine then match atI z.cps.toList i with
    | some c => .ok (.str ⟨#[c]⟩) st
    | none => .bad
    else .bad
  | _, _, _ => .bad
theorem RDs.atI {g : G} {q : List Addr} {H : Hp} {xs : List V} {ds : List D} {i : Int} {d : D} (r : RDs g q H xs ds) (h : atI ds i = some d) : ∃ v, L2.atI xs i = some v ∧ RD g q H v d := by
  unfold L2.atI at h ⊢
  rw [r.length]
  obtain ⟨j, h1, h2⟩ := Option.bind_eq_some_iff.mp h
  rw [h1]
  exact r.get h2
theorem ix_D : IxR X (LR (gOf B X) E ixD) := ix_seq.imp fun x y H Q w => by
  obtain ⟨q, st, a, b, rs, ra, rb, p⟩ := w
  cases b with
  | int i =>
    cases a with
    | tup ds =>
      have p : (match atI ds i with | some d => .ok d st | none => .bad : R D).post _ _ := p
      split at p
      · rename_i d e
        obtain ⟨a, xs, rfl, hs, rx⟩ := ra.tup_inv
        obtain ⟨v, h1, h2⟩ := rx.atI e
        exact .inr (.inl ⟨a, xs, i, v, rfl, rb.int_inv, hs, h1, p q v H Ext.refl rs h2⟩)
      · exact False.elim p
    | ref n =>
      have p : (match (listAt st n).bind fun xs => atI xs i with | some d => .ok d st | none => .bad : R D).post _ _ := p
      split at p
      · rename_i d e
        obtain ⟨ds, e1, e2⟩ := Option.bind_eq_some_iff.mp e
        obtain ⟨a, xs, qa, hs, rx⟩ := rs.listAt e1
        obtain ⟨a', rfl, qa'⟩ := ra.ref_inv
        rw [qa] at qa'; cases qa'
        obtain ⟨v, h1, h2⟩ := rx.atI e2
        exact .inl ⟨a, xs, i, v, rfl, rb.int_inv, hs, h1, p q v H Ext.refl rs h2⟩
      · exact False.elim p
    | str z =>
      have p : (if z.length ≤ sizeLine then match atI z.cps.toList i with
        | some c => .ok (.str ⟨#[c]⟩) st
        | none => .bad
        else .bad : R D).post _ _ := p
      split at p
      · rename_i hz
        split at p
        · rename_i c e
          exact .inr (.inr ⟨z, i, c, ra.str_inv, rb.int_inv, hz, e, p q _ H Ext.refl rs (.str _)⟩)
        · exact False.elim p
      · exact False.elim p
    | _ => exact False.elim p
  | _ => cases a <;> exact False.elim p

/-- a part of a slice: none, or an int -/
abbrev OF := EnvD → Sto → R (Option Int)
def LO (g : G) (E : XK) (f : OF) : TO := fun sg H Q => ∃ q env st, RS g q H st ∧ RE g q H sg env ∧ (f env st).post (fun o st' => ∀ q' H', Ext q H q' H' → RS g q' H' st' → Q o H') (KX g q H E)
def nonO : OF := fun _ st => .ok none st
def someO (f : EF) : OF := fun env st => (f env st).bind fun d s => match d with
  | .int i => .ok (some i) s
  | _ => .bad
theorem lo_none : PO X none (LO (gOf B X) E nonO) := po_none.imp fun sg H Q w => by
  obtain ⟨q, env, st, rs, re, p⟩ := w
  exact p q H Ext.refl rs
theorem lo_some {e : Expr} {f : EF} (h : PE X e (LE (gOf B X) E f)) : PO X (some e) (LO (gOf B X) E (someO f)) := (po_some h).imp fun sg H Q w => by
  obtain ⟨q, env, st, rs, re, p⟩ := w
  refine LE.chain rs re (R.post_bind.mp p) fun x s1 q1 v H1 p e1 rs1 re1 rx => ?_
  cases x with
  | int i => exact ⟨i, rx.int_inv, p q1 H1 e1 rs1⟩
  | _ => exact False.elim p
def cutD (xs : List D) (lo hi : Option Int) : List D := (xs.drop (HT.sIx xs.length 0 lo)).take (HT.sIx xs.length xs.length hi - HT.sIx xs.length 0 lo)
theorem RDs.cut {g : G} {q : List Addr} {H : Hp} {xs : List V} {ds : List D} (r : RDs g q H xs ds) (lo hi : Option Int) : RDs g q H (cutV xs lo hi) (cutD ds lo hi) := by
  unfold cutV cutD
  rw [r.length]
  exact (r.drop _).take _
def slD : D → Option Int → Option Int → Sto → R D
  | .tup xs, lo, hi, st => .ok (.tup (cutD xs lo hi)) st
  | .ref n, lo, hi, st => match listAt st n with
    | some xs => newO (.lst (cutD xs lo hi)) st
    | none => .bad
  | .str z, lo, hi, st => if z.length ≤ sizeLine then .ok (.str (cutS z lo hi)) st else .bad
  | _, _, _, _ => .bad
def slF (fa : EF) (fl fh : OF) : EF := fun env st => (fa env st).bind fun d s => (fl env s).bind fun lo s1 => (fh env s1).bind fun hi s2 => slD d lo hi s2
theorem slD_ok {g : G} {q : List Addr} {H : Hp} {Q : VK} {K' : Str → Sto → Prop} {x : V} {d : D} {lo hi : Option Int} {st : Sto} (rs : RS g q H st) (rx : RD g q H x d) (p : (slD d lo hi st).post (KV g q H Q) K') :
    rSlA g.K x lo hi H Q ∨ rSlL g.K x lo hi H Q ∨ rSlS x lo hi H Q := by
  cases d with
  | tup ds =>
    obtain ⟨a, xs, rfl, hs, r⟩ := rx.tup_inv
    refine .inl ⟨a, xs, rfl, hs, fun hw => ?_, fun _ t ht => ?_⟩
    · have e : cutV xs lo hi = xs := by
        unfold cutV
        rw [hw.1, hw.2, List.drop_zero, Nat.sub_zero, List.take_length]
      have rc := r.cut lo hi
      rw [e] at rc
      exact p q _ H Ext.refl rs (.tup hs rc)
    · obtain ⟨e2, rs2, r2⟩ := tup_new rs ht (r.cut lo hi)
      exact p _ _ _ e2 rs2 r2
  | ref n =>
    have p : (match listAt st n with | some xs => newO (.lst (cutD xs lo hi)) st | none => .bad : R D).post _ _ := p
    split at p
    · rename_i ds e
      obtain ⟨a, xs, qa, hs, r⟩ := rs.listAt e
      obtain ⟨a', rfl, qa'⟩ := rx.ref_inv
      rw [qa] at qa'; cases qa'
      refine .inr (.inl ⟨a, xs, rfl, hs, fun t ht => ?_⟩)
      obtain ⟨e2, rs2, r2⟩ := lst_new rs ht (r.cut lo hi)
      exact p _ _ _ e2 rs2 r2
    · exact False.elim p
  | str z =>
    have p : (if z.length ≤ sizeLine then .ok (.str (cutS z lo hi)) st else .bad : R D).post _ _ := p
    split at p
    · rename_i hz
      exact .inr (.inr ⟨z, rx.str_inv, hz, p q _ H Ext.refl rs (.str _)⟩)
    · exact False.elim p
  | _ => exact False.elim p
theorem le_slice {e : Expr} {lo hi : Option Expr} {fa : EF} {fl fh : OF} {pos p2 : Pos} (he : PE X e (LE (gOf B X) E fa)) (hl : PO X lo (LO (gOf B X) E fl)) (hh : PO X hi (LO (gOf B X) E fh)) : PE X (.Subscript e (.Slice lo hi none p2) pos) (LE (gOf B X) E (slF fa fl fh)) :=
  (pe_slice (sl_tupA.or (sl_list.or sl_str)) he hl hh).imp fun sg H Q w => by
    obtain ⟨q, env, st, rs, re, p⟩ := w
    refine LE.chain rs re (R.post_bind.mp p) fun d s1 q1 v H1 p e1 rs1 re1 rx => ?_
    refine ⟨q1, env, s1, rs1, re1, (R.post_bind.mp p).imp (fun o s2 p q2 H2 e2 rs2 => ?_) fun _ _ h => h.ext e1⟩
    refine ⟨q2, env, s2, rs2, re1.ext e2, (R.post_bind.mp p).imp (fun o' s3 p q3 H3 e3 rs3 => ?_) fun _ _ h => h.ext (e1.trans e2)⟩
    exact slD_ok rs3 (rx.ext (e2.trans e3)) (p.imp (fun _ _ h => h.ext (e1.trans (e2.trans e3))) fun _ _ h => h)

/-! ### len, tuple, list, min, max, abs -/
def lenD : List D → Sto → R D
  | [.tup xs], st => .ok (.int xs.length) st
  | [.str z], st => if z.length ≤ sizeLine then .ok (.int z.length) st else .bad
  | [.ref n], st => match listAt st n with
    | some xs => .ok (.int xs.length) st
    | none => .bad
  | _, _ => .bad
theorem RDs.one_inv {g : G} {q : List Addr} {H : Hp} {vs : List V} {d : D} (r : RDs g q H vs [d]) : ∃ v, vs = [v] ∧ RD g q H v d := by
  cases r with | cons r t => cases t; exact ⟨_, rfl, r⟩
theorem RDs.two_inv {g : G} {q : List Addr} {H : Hp} {vs : List V} {d e : D} (r : RDs g q H vs [d, e]) : ∃ v w, vs = [v, w] ∧ RD g q H v d ∧ RD g q H w e := by
  cases r with | cons r t => cases t with | cons r' t' => cases t'; exact ⟨_, _, rfl, r, r'⟩
theorem call_lenD : CallR X (.builtin "len") (LC (gOf B X) E lenD) := call_len.imp fun vs H Q w => by
  obtain ⟨q, st, ds, rs, rd, p⟩ := w
  unfold lenD at p
  split at p
  · obtain ⟨v, rfl, r⟩ := rd.one_inv
    obtain ⟨a, xs, rfl, hs, rx⟩ := r.tup_inv
    exact ⟨_, xs.length, rfl, .inr ⟨xs, hs, rfl⟩, by rw [rx.length]; exact p q _ H Ext.refl rs (.int _)⟩
  · split at p
    · rename_i hz
      obtain ⟨v, rfl, r⟩ := rd.one_inv
      rw [r.str_inv]
      exact ⟨_, _, rfl, ⟨hz, rfl⟩, p q _ H Ext.refl rs (.int _)⟩
    · exact False.elim p
  · split at p
    · rename_i xs e
      obtain ⟨v, rfl, r⟩ := rd.one_inv
      obtain ⟨a, ys, qa, hs, rx⟩ := rs.listAt e
      obtain ⟨a', rfl, qa'⟩ := r.ref_inv
      rw [qa] at qa'; cases qa'
      exact ⟨_, ys.length, rfl, .inl ⟨ys, hs, rfl⟩, by rw [rx.length]; exact p q _ H Ext.refl rs (.int _)⟩
    · exact False.elim p
  · exact False.elim p
def tupleD : List D → Sto → R D
  | [.tup xs], st => .ok (.tup xs) st
  | [.ref n], st => match listAt st n with
    | some xs => .ok (.tup xs) st
    | none => .bad
  | _, _ => .bad
theorem call_tupleD : CallR X (.type "tuple") (LC (gOf B X) E tupleD) := call_tuple_of.imp fun vs H Q w => by
  obtain ⟨q, st, ds, rs, rd, p⟩ := w
  unfold tupleD at p
  split at p
  · obtain ⟨v, rfl, r⟩ := rd.one_inv
    obtain ⟨a, xs, rfl, hs, rx⟩ := r.tup_inv
    exact ⟨a, xs, rfl, .inr ⟨hs, p q _ H Ext.refl rs (.tup hs rx)⟩⟩
  · split at p
    · rename_i xs e
      obtain ⟨v, rfl, r⟩ := rd.one_inv
      obtain ⟨a, ys, qa, hs, rx⟩ := rs.listAt e
      obtain ⟨a', rfl, qa'⟩ := r.ref_inv
      rw [qa] at qa'; cases qa'
      refine ⟨a, ys, rfl, .inl ⟨hs, fun t ht => ?_⟩⟩
      obtain ⟨e2, rs2, r2⟩ := tup_new rs ht rx
      exact p _ _ _ e2 rs2 r2
    · exact False.elim p
  · exact False.elim p
def listD : List D → Sto → R D
  | [.tup xs], st => newO (.lst xs) st
  | [.ref n], st => match listAt st n with
    | some xs => newO (.lst xs) st
    | none => .bad
  | _, _ => .bad
theorem call_listD : CallR X (.type "list") (LC (gOf B X) E listD) := call_list_of.imp fun vs H Q w => by
  obtain ⟨q, st, ds, rs, rd, p⟩ := w
  unfold listD at p
  split at p
  · obtain ⟨v, rfl, r⟩ := rd.one_inv
    obtain ⟨a, xs, rfl, hs, rx⟩ := r.tup_inv
    refine ⟨a, xs, rfl, .inr hs, fun t ht => ?_⟩
    obtain ⟨e2, rs2, r2⟩ := lst_new rs ht rx
    exact p _ _ _ e2 rs2 r2
  · split at p
    · rename_i xs e
      obtain ⟨v, rfl, r⟩ := rd.one_inv
      obtain ⟨a, ys, qa, hs, rx⟩ := rs.listAt e
      obtain ⟨a', rfl, qa'⟩ := r.ref_inv
      rw [qa] at qa'; cases qa'
      refine ⟨a, ys, rfl, .inl hs, fun t ht => ?_⟩
      obtain ⟨e2, rs2, r2⟩ := lst_new rs ht rx
      exact p _ _ _ e2 rs2 r2
    · exact False.elim p
  · exact False.elim p
def int2D (f : Int → Int → Int) : List D → Sto → R D
  | [.int a, .int b], st => .ok (.int (f a b)) st
  | _, _ => .bad
theorem call_int2D {id : String} {f : Int → Int → Int} (h : CallR X (.builtin id) (fun xs H Q => ∃ i j, xs = [.int i, .int j] ∧ Q (.int (f i j)) H)) : CallR X (.builtin id) (LC (gOf B X) E (int2D f)) := h.imp fun vs H Q w => by
  obtain ⟨q, st, ds, rs, rd, p⟩ := w
  unfold int2D at p
  split at p
  · obtain ⟨v, w', rfl, r1, r2⟩ := rd.two_inv
    exact ⟨_, _, by rw [r1.int_inv, r2.int_inv], p q _ H Ext.refl rs (.int _)⟩
  · exact False.elim p
abbrev minD := int2D fun i j => if j < i then j else i
abbrev maxD := int2D fun i j => if j > i then j else i
theorem call_minD (hc : X.calm = true) : CallR X (.builtin "min") (LC (gOf B X) E minD) := call_int2D (call_min2 hc)
theorem call_maxD (hc : X.calm = true) : CallR X (.builtin "max") (LC (gOf B X) E maxD) := call_int2D (call_max2 hc)
def bools : List D → Option (List Bool)
  | [] => some []
  | .bl b :: r => (bools r).map fun bs => b :: bs
  | _ :: _ => none
theorem RDs.bools {g : G} {q : List Addr} {H : Hp} : ∀ {vs : List V} {ds : List D} {bs : List Bool}, RDs g q H vs ds → bools ds = some bs → vs = bs.map V.bl
  | _, _, _, .nil, e => by cases e; rfl
  | _, _, bs, .cons (d := .bl b) r t, e => by
    unfold VL.bools at e
    obtain ⟨cs, h1, h2⟩ := Option.map_eq_some_iff.mp e
    subst h2
    rw [r.bl_inv, RDs.bools t h1]
    rfl
  | _, _, _, .cons (d := .non) r t, e => nomatch e
  | _, _, _, .cons (d := .int _) r t, e => nomatch e
  | _, _, _, .cons (d := .str _) r t, e => nomatch e
  | _, _, _, .cons (d := .tup _) r t, e => nomatch e
  | _, _, _, .cons (d := .ref _) r t, e => nomatch e
  | _, _, _, .cons (d := .glb _) r t, e => nomatch e
  | _, _, _, .cons (d := .ty _) r t, e => nomatch e
def allD : List D → Sto → R D
  | [.ref n], st => match (listAt st n).bind bools with
    | some bs => .ok (.bl (bs.all id)) st
    | none => .bad
  | _, _ => .bad
theorem call_allD (hc : X.calm = true) : CallR X (.builtin "all") (LC (gOf B X) E allD) := (cr_all hc).imp fun vs H Q w => by
  obtain ⟨q, st, ds, rs, rd, p⟩ := w
  unfold allD at p
  split at p
  · split at p
    · rename_i bs e
      obtain ⟨xs, e1, e2⟩ := Option.bind_eq_some_iff.mp e
      obtain ⟨v, rfl, r⟩ := rd.one_inv
      obtain ⟨a, ys, qa, hs, rx⟩ := rs.listAt e1
      obtain ⟨a', rfl, qa'⟩ := r.ref_inv
      rw [qa] at qa'; cases qa'
      rw [rx.bools e2] at hs
      exact ⟨a, bs, rfl, hs, p q _ H Ext.refl rs (.bl _)⟩
    · exact False.elim p
  · exact False.elim p

/-! ### append -/
/-- a method of a built-in type: the receiver and the arguments -/
def LM (g : G) (E : XK) (f : D → List D → Sto → R D) : V → List V → Hp → VK → Prop := fun v vs H Q => ∃ q st d ds, RS g q H st ∧ RD g q H v d ∧ RDs g q H vs ds ∧ (f d ds st).post (KV g q H Q) (KX g q H E)
/-- the receiver's built-in type, as a method is looked up -/
def tyD (T : String) (d : D) (st : Sto) : Prop := match d with
  | .str _ => T = "str"
  | .ref n => (T = "list" ∧ (listAt st n).isSome = true) ∨ (T = "dict" ∧ ∃ kvs, st[n]? = some (.dic kvs))
  | _ => False
theorem tyD_is {g : G} {q : List Addr} {H : Hp} {st : Sto} {T : String} {pins : List (Addr × Obj)} {sg : L2.St} {s : Shared} {x : V} {d : D} {v : Value} (I : Inv X pins sg H s) (rs : RS (gOf B X) q H st) (rx : RD (gOf B X) q H x d) (r : RelV x v) (ty : tyD T d st) :
    s.TypeIs v T ∧ ∀ a, v = .ref a → ∃ ob, s.heap.get? a = some ob ∧ ob.dict = none := by
  cases d with
  | str z =>
    refine tyV_is (T := T) I r ?_
    rw [rx.str_inv]
    exact ty
  | ref n =>
    obtain ⟨a, rfl, qa⟩ := rx.ref_inv
    rcases ty with ⟨rfl, h⟩ | ⟨rfl, kvs, h⟩
    · obtain ⟨ds, h⟩ := Option.isSome_iff_exists.mp h
      obtain ⟨b, xs, qb, hs, _⟩ := rs.listAt h
      rw [qa] at qb; cases qb
      exact tyV_is (T := "list") I r (.inl ⟨rfl, xs, hs⟩)
    · obtain ⟨b, qb, hb⟩ := rs.get h
      rw [qa] at qb; cases qb
      rcases hb with ⟨gs, hk, _⟩ | ⟨_, xs, hk, _⟩
      · exact tyV_is (T := "dict") I r (.inr (.inr (.inl ⟨rfl, .inl ⟨gs, hk⟩⟩)))
      · cases r
        obtain ⟨⟨_, o, es, ep, e, ex, _⟩, _⟩ := I.hok a _ hk
        exact ⟨⟨o, e, ex.1⟩, fun b eb => by cases eb; exact ⟨o, e, ex.2.1⟩⟩
  | _ => exact False.elim ty
open Classical in
noncomputable def methF (T : String) (f : D → List D → Sto → R D) (fo : EF) (fa : AF) : EF := fun env st => (fo env st).bind fun d s => if tyD T d s then (fa env s).bind fun ds s' => f d ds s' else .bad
theorem le_bm {T id : String} {f : D → List D → Sto → R D} {o e : Expr} {es : List Expr} {name : Str} {apos cpos : Pos} {fo : EF} {fa : AF} (pa : PlainAttrs T) (slot : Slot T name id) (hty : typeOf (.builtin id) = pure (.type "method_descriptor")) (hm : MtR X id (LM (gOf B X) E f)) (ho : PE X o (LE (gOf B X) E fo)) (ha : PA X (e :: es) (LA (gOf B X) E fa))
    (hbase : attributeBase o name X.env (eval o X.env) = eval o X.env := by rfl)
    (hfew : ((backTo cpos (starEach (e :: es) X.env)).all (fun x => !x.1) && (backToKw cpos (keywordEach [] X.env)).all (fun x => x.1.isSome)
      && decide ((e :: es).length + ([] : List Keyword).length + (if ([] : List Keyword).isEmpty then 0 else 1) < 30)) = true := by rfl)
    (hline : (apos.endLine == cpos.line) = true := by rfl) (hs : starEach (e :: es) X.env = (false, eval e X.env) :: starEach es X.env := by rfl) (hplain : (backTo cpos (starEach es X.env)).any (·.1) = false := by rfl) :
    PE X (.Call (.Attribute o name apos) (e :: es) [] cpos) (LE (gOf B X) E (methF T f fo fa)) := by
  refine ⟨fun pins s sg H Q I w => ?_⟩
  obtain ⟨q, env, st, rs, re, p⟩ := w
  have w2 : LE (gOf B X) E fo sg H (fun x H1 => ∃ q1 s1 d, RS (gOf B X) q1 H1 s1 ∧ RD (gOf B X) q1 H1 x d ∧ tyD T d s1 ∧ LA (gOf B X) E fa sg H1 fun vs H2 => LM (gOf B X) E f x vs H2 Q) := by
    refine LE.chain rs re (R.post_bind.mp p) fun d s1 q1 v H1 p e1 rs1 re1 rx => ?_
    by_cases ht : tyD T d s1
    · rw [if_pos ht] at p
      refine ⟨q1, s1, d, rs1, rx, ht, ?_⟩
      refine LA.chain rs1 re1 ((R.post_bind.mp p).imp (fun _ _ h => h) fun _ _ h => h.ext e1) fun ds s2 q2 vs H2 p e2 rs2 re2 rd => ?_
      exact ⟨q2, s2, d, ds, rs2, rx.ext e2, rd, p.imp (fun _ _ h => h.ext (e1.trans e2)) fun _ _ h => h.ext (e1.trans e2)⟩
    · rw [if_neg ht] at p
      exact False.elim p
  refine wpAny_Call_method_late hbase hfew hline rfl (thn (ho.run pins s sg H _ I w2) fun v s1 ⟨x, H1, I1, r1, q1, st1, d, rs1, rx, ty, w3⟩ => ?_)
  obtain ⟨h1, h2⟩ := tyD_is (g := gOf B X) I1 rs1 rx r1 ty
  refine ⟨T, id, pa, slot, hty, h1, h2, ?_⟩
  have hA := ha.run cpos pins s1 sg H1 _ I1 w3
  rw [hs] at hA ⊢
  refine Calls.callWith_builtin (by show (false || (backTo cpos (starEach es X.env)).any (·.1)) = false; rw [hplain] <;> rfl) (Calls.evalArgs_plain ?_)
  exact thn hA fun us s2 ⟨vs, H2, I2, r2, q2⟩ => hm pins s2 sg H2 x vs v us Q I2 r1 r2 q2
theorem le_bm0 {T id : String} {f : D → List D → Sto → R D} {o : Expr} {name : Str} {apos cpos : Pos} {fo : EF} (pa : PlainAttrs T) (slot : Slot T name id) (hty : typeOf (.builtin id) = pure (.type "method_descriptor")) (hm : MtR X id (LM (gOf B X) E f)) (ho : PE X o (LE (gOf B X) E fo))
    (hbase : attributeBase o name X.env (eval o X.env) = eval o X.env := by rfl) (hline : (apos.endLine == cpos.line) = true := by rfl) : PE X (.Call (.Attribute o name apos) [] [] cpos) (LE (gOf B X) E (methF T f fo nilA)) := by
  refine ⟨fun pins s sg H Q I w => ?_⟩
  obtain ⟨q, env, st, rs, re, p⟩ := w
  have w2 : LE (gOf B X) E fo sg H (fun x H1 => ∃ q1 s1 d, RS (gOf B X) q1 H1 s1 ∧ RD (gOf B X) q1 H1 x d ∧ tyD T d s1 ∧ LM (gOf B X) E f x [] H1 Q) := by
    refine LE.chain rs re (R.post_bind.mp p) fun d s1 q1 v H1 p e1 rs1 re1 rx => ?_
    by_cases ht : tyD T d s1
    · rw [if_pos ht] at p
      exact ⟨q1, s1, d, rs1, rx, ht, q1, s1, d, [], rs1, rx, .nil, (show (f d [] s1).post _ _ from p).imp (fun _ _ h => h.ext e1) fun _ _ h => h.ext e1⟩
    · rw [if_neg ht] at p
      exact False.elim p
  refine wpAny_Call_method0_late hbase hline (thn (ho.run pins s sg H _ I w2) fun v s1 ⟨x, H1, I1, r1, q1, st1, d, rs1, rx, ty, w3⟩ => ?_)
  obtain ⟨h1, h2⟩ := tyD_is (g := gOf B X) I1 rs1 rx r1 ty
  exact ⟨T, id, pa, slot, hty, h1, h2, Calls.callWith_builtin rfl (PySem.evalArgs_none (hm pins s1 sg H1 x [] v [] Q I1 r1 .nil w3))⟩
def appD : D → List D → Sto → R D
  | .ref n, [d], st => match st[n]? with
    | some (.lst xs) => if xs.length < sizeLine then .ok .non (st.set n (.lst (xs ++ [d]))) else .bad
    | _ => .bad
  | _, _, _ => .bad
theorem lst_put {g : G} {q : List Addr} {H : Hp} {st : Sto} {n : Nat} {ds es : List D} {a : Addr} {xs ys : List V} (rs : RS g q H st) (h : st[n]? = some (.lst ds)) (qa : q[n]? = some a) (ha : H a = some (.lst xs)) (r : RDs g q H ys es) :
    RS g q (upd H a (.lst ys)) (st.set n (.lst es)) ∧ Ext q H q (upd H a (.lst ys)) := by
  have mu : Mut (H a) := by rw [ha]; trivial
  exact rs.put' qa (fun zs e => by rw [h] at e; cases e) mu (fun φ e => by rw [ha] at e; cases e) (fun ps e => by cases e) fun ext => ⟨ys, upd_same, r.ext ext⟩
theorem mt_appD : MtR X "list.append" (LM (gOf B X) E appD) := MtR.imp mt_append fun x vs H Q w => by
  obtain ⟨q, st, d, ds, rs, rx, rd, p⟩ := w
  unfold appD at p
  split at p
  · rename_i n e
    split at p
    · rename_i xs hx
      split at p
      · rename_i hz
        obtain ⟨y, rfl, ry⟩ := rd.one_inv
        obtain ⟨a, ys, qa, ha, r⟩ := rs.lstAt hx
        obtain ⟨a', rfl, qa'⟩ := rx.ref_inv
        rw [qa] at qa'; cases qa'
        obtain ⟨rs2, e2⟩ := lst_put rs hx qa ha (r.append (.cons ry .nil))
        exact ⟨a, ys, y, rfl, rfl, ha, by rw [r.length]; exact hz, p q _ _ e2 rs2 .non⟩
      · exact False.elim p
    · exact False.elim p
  · exact False.elim p
end
end VL

/-! VL4: walks, for, list comprehensions, the rule for a def. -/
namespace L2
open PySem PySem.Spec PyProof.Rows
theorem PI.imp {X : Cx} {tg e : Expr} {t t' : TI} (h : PI X tg e t) (i : ∀ sg H R, t' sg H R → t sg H R) : PI X tg e t' := ⟨fun pins s sg H R I w => h.run pins s sg H R I (i _ _ _ w)⟩
theorem PTs.imp {X : Cx} {e : List Expr} {t t' : TT} (h : PTs X e t) (i : ∀ sg H Q, t' sg H Q → t sg H Q) : PTs X e t' := ⟨fun pins s sg H Q I w => h.run pins s sg H Q I (i _ _ _ w)⟩
section
variable {X : Cx} {tg : Expr} {pins : List (Addr × Obj)} {σ : L2.St} {H : Hp} {s : Shared} {R : It → Hp → Prop} {a : Addr} {xs : List V}
theorem iter_l (I : Inv X pins σ H s) (hq : SqL X.K H a xs) (q : R (Itl X.K a) H) : wpAny (model X.prog X.w) X.A (pyIter (.ref a)) (PIE X pins σ tg R) X.xe s := by
  obtain ⟨its, rv, p, hz⟩ := I.list hq
  refine wpAny_pyIter_list p.isList ?_
  refine ⟨s.heap.objs.size, [s.heap.objs.size], _, _, H, rfl, I.kept (t' := s.toks) fun b o e => Heap.get?_push_of_some _ e, turn_list a _, ⟨_, Heap.get?_push_size _ rfl, rfl, rfl⟩, fun b hb => ?_, q⟩
  have e : b = s.heap.objs.size := by simpa using hb
  subst e
  exact I.fpOk (Nat.le_refl _) (I.hok.fresh (Nat.le_refl _))
theorem iter_t (I : Inv X pins σ H s) (hq : SqT X.K H a xs) (q : R (Itt X.K a) H) : wpAny (model X.prog X.w) X.A (pyIter (.ref a)) (PIE X pins σ tg R) X.xe s := by
  obtain ⟨its, rv, p, hz⟩ := I.tuple hq
  refine wpAny_pyIter_tuple (show s.heap.IsTuple a its.toArray from p) ?_
  refine ⟨s.heap.objs.size, [s.heap.objs.size], _, _, H, rfl, I.kept (t' := s.toks) fun b o e => Heap.get?_push_of_some _ e, turn_tuple a _, ⟨_, Heap.get?_push_size _ rfl, rfl, rfl⟩, fun b hb => ?_, q⟩
  have e : b = s.heap.objs.size := by simpa using hb
  subst e
  exact I.fpOk (Nat.le_refl _) (I.hok.fresh (Nat.le_refl _))
theorem iter_s {x : Str} {t : Tok} (I : Inv X pins σ H s) (q : R (Its x) H) : wpAny (model X.prog X.w) X.A (pyIter (.str x t)) (PIE X pins σ tg R) X.xe s := by
  cases ha : x.cps.all (· < 128)
  · exact wpAny_pyIter_wide ha (pi_one (tk := s.toks) I _ (turn_str _ x t "str_iterator" (.inr rfl)) ⟨_, Heap.get?_push_size _ rfl, rfl, rfl⟩ q)
  · exact wpAny_pyIter_ascii ha (pi_one (tk := s.toks) I _ (turn_str _ x t "str_ascii_iterator" (.inl rfl)) ⟨_, Heap.get?_push_size _ rfl, rfl, rfl⟩ q)
end
end L2
namespace VL
open PySem PySem.Spec PyProof.Rows L2 RZ RT LamX NdefX
variable {B : Tb}

/-! ### what is walked: the items, and what must stand still meanwhile -/
abbrev Chk := List (Nat × O)
def ChkOk (c : Chk) (st : Sto) : Prop := ∀ p ∈ c, st[p.1]? = some p.2
theorem ChkOk.nil {st : Sto} : ChkOk [] st := fun _ h => nomatch h
theorem ChkOk.one {st : Sto} {n : Nat} {o : O} (h : st[n]? = some o) : ChkOk [(n, o)] st := fun p hp => by
  rw [List.mem_singleton] at hp
  subst hp
  exact h
def chkAt (st : Sto) (n : Nat) : Chk := match st[n]? with
  | some o => [(n, o)]
  | none => []
theorem chkAt_list {st st' : Sto} {n : Nat} {xs : List D} (h : listAt st n = some xs) (c : ChkOk (chkAt st n) st') : listAt st' n = some xs := by
  unfold listAt at h
  split at h
  · rename_i ys e
    cases h
    unfold chkAt at c
    rw [e] at c
    exact listAt_lst (c _ (List.mem_singleton.mpr rfl))
  · rename_i ys e
    cases h
    unfold chkAt at c
    rw [e] at c
    exact listAt_rl (c _ (List.mem_singleton.mpr rfl))
  · cases h
abbrev ItF := EnvD → Sto → R (List D × Chk)
def Walks (g : G) (J : It) (q : List Addr) (H : Hp) (p : List D × Chk) : Prop := ∀ i q' H' st', Ext q H q' H' → RS g q' H' st' → ChkOk p.2 st' →
  (p.1.length ≤ i → J.stop i H') ∧ ∀ d, p.1[i]? = some d → J.go i H' ∧ ∀ x H2, J.yld i H' x H2 → Ext q' H' q' H2 ∧ RS g q' H2 st' ∧ RD g q' H2 x d
def KI (g : G) (q : List Addr) (H : Hp) (R : It → Hp → Prop) : List D × Chk → Sto → Prop := fun p st => ∀ q' H' J, Ext q H q' H' → RS g q' H' st → Walks g J q' H' p → R J H'
theorem KI.ext {g : G} {q q' : List Addr} {H H' : Hp} {R : It → Hp → Prop} (e : Ext q H q' H') {p : List D × Chk} {st : Sto} (k : KI g q H R p st) : KI g q' H' R p st := fun q2 H2 J e2 r m => k q2 H2 J (e.trans e2) r m
def LI (g : G) (E : XK) (f : ItF) : TI := fun sg H R => ∃ q env st, RS g q H st ∧ RE g q H sg env ∧ (f env st).post (KI g q H R) (KX g q H E)
theorem RDs.inj_get {g : G} {q : List Addr} {H : Hp} {xs : List V} {ds : List D} (r : RDs g q H xs ds) {i : Nat} {x : V} {d : D} (h1 : xs[i]? = some x) (h2 : ds[i]? = some d) : RD g q H x d := by
  obtain ⟨v, h3, h4⟩ := r.get h2
  rw [h1] at h3; cases h3
  exact h4
theorem walks_l {g : G} {q : List Addr} {H : Hp} {n : Nat} {a : Addr} {ds : List D} {c : Chk} (qa : q[n]? = some a) (hc : ∀ st', ChkOk c st' → listAt st' n = some ds) : Walks g (Itl g.K a) q H (ds, c) := by
  intro i q' H' st' e rs ok
  obtain ⟨b, xs, qb, hs, r⟩ := rs.listAt (hc st' ok)
  rw [e.at qa] at qb; cases qb
  refine ⟨fun hi => ⟨xs, hs, by rw [r.length]; exact hi⟩, fun d hd => ?_⟩
  obtain ⟨x, hx, rx⟩ := r.get hd
  refine ⟨⟨xs, x, hs, hx⟩, fun y H2 ⟨e2, hy⟩ => ?_⟩
  subst e2
  exact ⟨Ext.refl, rs, r.inj_get (hy xs hs) hd⟩
theorem walks_t {g : G} {q : List Addr} {H : Hp} {a : Addr} {xs : List V} {ds : List D} {c : Chk} (hs : SqT g.K H a xs) (r : RDs g q H xs ds) : Walks g (Itt g.K a) q H (ds, c) := by
  intro i q' H' st' e rs ok
  have hs' := sqT_ext e hs
  have r' := r.ext e
  refine ⟨fun hi => ⟨xs, hs', by rw [r.length]; exact hi⟩, fun d hd => ?_⟩
  obtain ⟨x, hx, rx⟩ := r'.get hd
  refine ⟨⟨xs, x, hs', hx⟩, fun y H2 ⟨e2, hy⟩ => ?_⟩
  subst e2
  exact ⟨Ext.refl, rs, r'.inj_get (hy xs hs') hd⟩
def signs (x : Str) : List D := x.cps.toList.map fun c => .str ⟨#[c]⟩
theorem walks_s {g : G} {q : List Addr} {H : Hp} {x : Str} {c : Chk} : Walks g (Its x) q H (signs x, c) := by
  intro i q' H' st' e rs ok
  refine ⟨fun hi => ?_, fun d hd => ?_⟩
  · show x.cps.size ≤ i
    have : (signs x).length = x.cps.size := by simp [signs]
    rw [← this]; exact hi
  · have hd : (signs x)[i]? = some d := hd
    unfold signs at hd
    rw [List.getElem?_map] at hd
    obtain ⟨k, hk, rfl⟩ := Option.map_eq_some_iff.mp hd
    have hk' : x.cps[i]? = some k := by simpa using hk
    refine ⟨(Array.getElem?_eq_some_iff.mp hk').1, fun y H2 ⟨e2, k', h1, h2⟩ => ?_⟩
    subst e2
    rw [hk'] at h1; cases h1
    subst h2
    exact ⟨Ext.refl, rs, .str _⟩
/-- over a list, a tuple, a text -/
def itD (d : D) (st : Sto) : R (List D × Chk) := match d with
  | .tup ds => .ok (ds, []) st
  | .str x => .ok (signs x, []) st
  | .ref n => match listAt st n with
    | some ds => .ok (ds, chkAt st n) st
    | none => .bad
  | _ => .bad
def itF (f : EF) : ItF := fun env st => (f env st).bind itD
section
variable {X : Cx} {E : XK} {tg : Expr}
theorem li_seq {e : Expr} {f : EF} (he : PE X e (LE (gOf B X) E f)) : PI X tg e (LI (gOf B X) E (itF f)) := by
  refine ⟨fun pins s sg H RR I w => ?_⟩
  obtain ⟨q, env, st, rs, re, p⟩ := w
  have w2 : LE (gOf B X) E f sg H (fun x H1 => ∃ q1 s1 d, RS (gOf B X) q1 H1 s1 ∧ RD (gOf B X) q1 H1 x d ∧ (itD d s1).post (KI (gOf B X) q1 H1 RR) (KX (gOf B X) q1 H1 E)) :=
    LE.chain rs re (R.post_bind.mp p) fun d s1 q1 v H1 p e1 rs1 re1 rx => ⟨q1, s1, d, rs1, rx, p.imp (fun _ _ h => h.ext e1) fun _ _ h => h.ext e1⟩
  refine thn (he.run pins s sg H _ I w2) fun v s1 ⟨x, H1, I1, r1, q1, st1, d, rs1, rx, p⟩ => ?_
  cases d with
  | tup ds =>
    obtain ⟨a, xs, rfl, hs, r⟩ := rx.tup_inv
    cases r1
    exact iter_t I1 hs (p q1 H1 _ Ext.refl rs1 (walks_t hs r))
  | str z =>
    rw [rx.str_inv] at r1
    obtain ⟨t, rfl⟩ := r1
    exact iter_s I1 (p q1 H1 _ Ext.refl rs1 walks_s)
  | ref n =>
    have p : (match listAt st1 n with | some ds => .ok (ds, chkAt st1 n) st1 | none => .bad : R (List D × Chk)).post _ _ := p
    split at p
    · rename_i ds e
      obtain ⟨a, xs, qa, hs, r⟩ := rs1.listAt e
      obtain ⟨a', rfl, qa'⟩ := rx.ref_inv
      rw [qa] at qa'; cases qa'
      cases r1
      exact iter_l I1 hs (p q1 H1 _ Ext.refl rs1 (walks_l qa fun st' ok => chkAt_list e ok))
    · exact False.elim p
  | _ => exact False.elim p
def intsD (lo c : Int) (n : Nat) : List D := (List.range n).map fun i => .int (lo + (i : Nat) * c)
theorem intsD_len {lo c : Int} {n : Nat} : (intsD lo c n).length = n := by simp [intsD]
theorem intsD_get {lo c : Int} {n i : Nat} {d : D} (h : (intsD lo c n)[i]? = some d) : i < n ∧ d = .int (lo + (i : Nat) * c) := by
  have h1 : i < n := by have l := (List.getElem?_eq_some_iff.mp h).1; rw [intsD_len] at l; exact l
  unfold intsD at h
  rw [List.getElem?_map, List.getElem?_range h1] at h
  exact ⟨h1, (Option.some.inj h).symm⟩
theorem walks_r {g : G} {q : List Addr} {H : Hp} {lo : Int} {n : Nat} {c : Chk} : Walks g (Itr lo n) q H (intsD lo 1 n, c) := by
  intro i q' H' st' e rs ok
  refine ⟨fun hi => ?_, fun d hd => ?_⟩
  · rw [intsD_len] at hi; exact hi
  · obtain ⟨h1, h2⟩ := intsD_get hd
    refine ⟨h1, fun y H2 ⟨e2, h3⟩ => ?_⟩
    subst e2
    subst h2 h3
    rw [Int.mul_one]
    exact ⟨Ext.refl, rs, .int _⟩
theorem walks_c {g : G} {q : List Addr} {H : Hp} {lo k : Int} {n : Nat} {c : Chk} : Walks g (Itc lo k n) q H (intsD lo k n, c) := by
  intro i q' H' st' e rs ok
  refine ⟨fun hi => ?_, fun d hd => ?_⟩
  · rw [intsD_len] at hi; exact hi
  · obtain ⟨h1, h2⟩ := intsD_get hd
    refine ⟨h1, fun y H2 ⟨e2, h3⟩ => ?_⟩
    subst e2
    subst h2 h3
    exact ⟨Ext.refl, rs, .int _⟩
def rng1D : List D → Sto → R (List D × Chk)
  | [.int j], st => if -(2 ^ 62) ≤ j ∧ j < 2 ^ 62 then .ok (intsD 0 1 j.toNat, []) st else .bad
  | _, _ => .bad
def rng2D : List D → Sto → R (List D × Chk)
  | [.int i, .int j], st => if -(2 ^ 62) ≤ i ∧ i < 2 ^ 62 ∧ -(2 ^ 62) ≤ j ∧ j < 2 ^ 62 then .ok (intsD i 1 (j - i).toNat, []) st else .bad
  | _, _ => .bad
def rng3D : List D → Sto → R (List D × Chk)
  | [.int i, .int j, .int c], st => if c ≠ 0 ∧ c.natAbs < 1073741824 ∧ Builtin.Range.small i j c = true ∧ 0 ≤ Builtin.Range.rangeSize i j c then .ok (intsD i c (Builtin.Range.rangeSize i j c).toNat, []) st else .bad
  | _, _ => .bad
def itA (f : List D → Sto → R (List D × Chk)) (fa : AF) : ItF := fun env st => (fa env st).bind f
theorem itA_le {f : List D → Sto → R (List D × Chk)} {fa : AF} {sg : L2.St} {H : Hp} {RR : It → Hp → Prop} (w : LI (gOf B X) E (itA f fa) sg H RR) {T : List V → Hp → Prop}
    (k : ∀ q st ds vs H, RS (gOf B X) q H st → RDs (gOf B X) q H vs ds → (f ds st).post (KI (gOf B X) q H RR) (KX (gOf B X) q H E) → T vs H) : LA (gOf B X) E fa sg H T := by
  obtain ⟨q, env, st, rs, re, p⟩ := w
  exact LA.chain rs re (R.post_bind.mp p) fun ds s1 q1 vs H1 p e1 rs1 re1 rx => k q1 s1 ds vs H1 rs1 rx (p.imp (fun _ _ h => h.ext e1) fun _ _ h => h.ext e1)
theorem RDs.three_inv {g : G} {q : List Addr} {H : Hp} {vs : List V} {d e f : D} (r : RDs g q H vs [d, e, f]) : ∃ v w u, vs = [v, w, u] ∧ RD g q H v d ∧ RD g q H w e ∧ RD g q H u f := by
  cases r with | cons r t => cases t with | cons r' t' => cases t' with | cons r2 t2 => cases t2; exact ⟨_, _, _, rfl, r, r', r2⟩
theorem li_rng1 {a : Expr} {fa : AF} {p pos : Pos} (hg : Gl X "range") (hm : X.mg "range" = none) (ha : PA X [a] (LA (gOf B X) E fa)) (hs : starEach [a] X.env = [(false, eval a X.env)] := by rfl) : PI X tg (.Call (.Name "range" p) [a] [] pos) (LI (gOf B X) E (itA rng1D fa)) :=
  (pi_range1 hg hm ha hs).imp fun sg H RR w => itA_le w fun q st ds vs H rs rd p => by
    unfold rng1D at p
    split at p
    · split at p
      · rename_i h
        obtain ⟨v, rfl, r⟩ := rd.one_inv
        rw [r.int_inv]
        exact ⟨_, rfl, h.1, h.2, p q H _ Ext.refl rs walks_r⟩
      · exact False.elim p
    · exact False.elim p
theorem li_rng2 {a b : Expr} {fa : AF} {p pos : Pos} (hg : Gl X "range") (hm : X.mg "range" = none) (ha : PA X [a, b] (LA (gOf B X) E fa)) (hs : starEach [a, b] X.env = [(false, eval a X.env), (false, eval b X.env)] := by rfl) (hs2 : starEach [b] X.env = [(false, eval b X.env)] := by rfl) :
    PI X tg (.Call (.Name "range" p) [a, b] [] pos) (LI (gOf B X) E (itA rng2D fa)) :=
  (pi_range2 hg hm ha hs hs2).imp fun sg H RR w => itA_le w fun q st ds vs H rs rd p => by
    unfold rng2D at p
    split at p
    · split at p
      · rename_i h
        obtain ⟨v, u, rfl, r, r'⟩ := rd.two_inv
        rw [r.int_inv, r'.int_inv]
        exact ⟨_, _, rfl, h, p q H _ Ext.refl rs walks_r⟩
      · exact False.elim p
    · exact False.elim p
theorem li_rng3 {fa : AF} {e : Expr} (h : PI X tg e (iRng3 (LA (gOf B X) E fa))) : PI X tg e (LI (gOf B X) E (itA rng3D fa)) :=
  h.imp fun sg H RR w => itA_le w fun q st ds vs H rs rd p => by
    unfold rng3D at p
    split at p
    · split at p
      · rename_i h
        obtain ⟨v, u, z, rfl, r, r', r2⟩ := rd.three_inv
        rw [r.int_inv, r'.int_inv, r2.int_inv]
        exact ⟨_, _, _, _, rfl, ⟨h.1, h.2.1, h.2.2.1, (Int.toNat_of_nonneg h.2.2.2).symm⟩, p q H _ Ext.refl rs walks_c⟩
      · exact False.elim p
    · exact False.elim p
/-- pairs of two walked together -/
def pairD (p : D × D) : D := .tup [p.1, p.2]
theorem zip_get {xs ys : List D} {i : Nat} {d : D} (h : ((xs.zip ys).map pairD)[i]? = some d) : ∃ x y, xs[i]? = some x ∧ ys[i]? = some y ∧ d = .tup [x, y] := by
  rw [List.getElem?_map] at h
  obtain ⟨⟨x, y⟩, h1, rfl⟩ := Option.map_eq_some_iff.mp h
  obtain ⟨h2, h3⟩ := List.getElem?_zip_eq_some.mp h1
  exact ⟨x, y, h2, h3, rfl⟩
theorem walks_zt {g : G} {q : List Addr} {H : Hp} {a b : Addr} {xs ys : List V} {ds es : List D} {c : Chk} (ha : SqT g.K H a xs) (r : RDs g q H xs ds) (hb : SqT g.K H b ys) (r' : RDs g q H ys es) : Walks g (ItzT g.K a b) q H ((ds.zip es).map pairD, c) := by
  intro i q' H' st' e rs ok
  have ha' := sqT_ext e ha
  have hb' := sqT_ext e hb
  have r := r.ext e
  have r' := r'.ext e
  refine ⟨fun hi => ⟨xs, ys, ha', hb', ?_⟩, fun d hd => ?_⟩
  · have hi : ((ds.zip es).map pairD).length ≤ i := hi
    rw [List.length_map, List.length_zip] at hi
    rw [r.length, r'.length]
    omega
  · obtain ⟨x, y, h1, h2, rfl⟩ := zip_get hd
    obtain ⟨u, hu, ru⟩ := r.get h1
    obtain ⟨v, hv, rv⟩ := r'.get h2
    refine ⟨⟨xs, ys, u, v, ha', hb', hu, hv⟩, fun z H2 ⟨T, x1, y1, hz, nT, h3, h4, h5⟩ => ?_⟩
    subst hz h3
    have e1 := h4 xs ha'
    rw [hu] at e1; cases e1
    have e2 := h5 ys hb'
    rw [hv] at e2; cases e2
    exact tup_new rs nT (.cons ru (.cons rv .nil))
theorem walks_zl {g : G} {q : List Addr} {H : Hp} {m n : Nat} {a b : Addr} {ds es : List D} {c : Chk} (qa : q[m]? = some a) (qb : q[n]? = some b) (hc : ∀ st', ChkOk c st' → listAt st' m = some ds ∧ listAt st' n = some es) : Walks g (Itz g.K a b) q H ((ds.zip es).map pairD, c) := by
  intro i q' H' st' e rs ok
  obtain ⟨ha, hb⟩ := hc st' ok
  obtain ⟨a', xs, qa', ha', r⟩ := rs.listAt ha
  obtain ⟨b', ys, qb', hb', r'⟩ := rs.listAt hb
  rw [e.at qa] at qa'; cases qa'
  rw [e.at qb] at qb'; cases qb'
  refine ⟨fun hi => ⟨xs, ys, ha', hb', ?_⟩, fun d hd => ?_⟩
  · have hi : ((ds.zip es).map pairD).length ≤ i := hi
    rw [List.length_map, List.length_zip] at hi
    rw [r.length, r'.length]
    omega
  · obtain ⟨x, y, h1, h2, rfl⟩ := zip_get hd
    obtain ⟨u, hu, ru⟩ := r.get h1
    obtain ⟨v, hv, rv⟩ := r'.get h2
    refine ⟨⟨xs, ys, u, v, ha', hb', hu, hv⟩, fun z H2 ⟨T, x1, y1, hz, nT, h3, h4, h5⟩ => ?_⟩
    subst hz h3
    have e1 := h4 xs ha'
    rw [hu] at e1; cases e1
    have e2 := h5 ys hb'
    rw [hv] at e2; cases e2
    exact tup_new rs nT (.cons ru (.cons rv .nil))
def zipD : List D → Sto → R (List D × Chk)
  | [.tup ds, .tup es], st => .ok ((ds.zip es).map pairD, []) st
  | [.ref m, .ref n], st => match listAt st m, listAt st n with
    | some ds, some es => .ok ((ds.zip es).map pairD, chkAt st m ++ chkAt st n) st
    | _, _ => .bad
  | _, _ => .bad
theorem li_zip {e : Expr} {fa : AF} (h : PI X tg e (iZipA X.K (LA (gOf B X) E fa))) : PI X tg e (LI (gOf B X) E (itA zipD fa)) :=
  h.imp fun sg H RR w => itA_le w fun q st ds vs H rs rd p => by
    unfold zipD at p
    split at p
    · obtain ⟨v, u, rfl, r, r'⟩ := rd.two_inv
      obtain ⟨a, xs, rfl, ha, ra⟩ := r.tup_inv
      obtain ⟨b, ys, rfl, hb, rb⟩ := r'.tup_inv
      exact ⟨a, b, xs, ys, rfl, .inr ⟨ha, hb, p q H _ Ext.refl rs (walks_zt ha ra hb rb)⟩⟩
    · split at p
      · rename_i ds es e1 e2
        obtain ⟨v, u, rfl, r, r'⟩ := rd.two_inv
        obtain ⟨a, xs, qa, ha, _⟩ := rs.listAt e1
        obtain ⟨b, ys, qb, hb, _⟩ := rs.listAt e2
        obtain ⟨a', rfl, qa'⟩ := r.ref_inv
        obtain ⟨b', rfl, qb'⟩ := r'.ref_inv
        rw [qa] at qa'; cases qa'
        rw [qb] at qb'; cases qb'
        exact ⟨a, b, xs, ys, rfl, .inl ⟨ha, hb, p q H _ Ext.refl rs (walks_zl qa qb fun st' ok => ⟨chkAt_list e1 fun z hz => ok z (List.mem_append_left _ hz), chkAt_list e2 fun z hz => ok z (List.mem_append_right _ hz)⟩)⟩⟩
      · exact False.elim p
    · exact False.elim p

/-! ### for -/
open Classical in
noncomputable def forL (c : Chk) (gf : GF) (body : SF) : List D → EnvD → Sto → R Fl
  | [], env, st => if ChkOk c st then .ok (.nx env) st else .bad
  | x :: r, env, st => if ChkOk c st then (gf x env st).bind fun e s => (body e s).bind fun fl s' => match fl with
      | .nx e' => forL c gf body r e' s'
      | .ct e' => forL c gf body r e' s'
      | .bk e' => .ok (.nx e') s'
      | .rt d => .ok (.rt d) s'
    else .bad
noncomputable def forS (it : ItF) (gf : GF) (body : SF) : SF := fun env st => (it env st).bind fun p s => forL p.2 gf body p.1 env s
theorem drop_cons {A : Type} {l : List A} {i : Nat} {x : A} (h : l[i]? = some x) : l.drop i = x :: l.drop (i + 1) := by
  obtain ⟨hl, e⟩ := List.getElem?_eq_some_iff.mp h
  rw [List.drop_eq_getElem_cons hl, e]
theorem ls_for {iter : Expr} {body : List Stmt} {it : ItF} {gf : GF} {fb : SF} {pos : Pos} (hp : PassesOwn (model X.prog X.w) X.A X.env X.xe) (hc : X.calm = true) (hi : PI X tg iter (LI (gOf B X) E it)) (hg : PG X tg (LG (gOf B X) E gf)) (hb : PSs X body (LS (gOf B X) E fb))
    (hs : ∀ x, foldedSetIterable iter X.env x = pure x := by intro _; rfl) : PS X (.For tg iter body [] pos) (LS (gOf B X) E (forS it gf fb)) := (ps_for hp hc hi hg hb hs).imp fun T sg H w => by
  obtain ⟨q, env, st, rs, re, p⟩ := w
  refine ⟨q, env, st, rs, re, (R.post_bind.mp p).imp (fun pr s1 p q1 H1 J e1 rs1 wk => ?_) fun _ _ h => h⟩
  obtain ⟨ds, c⟩ := pr
  refine ⟨fun i m sg2 H2 => ∃ q2 env2 st2, RS (gOf B X) q2 H2 st2 ∧ RE (gOf B X) q2 H2 sg2 env2 ∧ Ext q1 H1 q2 H2 ∧ i ≤ ds.length ∧ m = ds.length - i ∧ (forL c gf fb (ds.drop i) env2 st2).post (KS (gOf B X) q2 H2 T) (KX (gOf B X) q2 H2 E),
    ⟨_, q1, env, s1, rs1, re.ext e1, Ext.refl, Nat.zero_le _, rfl, (show (forL c gf fb ds env s1).post _ _ from p).imp (fun _ _ h => h.ext e1) fun _ _ h => h.ext e1⟩, ?_⟩
  rintro i m sg2 H2 ⟨q2, env2, st2, rs2, re2, e2, hil, rfl, p⟩
  by_cases hlt : i < ds.length
  · have hd : ds[i]? = some ds[i] := List.getElem?_eq_getElem hlt
    rw [drop_cons hd] at p
    unfold forL at p
    by_cases ok : ChkOk c st2
    · rw [if_pos ok] at p
      obtain ⟨go, yld⟩ := (wk i q2 H2 st2 e2 rs2 ok).2 _ hd
      refine .inr ⟨go, fun sg3 H3 => ∃ q3 env3 st3, RS (gOf B X) q3 H3 st3 ∧ RE (gOf B X) q3 H3 sg3 env3 ∧ Ext q1 H1 q3 H3 ∧ (forL c gf fb (ds.drop (i + 1)) env3 st3).post (KS (gOf B X) q3 H3 T) (KX (gOf B X) q3 H3 E), ?_, fun x H3 y => ?_⟩
      · rintro sg3 H3 ⟨q3, env3, st3, rs3, re3, e3, p3⟩
        exact ⟨ds.length - (i + 1), by omega, q3, env3, st3, rs3, re3, e3, by omega, rfl, p3⟩
      · obtain ⟨e3, rs3, rx⟩ := yld x H3 y
        refine ⟨q2, _, env2, st2, rs3, re2.ext e3, rx, (R.post_bind.mp p).imp (fun en s4 p q4 H4 sg4 e4 rs4 re4 => ?_) fun _ _ h => h.ext e3⟩
        refine ⟨q4, en, s4, rs4, re4, (R.post_bind.mp p).imp (fun fl s5 p q5 H5 e5 rs5 => ?_) fun _ _ h => h.ext (e3.trans e4)⟩
        have e25 : Ext q2 H2 q5 H5 := e3.trans (e4.trans e5)
        cases fl with
        | nx e => exact fun sg5 re5 => ⟨q5, e, s5, rs5, re5, e2.trans e25, (show (forL c gf fb (ds.drop (i + 1)) e s5).post _ _ from p).imp (fun _ _ h => h.ext e25) fun _ _ h => h.ext e25⟩
        | ct e => exact fun sg5 re5 => ⟨q5, e, s5, rs5, re5, e2.trans e25, (show (forL c gf fb (ds.drop (i + 1)) e s5).post _ _ from p).imp (fun _ _ h => h.ext e25) fun _ _ h => h.ext e25⟩
        | bk e => exact fun sg5 re5 => p q5 H5 e25 rs5 sg5 re5
        | rt d => exact fun v rv => p q5 H5 e25 rs5 v rv
    · rw [if_neg ok] at p
      exact False.elim p
  · have e : i = ds.length := by omega
    subst e
    rw [List.drop_length] at p
    unfold forL at p
    by_cases ok : ChkOk c st2
    · rw [if_pos ok] at p
      exact .inl ⟨(wk _ q2 H2 st2 e2 rs2 ok).1 (Nat.le_refl _), p q2 H2 Ext.refl rs2 sg2 re2⟩
    · rw [if_neg ok] at p
      exact False.elim p

/-! ### list comprehensions -/
def wipeE (env : EnvD) : List Nat → EnvD
  | [] => env
  | v :: vs => (wipeE env vs).set v none
theorem RE.wipe {g : G} {q : List Addr} {H : Hp} {sg : L2.St} {env : EnvD} (r : RE g q H sg env) : ∀ vs : List Nat, RE g q H (wipe sg vs) (wipeE env vs)
  | [] => r
  | v :: vs => Paired.set_ (fun x e => nomatch e) v (RE.wipe r vs)
/-- a target that stores names of vs alone -/
def LGw (g : G) (E : XK) (vs : List Nat) (f : GF) : TG := fun v sg H Q => ∃ q d env st, RS g q H st ∧ RE g q H sg env ∧ RD g q H v d ∧ (f d env st).post (fun e st' => ∀ q' H' sg', Ext q H q' H' → RS g q' H' st' → RE g q' H' sg' e → wipe sg' vs = wipe sg vs → Q sg' H') (KX g q H E)
def LGws (g : G) (E : XK) (vs : List Nat) (f : List D → EnvD → Sto → R EnvD) : TGs := fun xs sg H Q => ∃ q ds env st, RS g q H st ∧ RE g q H sg env ∧ RDs g q H xs ds ∧ (f ds env st).post (fun e st' => ∀ q' H' sg', Ext q H q' H' → RS g q' H' st' → RE g q' H' sg' e → wipe sg' vs = wipe sg vs → Q sg' H') (KX g q H E)
theorem wipe_set {sg : L2.St} {i : Nat} {v : Option V} : ∀ {vs : List Nat}, i ∈ vs → wipe (sg.set i v) vs = wipe sg vs
  | j :: vs, h => by
    unfold wipe
    by_cases hj : i ∈ vs
    · rw [wipe_set hj]
    · have e : i = j := by
        rcases List.mem_cons.mp h with e | e
        · exact e
        · exact absurd e hj
      subst e
      have comm : ∀ {ws : List Nat}, i ∉ ws → wipe (sg.set i v) ws = (wipe sg ws).set i v := by
        intro ws
        induction ws with
        | nil => intro _; rfl
        | cons w ws ih =>
          intro hn
          unfold wipe
          rw [ih (fun z => hn (List.mem_cons_of_mem _ z))]
          exact List.set_comm _ _ (fun z => hn (by rw [z]; exact List.mem_cons_self))
      rw [comm hj, List.set_set]
theorem lgw_name {e : Expr} {i : Nat} {vs : List Nat} (h : PG X e (gName i)) (hi : i ∈ vs) : PG X e (LGw (gOf B X) E vs (nameG i)) := h.imp fun v sg H Q w => by
  obtain ⟨q, d, env, st, rs, re, rd, p⟩ := w
  exact p q H _ Ext.refl rs (re.set rd) (wipe_set hi)
theorem lgws_nil {vs : List Nat} : PGs X [] (LGws (gOf B X) E vs nilG) := pgs_nil.imp fun xs sg H Q w => by
  obtain ⟨q, ds, env, st, rs, re, rd, p⟩ := w
  cases rd with
  | nil => exact ⟨rfl, p q H sg Ext.refl rs re rfl⟩
  | cons _ _ => exact False.elim p
theorem lgws_cons {e : Expr} {es : List Expr} {f : GF} {r : List D → EnvD → Sto → R EnvD} {vs : List Nat} (h1 : PG X e (LGw (gOf B X) E vs f)) (h2 : PGs X es (LGws (gOf B X) E vs r))
    (hs : (assignEach (e :: es) X.env).map (·.2) = assign e X.env :: (assignEach es X.env).map (·.2) := by rfl) : PGs X (e :: es) (LGws (gOf B X) E vs (consG f r)) := (pgs_cons h1 h2 hs).imp fun xs sg H Q w => by
  obtain ⟨q, ds, env, st, rs, re, rd, p⟩ := w
  cases rd with
  | nil => exact False.elim p
  | cons rd rds =>
    refine ⟨_, _, rfl, q, _, env, st, rs, re, rd, (R.post_bind.mp p).imp (fun e1 s1 p q1 H1 sg1 x1 rs1 re1 hw => ?_) fun _ _ h => h⟩
    exact ⟨q1, _, e1, s1, rs1, re1, rds.ext x1, (show (r _ e1 s1).post _ _ from p).imp (fun e2 s2 p q2 H2 sg2 x2 rs2 re2 hw2 => p q2 H2 sg2 (x1.trans x2) rs2 re2 (hw2.trans hw)) fun _ _ h => h.ext x1⟩
theorem lgw_tup {es : List Expr} {k : Nat} {f : List D → EnvD → Sto → R EnvD} {n : Nat} {vs : List Nat} {pos : Pos} (hc : X.calm = true) (h : PGs X es (LGws (gOf B X) E vs f))
    (hn : (assignEach es X.env).length = n := by rfl) (hst : (assignEach es X.env).findIdx? (·.1) = none := by rfl) : PG X (.Tuple es k pos) (LGw (gOf B X) E vs (tupG n f)) := (pg_tup hc h hn hst).imp fun v sg H Q w => by
  obtain ⟨q, d, env, st, rs, re, rd, p⟩ := w
  cases d with
  | tup ds =>
    obtain ⟨a, xs, rfl, hs, rx⟩ := rd.tup_inv
    by_cases hl : ds.length = n
    · have z : tupG n f (.tup ds) env st = f ds env st := if_pos hl
      rw [z] at p
      exact ⟨a, xs, rfl, hs, by rw [rx.length]; exact hl, q, ds, env, st, rs, re, rx, p⟩
    · have z : tupG n f (.tup ds) env st = .bad := if_neg hl
      rw [z] at p
      exact False.elim p
  | _ => exact False.elim p
open Classical in
noncomputable def lcL (c : Chk) (gf : GF) (tt : TF) (te : EF) (env : EnvD) (n : Nat) : List D → Sto → R Unit
  | [], st => if ChkOk c st then .ok () st else .bad
  | x :: r, st => if ChkOk c st then (gf x env st).noex.bind fun e s => (tt e s).noex.bind fun b s1 => if b = true then (te e s1).noex.bind fun d s2 => match s2[n]? with
        | some (.lst acc) => if acc.length < sizeLine then lcL c gf tt te env n r (s2.set n (.lst (acc ++ [d]))) else .bad
        | _ => .bad
      else lcL c gf tt te env n r s1
    else .bad
noncomputable def lcF (it : ItF) (vs : List Nat) (gf : GF) (tt : TF) (te : EF) : EF := fun env st => (it env st).bind fun p s => (lcL p.2 gf tt te (wipeE env vs) s.length p.1 (s ++ [.lst []])).bind fun _ s' => .ok (.ref s.length) s'
def yesT : TF := fun _ st => .ok true st
theorem lts_nil : PTs X [] (LT (gOf B X) E yesT) := pts_nil.imp fun sg H Q w => by
  obtain ⟨q, env, st, rs, re, p⟩ := w
  exact p q H Ext.refl rs
theorem lts_one {c : Expr} {t : TF} (h : PT X c (LT (gOf B X) E t)) : PTs X [c] (LT (gOf B X) E t) := pts_one h
theorem lc_le {it : ItF} {vs : List Nat} {gf : GF} {tt : TF} {te : EF} {sg : L2.St} {H : Hp} {Q : VK} (w : LE (gOf B X) E (lcF it vs gf tt te) sg H Q) : tLc (LI (gOf B X) E it) (LGw (gOf B X) E0 vs gf) (LT (gOf B X) E0 tt) (LE (gOf B X) E0 te) vs sg H Q := by
  obtain ⟨q, env, st, rs, re, p⟩ := w
  refine ⟨q, env, st, rs, re, (R.post_bind.mp p).imp (fun pr s1 p q1 H1 J e1 rs1 wk D hD => ?_) fun _ _ h => h⟩
  obtain ⟨ds, c⟩ := pr
  have p := R.post_bind.mp p
  obtain ⟨e2, rs2, r2⟩ := lst_new (xs := []) (ds := []) rs1 hD .nil
  have qD : (q1 ++ [D])[s1.length]? = some D := by rw [← rs1.len]; simp
  refine ⟨fun i m H3 => ∃ q3 st3, RS (gOf B X) q3 H3 st3 ∧ Ext (q1 ++ [D]) (upd H1 D (.lst [])) q3 H3 ∧ i ≤ ds.length ∧ m = ds.length - i ∧ (lcL c gf tt te (wipeE env vs) s1.length (ds.drop i) st3).post (fun _ st' => KV (gOf B X) q3 H3 Q (.ref s1.length) st') (KX (gOf B X) q3 H3 E),
    ⟨_, q1 ++ [D], s1 ++ [O.lst []], rs2, Ext.refl, Nat.zero_le _, rfl, (show (lcL c gf tt te (wipeE env vs) s1.length ds (s1 ++ [.lst []])).post _ _ from p).imp (fun _ _ h => KV.ext (e1.trans e2) h) fun _ _ h => h.ext (e1.trans e2)⟩, ?_⟩
  rintro i m H3 ⟨q3, st3, rs3, e3, hil, rfl, p⟩
  have reW : RE (gOf B X) q3 H3 (wipe sg vs) (wipeE env vs) := (re.ext (e1.trans (e2.trans e3))).wipe vs
  by_cases hlt : i < ds.length
  · have hd : ds[i]? = some ds[i] := List.getElem?_eq_getElem hlt
    rw [drop_cons hd] at p
    unfold lcL at p
    by_cases ok : ChkOk c st3
    · rw [if_pos ok] at p
      obtain ⟨go, yld⟩ := (wk i q3 H3 st3 (e2.trans e3) rs3 ok).2 _ hd
      refine .inr ⟨go, fun H4 => ∃ q4 st4, RS (gOf B X) q4 H4 st4 ∧ Ext (q1 ++ [D]) (upd H1 D (.lst [])) q4 H4 ∧ (lcL c gf tt te (wipeE env vs) s1.length (ds.drop (i + 1)) st4).post (fun _ st' => KV (gOf B X) q4 H4 Q (.ref s1.length) st') (KX (gOf B X) q4 H4 E), ?_, fun x H4 y => ?_⟩
      · rintro H4 ⟨q4, st4, rs4, e4, p4⟩
        exact ⟨ds.length - (i + 1), by omega, q4, st4, rs4, e4, by omega, rfl, p4⟩
      · obtain ⟨e4, rs4, rx⟩ := yld x H4 y
        refine ⟨q3, _, _, st3, rs4, reW.ext e4, rx, R.post_noex ((R.post_bind.mp p).imp (fun en s5 p q5 H5 sg5 e5 rs5 re5 hw => ?_) fun _ _ h => h)⟩
        have hww : wipe (wipe sg vs) vs = wipe sg vs := by
          have all : ∀ (ws : List Nat) (s0 : L2.St), (∀ v ∈ ws, s0.set v none = s0) → wipe s0 ws = s0 := by
            intro ws
            induction ws with
            | nil => intro s0 _; rfl
            | cons v ws ih =>
              intro s0 h
              unfold wipe
              rw [ih s0 fun u hu => h u (List.mem_cons_of_mem _ hu)]
              exact h v List.mem_cons_self
          have fix : ∀ (ws : List Nat) (v : Nat), v ∈ ws → (wipe sg ws).set v none = wipe sg ws := by
            intro ws
            induction ws with
            | nil => intro v h; cases h
            | cons u ws ih =>
              intro v h
              unfold wipe
              by_cases e : v = u
              · subst e; rw [List.set_set]
              · rw [List.set_comm _ _ (fun z => e z.symm), ih v (by
                  rcases List.mem_cons.mp h with z | z
                  · exact absurd z e
                  · exact z)]
          exact all vs _ (fix vs)
        refine ⟨hw.trans hww, q5, en, s5, rs5, re5, R.post_noex ((R.post_bind.mp p).imp (fun b s6 p q6 H6 e6 rs6 => ?_) fun _ _ h => h)⟩
        have re6 := re5.ext e6
        have e36 : Ext q3 H3 q6 H6 := e4.trans (e5.trans e6)
        cases b with
        | false =>
          exact iteF ⟨q6, s6, rs6, e3.trans e36, (show (lcL c gf tt te (wipeE env vs) s1.length (ds.drop (i + 1)) s6).post _ _ from p).imp (fun _ _ h => KV.ext e36 h) fun _ _ h => h.ext e36⟩
        | true =>
          refine iteT ⟨q6, en, s6, rs6, re6, R.post_noex ((R.post_bind.mp (show ((te en s6).noex.bind _).post _ _ from p)).imp (fun d s7 p q7 y7 H7 e7 rs7 ry => ?_) fun _ _ h => h)⟩
          have e37 : Ext q3 H3 q7 H7 := e36.trans e7
          have qD7 : q7[s1.length]? = some D := e37.at (e3.at qD)
          split at p
          · rename_i acc hacc
            split at p
            · rename_i hz
              obtain ⟨a, xs, qa, ha, r⟩ := rs7.lstAt hacc
              rw [qD7] at qa; cases qa
              obtain ⟨rs8, e8⟩ := lst_put rs7 hacc qD7 ha (r.append (.cons ry .nil))
              exact ⟨xs, ha, by rw [r.length]; exact hz, q7, _, rs8, e3.trans (e37.trans e8), p.imp (fun _ _ h => KV.ext (e37.trans e8) h) fun _ _ h => h.ext (e37.trans e8)⟩
            · exact False.elim p
          · exact False.elim p
    · rw [if_neg ok] at p
      exact False.elim p
  · have e : i = ds.length := by omega
    subst e
    rw [List.drop_length] at p
    unfold lcL at p
    by_cases ok : ChkOk c st3
    · rw [if_pos ok] at p
      exact .inl ⟨(wk _ q3 H3 st3 (e2.trans e3) rs3 ok).1 (Nat.le_refl _), p q3 _ H3 Ext.refl rs3 (.ref (e3.at qD))⟩
    · rw [if_neg ok] at p
      exact False.elim p
theorem le_lc {elt iter : Expr} {ifs : List Expr} {scope : Scope} {own : List (Str × Nat)} {pos : Pos} {it : ItF} {gf : GF} {tt : TF} {te : EF} (hc : X.calm = true) (hN : X.N.Nodup) (hi : PI X tg iter (LI (gOf B X) E it)) (ok : BlkOk X.N X.env.scope scope own)
    (hg : ∀ (s : Shared) (H : Hp) (C : Addr) (cl : List (Str × Addr)) (fp : List Addr), PG (X.blk s H scope (compEnvC scope cl C X.env) fp) tg (LGw (gOf B X) E0 (own.map (·.2)) gf)) (ht : ∀ (s : Shared) (H : Hp) (C : Addr) (cl : List (Str × Addr)) (fp : List Addr), PTs (X.blk s H scope (compEnvC scope cl C X.env) fp) ifs (LT (gOf B X) E0 tt))
    (he : ∀ (s : Shared) (H : Hp) (C : Addr) (cl : List (Str × Addr)) (fp : List Addr), PE (X.blk s H scope (compEnvC scope cl C X.env) fp) elt (LE (gOf B X) E0 te)) (hs : ∀ x, foldedSetIterable iter X.env x = pure x := by intro _; rfl) :
    PE X (.ListComp elt [⟨tg, iter, ifs, 0⟩] scope pos) (LE (gOf B X) E (lcF it (own.map (·.2)) gf tt te)) := (pe_lc hc hN hi ok hg ht he hs).imp fun _ _ _ w => lc_le w
theorem ls_setLc {i : Nat} {y : Str} {py : Pos} {elt iter : Expr} {ifs : List Expr} {scope : Scope} {own : List (Str × Nat)} {pos spos : Pos} {it : ItF} {gf : GF} {tt : TF} {te : EF} (hc : X.calm = true) (hN : X.N.Nodup) (hsw : swapsWith (.ListComp elt [⟨tg, iter, ifs, 0⟩] scope pos) (some (.Name y py)) spos.line X.env = pure true) (hi : PI X tg iter (LI (gOf B X) E it)) (ok : BlkOk X.N X.env.scope scope own)
    (hg : ∀ (s : Shared) (H : Hp) (C : Addr) (cl : List (Str × Addr)) (fp : List Addr), PG (X.blk s H scope (compEnvC scope cl C X.env) fp) tg (LGw (gOf B X) E0 (own.map (·.2)) gf)) (ht : ∀ (s : Shared) (H : Hp) (C : Addr) (cl : List (Str × Addr)) (fp : List Addr), PTs (X.blk s H scope (compEnvC scope cl C X.env) fp) ifs (LT (gOf B X) E0 tt))
    (he : ∀ (s : Shared) (H : Hp) (C : Addr) (cl : List (Str × Addr)) (fp : List Addr), PE (X.blk s H scope (compEnvC scope cl C X.env) fp) elt (LE (gOf B X) E0 te)) (hy : X.N[i]? = some y := by rfl) (hyl : X.env.scope.names.lookup y = some .local := by rfl) (hs : ∀ x, foldedSetIterable iter X.env x = pure x := by intro _; rfl) :
    PS X (.Assign [.Name y py] (.ListComp elt [⟨tg, iter, ifs, 0⟩] scope pos) spos) (LS (gOf B X) E (setS i (lcF it (own.map (·.2)) gf tt te))) :=
  (ps_setLc hc hN hy hyl hsw hi ok hg ht he hs).imp fun T sg H w => by
    obtain ⟨q, env, st, rs, re, p⟩ := w
    have h : LE (gOf B X) E (lcF it (own.map (·.2)) gf tt te) sg H (fun x H1 => gName i x sg H1 T.nx) :=
      LE.chain rs re (R.post_bind.mp p) fun x s1 q1 v H1 p e1 rs1 re1 rx => p q1 H1 e1 rs1 _ (re1.set rx)
    exact lc_le h
end

/-! ### a def that lets nothing out -/
def Sp0 (g : G) (n : Nat) (f : Fn) : Sp := fun vs H Q _ => vs.length = n ∧ LC g E0 f vs H Q
section
variable {P : Program} {w : World} {K : PySem.W.Frag} {mg : Str → Option Value} {base : Heap}
theorem fn0 {x qual : Str} {st : Stmt} {f : Addr} {fd : FuncData} {N ps : List Str} {k n m : Nat} {fb : SF} (F : Fun K x qual st f fd) (S : FnScope N ps (defScope st)) (hn : N.length = n) (hm : ps.length = m)
    (body : ∀ (cdv : Value) (A : Around) (outer : List Env) (s : Shared) (H : Hp) (E : XK), Room k (A.deeper (envOfC qual (defScope st) s.heap.objs.size f cdv)) →
      PSs (cxOf CX0 P w K mg base N qual (defScope st) f cdv A outer s H E).nox (defBody st) (LS ⟨P, w, K, mg, B⟩ E0 fb)) : FnOk P w K mg base CX0 (k + 1) f fd ps (Sp0 ⟨P, w, K, mg, B⟩ m (fnF n fb)) :=
  F.ok S (fun vs H Q E h => h.1.trans hm.symm) fun cdv A outer s H vs Q E hr h => ⟨_, body cdv A outer s H E hr, fn_le hn h.2⟩
end
section
variable {X : Cx}
theorem le_call0 {k n : Nat} {f : Addr} {fd : FuncData} {ps : List Str} {fn : Fn} {x : Str} {p pos : Pos} {e : Expr} {es : List Expr} {fa : AF} (F : FnOk X.prog X.w X.K X.mg X.base CX0 k f fd ps (Sp0 (gOf B X) n fn)) (hr : Room k X.A) (hm : X.mg x = some (.ref f)) (hk : PySem.W.keepIn X.K (.ref f) = true) (hb : Binds X.K fd ps [])
    (ha : PA X (e :: es) (LA (gOf B X) E0 fa)) (hla : ∀ env st ds s, fa env st = .ok ds s → ds.length = n) (hg : Gl X x := by rfl) (hdb : (x == ("__debug__" : Str)) = false := by decide) (he : starEach (e :: es) X.env = (false, eval e X.env) :: starEach es X.env := by rfl) (hpl : (backTo pos (starEach es X.env)).any (·.1) = false := by rfl) :
    PE X (.Call (.Name x p) (e :: es) [] pos) (LE (gOf B X) E0 (callF fn fa)) :=
  (pe_call F hr hg hm hk hb .nil pass0 ha hdb he hpl).imp fun sg H Q w => by
    obtain ⟨q, env, st, rs, re, p⟩ := w
    have p := R.post_bind.mp p
    have p' : (fa env st).post (fun ds s => ds.length = n ∧ (fn ds s).post (KV (gOf B X) q H Q) (KX (gOf B X) q H E0)) (KX (gOf B X) q H E0) := by
      cases hfa : fa env st with
      | ok ds s => rw [hfa] at p; exact ⟨hla _ _ _ _ hfa, p⟩
      | ex c s => rw [hfa] at p; exact p
      | bad => rw [hfa] at p; exact p
    refine LA.chain rs re p' fun xs s1 q1 vs H1 p e1 rs1 re1 rx => ?_
    rw [List.append_nil]
    exact ⟨by rw [rx.length]; exact p.1, q1, s1, xs, rs1, rx, p.2.imp (fun _ _ h => h.ext e1) fun _ _ h => h.ext e1⟩
theorem le_call00 {k : Nat} {f : Addr} {fd : FuncData} {ps : List Str} {fn : Fn} {x : Str} {p pos : Pos} (F : FnOk X.prog X.w X.K X.mg X.base CX0 k f fd ps (Sp0 (gOf B X) 0 fn)) (hr : Room k X.A) (hm : X.mg x = some (.ref f)) (hk : PySem.W.keepIn X.K (.ref f) = true) (hb : Binds X.K fd ps [])
    (hg : Gl X x := by rfl) (hdb : (x == ("__debug__" : Str)) = false := by decide) : PE X (.Call (.Name x p) [] [] pos) (LE (gOf B X) E0 (callF fn nilA)) :=
  (pe_call0 F hr hg hm hk hb .nil pass0 hdb).imp fun sg H Q w => by
    obtain ⟨q, env, st, rs, re, p⟩ := w
    exact ⟨rfl, q, st, [], rs, .nil, p⟩
end

/-! ### the law's end -/
def spLaw (K : PySem.W.Frag) : Sp := fun vs H Q _ => ∃ (a : Addr) (ns : List Int), vs = [.ref a] ∧ SqL K H a (ns.map V.int) ∧ ns.length ≤ 63 ∧ Only H ∧ ∀ H', Q (.bl true) H'
theorem law_end {g : G} {f : Fn} (hB : g.B.T = []) (h : ∀ ns : List Int, ns.length ≤ 63 → ∃ st, f [.ref 0] [.rl (ns.map D.int)] = .ok (.bl true) st) : ∀ vs H Q E, spLaw g.K vs H Q E → Sp0 g 1 f vs H Q E := by
  intro vs H Q E ⟨a, ns, hv, hS, hl, hO, k⟩
  subst hv
  obtain ⟨st, h⟩ := h ns hl
  have ro : RoL g.K H a (ns.map V.int) := by
    rcases hS with (hS | ⟨ob, hS⟩) | hS
    · rcases hO a with z | ⟨o, xs, z⟩
      · rw [hS] at z; cases z
      · rw [hS] at z; cases z
    · exact .inl ⟨ob, hS⟩
    · exact .inr hS
  refine ⟨rfl, [a], [.rl (ns.map D.int)], [.ref 0], ⟨rfl, fun m n b h1 h2 => ?_, fun n b o h1 h2 => ?_, ?_⟩, .cons (.ref rfl) .nil, ?_⟩
  · have l1 := (List.getElem?_eq_some_iff.mp h1).1
    have l2 := (List.getElem?_eq_some_iff.mp h2).1
    simp at l1 l2
    exact .inl (by omega)
  · have l1 := (List.getElem?_eq_some_iff.mp h1).1
    simp at l1
    subst l1
    simp at h1 h2
    subst h1 h2
    exact ⟨_, ro, RDs.ints⟩
  · intro p hp
    rw [hB] at hp
    cases hp
  · rw [h]
    intro q' v H' _ _ r
    rw [r.bl_inv]
    exact k H'
/-! .. where code objects are made -/
def spLawT (K : PySem.W.Frag) (T : List (Addr × Str)) : Sp := fun vs H Q _ => ∃ (a : Addr) (ns : List Int), vs = [.ref a] ∧ SqL K H a (ns.map V.int) ∧ ns.length ≤ 63 ∧ Tabs T H ∧ ∀ H', Q (.bl true) H'
theorem law_endT {g : G} {f : Fn} (h : ∀ (ns : List Int) (o : O), ns.length ≤ 63 → (o = .rl (ns.map D.int) ∨ o = .lst (ns.map D.int)) → ∃ st, f [.ref 0] [o] = .ok (.bl true) st) : ∀ vs H Q E, spLawT g.K g.B.T vs H Q E → Sp0 g 1 f vs H Q E := by
  intro vs H Q E ⟨a, ns, hv, hS, hl, hT, k⟩
  subst hv
  obtain ⟨o, ho, ro⟩ : ∃ o : O, (o = .rl (ns.map D.int) ∨ o = .lst (ns.map D.int)) ∧ RO g [a] H a o := by
    rcases hS with (hS | ⟨ob, hS⟩) | hS
    · exact ⟨_, .inr rfl, _, hS, RDs.ints⟩
    · exact ⟨_, .inl rfl, _, .inl ⟨ob, hS⟩, RDs.ints⟩
    · exact ⟨_, .inl rfl, _, .inr hS, RDs.ints⟩
  obtain ⟨st, h⟩ := h ns o hl ho
  refine ⟨rfl, [a], [o], [.ref 0], ⟨rfl, fun m n b h1 h2 => ?_, fun n b x h1 h2 => ?_, hT⟩, .cons (.ref rfl) .nil, ?_⟩
  · have l1 := (List.getElem?_eq_some_iff.mp h1).1
    have l2 := (List.getElem?_eq_some_iff.mp h2).1
    simp at l1 l2
    exact .inl (by omega)
  · have l1 := (List.getElem?_eq_some_iff.mp h1).1
    simp at l1
    subst l1
    simp at h1 h2
    subst h1 h2
    exact ro
  · rw [h]
    intro q' v H' _ _ r
    rw [r.bl_inv]
    exact k H'
end VL

/-! VL5: isinstance; names of types. -/
namespace VL
open PySem PySem.Spec PyProof.Rows L2 LamX NdefX
variable {B : Tb}
/-- a datum's built-in type -/
def tyOfD (d : D) (st : Sto) : Option String := match d with
  | .non => some "NoneType"
  | .bl _ => some "bool"
  | .int _ => some "int"
  | .str _ => some "str"
  | .tup _ => some "tuple"
  | .ref n => match st[n]? with
    | some (.lst _) => some "list"
    | some (.rl _) => some "list"
    | some (.dic _) => some "dict"
    | _ => none
  | _ => none
def isiD : List D → Sto → R D
  | [d, .ty T], st => match (tyOfD d st).bind fun a => kitB a T with
    | some b => .ok (.bl b) st
    | none => .bad
  | _, _ => .bad
section
variable {X : Cx} {E : XK}
theorem le_ty {x : Str} {T : String} {pos : Pos} (hg : Gl X x) (hm : X.mg x = none) (hv : bootBuiltins x = some (.type T)) (hn : x ≠ "__name__" := by decide) (hd : (x == ("__debug__" : Str)) = false := by decide) : PE X (.Name x pos) (LE (gOf B X) E (cF (.ty T))) :=
  le_c (pe_bltn (v := .ty T) hg hm hv rfl hn hd) fun _ _ => .ty T
theorem kit_D {pins : List (Addr × Obj)} {sg : L2.St} {q : List Addr} {H : Hp} {s : Shared} {st : Sto} {x : V} {d : D} {u : Value} {a : String} (I : L2.Inv X pins sg H s) (rs : RS (gOf B X) q H st) (rx : RD (gOf B X) q H x d) (r : RelV x u) (h : tyOfD d st = some a) :
    ∃ P : Heap → Prop, PySem.W.KitX X.K u (.type a) P ∧ P s.heap ∧ u ≠ .builtin "__main__.__loader__#opaque" := by
  cases d with
  | non => rw [rx.non_inv] at r; cases h; exact kit_of I r (.base .non)
  | bl b => rw [rx.bl_inv] at r; cases h; exact kit_of I r (.base (.bl b))
  | int i => rw [rx.int_inv] at r; cases h; exact kit_of I r (.base (.int i))
  | str z => rw [rx.str_inv] at r; cases h; exact kit_of I r (.base (.str z))
  | tup ds =>
    obtain ⟨p, xs, rfl, hs, _⟩ := rx.tup_inv
    cases h
    rcases hs with (hs | ⟨ob, hs⟩) | ⟨o, its, n, hk, hc, _⟩
    · exact kit_of I r (.base (.tup hs))
    · exact kit_of I r (.fTuple hs)
    · exact kit_of I r (.kTuple hk hc)
  | ref n =>
    obtain ⟨p, rfl, qp⟩ := rx.ref_inv
    unfold tyOfD at h
    simp only at h
    split at h
    · rename_i xs e
      cases h
      obtain ⟨b, ys, qb, hb, _⟩ := rs.lstAt e
      rw [qp] at qb; cases qb
      exact kit_of I r (.base (.lst hb))
    · rename_i xs e
      cases h
      obtain ⟨b, qb, ys, hb, _⟩ := rs.get e
      rw [qp] at qb; cases qb
      rcases hb with ⟨ob, hb⟩ | ⟨o, its, n, hk, hc, _⟩
      · exact kit_of I r (.base (.frz hb))
      · exact kit_of I r (.kList hk hc)
    · rename_i kvs e
      cases h
      obtain ⟨b, qb, hb⟩ := rs.get e
      rw [qp] at qb; cases qb
      rcases hb with ⟨gs, hk, _⟩ | ⟨_, xs, hk, _⟩
      · exact kit_of I r (.base (.dK hk))
      · cases r
        obtain ⟨⟨_, o, es, ep, e, ex, _⟩, _⟩ := I.hok p _ hk
        exact ⟨_, PySem.W.kitx_dict, ⟨o, e, ex.1⟩, fun z => nomatch z⟩
    · cases h
  | _ => cases h
theorem call_isiD : CallR X (.builtin "isinstance") (LC (gOf B X) E isiD) := by
  intro pins s sg H vs us Q I r w
  obtain ⟨q, st, ds, rs, rd, p⟩ := w
  unfold isiD at p
  split at p
  · rename_i d T
    split at p
    · rename_i b e
      obtain ⟨a, h1, h2⟩ := Option.bind_eq_some_iff.mp e
      obtain ⟨x, c, rfl, rx, rc⟩ := rd.two_inv
      rw [rc.ty_inv] at r
      obtain ⟨u1, u2, rfl, r1, r2⟩ := vals2 r
      cases (show u2 = Value.type T from r2)
      obtain ⟨P, Z, hp, hx⟩ := kit_D I rs rx r1 h1
      exact PySem.W.kia_one Z I.kIn hp (kit_ty h2) hx fun tk => ⟨.bl b, H, I.tok tk, rfl, p q _ H Ext.refl rs (.bl b)⟩
    · exact False.elim p
  · exact False.elim p
end
end VL

/-! VL6: in; enumerate, reversed; t[::-1]; a def that calls itself. -/
namespace PySem
open Sem (wp)
theorem vl_enum_newT (l : Addr) (items : Array Value) (n : Nat) (dct : Option Addr) (sl : Array (Option Value)) :
    Meets (Builtin.«enumerate.__new__» ⟨[.type "enumerate", .ref l], []⟩) (fun _ R s => s.heap.get? l = some { cls := .type "tuple", dict := dct, data := .seq items n, slots := sl } ∧
      R (.ok (.ret (.ref (s.heap.push { cls := .type "tuple_iterator", data := .fields #[.ref l, .int 0 0] }).objs.size)))
        { s with heap := (s.heap.push { cls := .type "tuple_iterator", data := .fields #[.ref l, .int 0 0] }).push { cls := .type "enumerate", data := .fields #[.none, .bool false, .ref s.heap.objs.size, rawInt 0, .none, .none] } }) :=
  .of_wp fun prog w A R s h => by
    obtain ⟨hp, g, d, tk, os⟩ := s; obtain ⟨hl, h⟩ := h
    have hsub := sub_enumerate
    have hL : Heap.IsTuple (Shared.heap ⟨hp, g, d, tk, os⟩) l items := ⟨_, hl, rfl, n, rfl⟩
    wp_walk using wpAny_loadPart' hl
    refine wpAny_stack_any fun st => wpAny_pure ?_
    split
    · rename_i c _ _ _ _ _
      cases (c == Value.type "enumerate")
      · wp_walk using wpAny_loadPart' hl, wpAny_pyIter_tuple hL
        exact ⟨_, rfl, h⟩
      · wp_walk using wpAny_loadPart' hl, wpAny_pyIter_tuple hL
        exact ⟨_, rfl, h⟩
    · wp_walk using wpAny_loadPart' hl, wpAny_pyIter_tuple hL
      exact ⟨_, rfl, h⟩
section
variable {prog : Program} {w : World} {A : Around} {E : Value → Shared → Prop} {s : Shared}
theorem vl_enum_tuple {l : Addr} {items : Array Value} {Q : Value → Shared → Prop} (hL : s.heap.IsTuple l items)
    (h : ∀ h', IsEnum h' (s.heap.objs.size + 1) s.heap.objs.size 0 .none → h'.IsTupleIter s.heap.objs.size l 0 → h'.objs.size = s.heap.objs.size + 2 →
      (∀ b o, s.heap.get? b = some o → h'.get? b = some o) → Q (.ref (s.heap.objs.size + 1)) { s with heap := h' }) :
    wpAny (model prog w) A (call (.type "enumerate") [.ref l]) Q E s := by
  obtain ⟨⟨c, dct, dt, sl⟩, hl, hc, n, hd⟩ := hL
  replace hc : c = .type "tuple" := hc
  replace hd : dt = .seq items n := hd
  subst hc hd
  refine callType_new F.called_enumerate (by decide) (F.typeCall_enumerate_1 _) (F.newCall_enumerate_1 _) (fun obj => F.args_object_init_2 obj _) F.entry_enumerate_new
    (vl_enum_newT l items n dct sl) ⟨hl, ?_⟩
  have hz : (s.heap.push { cls := .type "tuple_iterator", data := .fields #[.ref l, .int 0 0] }).objs.size = s.heap.objs.size + 1 := Heap.size_push ..
  show _ ∧ _
  rw [hz]
  have he : IsEnum ((s.heap.push { cls := .type "tuple_iterator", data := .fields #[.ref l, .int 0 0] }).push
      { cls := .type "enumerate", data := .fields #[.none, .bool false, .ref s.heap.objs.size, rawInt 0, .none, .none] }) (s.heap.objs.size + 1) s.heap.objs.size 0 .none := by
    have := Heap.get?_push_size (s.heap.push { cls := .type "tuple_iterator", data := .fields #[.ref l, .int 0 0] })
      (o := { cls := .type "enumerate", data := .fields #[.none, .bool false, .ref s.heap.objs.size, rawInt 0, .none, .none] }) rfl
    rw [hz] at this; exact this
  exact ⟨⟨_, he, rfl⟩, h _ he ⟨_, Heap.get?_push_of_some _ (Heap.get?_push_size _ rfl), rfl, rfl⟩ (by rw [Heap.size_push, hz]) fun b o x => Heap.get?_push_of_some _ (Heap.get?_push_of_some _ x)⟩
end
end PySem
namespace L2
open PySem PySem.Spec PyProof.Rows
/-! ### enumerate(tuple) -/
def IteT (K : PySem.W.Frag) (a : Addr) : It :=
  ⟨fun i H => ∃ (xs : List V) (x : V), SqT K H a xs ∧ xs[i]? = some x, fun i H v H' => ∃ T x, v = .ref T ∧ H T = none ∧ H' = upd H T (.tup [.int (i : Nat), x]) ∧ ∀ xs, SqT K H a xs → xs[i]? = some x, fun i H => ∃ xs : List V, SqT K H a xs ∧ xs.length ≤ i⟩
theorem turn_enumT {P : Program} {w : World} {K : PySem.W.Frag} {elts : List Expr} {kk : Nat} {tpos : Pos} (a e it : Addr) (hai : a ≠ it) (hae : a ≠ e) :
    Turn P w K (.Tuple elts kk tpos) (IteT K a) [e, it] e (fun i h => (∃ old, IsEnum h e it ((i : Nat) : Int) old) ∧ h.IsTupleIter it a i ∧ e ≠ it) where
  mem := by simp
  obj := fun i h st b hb => by
    obtain ⟨⟨old, he⟩, ⟨o, ho, hc, hd⟩, _⟩ := st
    have e' : b = e ∨ b = it := by simpa using hb
    rcases e' with z | z
    · rw [z]; exact ⟨_, he, fun v q => nomatch q⟩
    · rw [z]; exact ⟨o, ho, fun v q => by rw [hd] at q; cases q⟩
  keep := fun i h h' st k => let ⟨⟨old, he⟩, hi, hne⟩ := st; ⟨⟨old, k e (by simp) _ he⟩, hi.at fun o q => k it (by simp) o q, hne⟩
  item := by
    intro X hP hw hK hc i pins s σ H E I hf st hg
    subst hP hw hK
    obtain ⟨⟨old, he⟩, hit, hne⟩ := st
    obtain ⟨xs, x, hq, hx⟩ := hg
    obtain ⟨its, rv, p, hz⟩ := I.tuple hq
    obtain ⟨u, hu, ru⟩ := rv.get hx
    have hel : e < s.heap.objs.size := Heap.lt_size he
    have hil : it < s.heap.objs.size := by obtain ⟨_, q, _⟩ := hit; exact Heap.lt_size q
    have D := Draws.tuple (prog := X.prog) (w := X.w) (A := X.A.in1) (show X.A.in1.handled = none from I.ok.hd hc) it a hai its.toArray
    have pt : s.heap.IsTuple a its.toArray := p
    have hlt : i < its.toArray.size := by
      have := (List.getElem?_eq_some_iff.mp hu).1
      simpa using this
    refine wpAny_pyNext_enum_itemD D he ⟨hit, pt⟩ hlt hne (by simp only [List.mem_cons, List.not_mem_nil, or_false, not_or]; exact ⟨hne, Ne.symm hae⟩) fun x2 h' tk hP ho hst hT hsz hk => ?_
    have ex : x2 = u := by
      have : its.toArray[i]? = some u := by simpa using hu
      rw [this] at hP
      exact (Option.some.inj hP).symm
    subst ex
    obtain ⟨hit', _⟩ := hst
    refine ⟨_, rfl, wpAny_letOwnedTupleGo_enum (s := { s with heap := h', toks := tk + 1 }) ho fun h'' he' sb => ?_⟩
    have hT2 : h''.get? s.heap.objs.size = some { cls := .type "tuple", data := .seq #[.int i tk, x2] } := (sb.2 _ (Nat.ne_of_gt hel)).trans hT
    have new : ObjOk X.prog X.w (upd H s.heap.objs.size (.tup [.int (i : Nat), x])) h'' s.heap.objs.size (.tup [.int (i : Nat), x]) :=
      ⟨by show 2 ≤ sizeLine; decide, [.int i tk, x2], .cons ⟨_, rfl⟩ (.cons ru .nil), ⟨_, hT2, rfl, _, rfl⟩⟩
    have I1 : Inv X pins σ (upd H s.heap.objs.size (.tup [.int (i : Nat), x])) { s with heap := h'', toks := tk + 1 } :=
      I.turnedNew (ch := [e, it]) (fun b ob hb q => (sb.2 b (fun z => hb (by simp [z]))).trans (hk b ob (fun z => hb (by simp [z])) (fun z => hb (by simp [z])) q)) hf (Nat.le_refl _) new
    refine ⟨.ref s.heap.objs.size, _, I1, rfl, ⟨_, x, rfl, I.hok.fresh (Nat.le_refl _), rfl, fun ys hy => by rw [I.tuple_inj hy hq]; exact hx⟩, ⟨⟨x2, ?_⟩, hit'.at fun o q => (sb.2 it (Ne.symm hne)).trans q, hne⟩, fun b hb => ?_⟩
    · have e1 : ((i + 1 : Nat) : Int) = (i : Int) + 1 := by omega
      rw [e1]; exact he'
    · have hb' : b < s.heap.objs.size := by
        have e' : b = e ∨ b = it := by simpa using hb
        rcases e' with z | z
        · rw [z]; exact hel
        · rw [z]; exact hil
      rw [upd_ne (Nat.ne_of_lt hb')]
      exact (hf b hb).1
  done := by
    intro X hP hw hK hc i pins s σ H E I hf st hg
    subst hP hw hK
    obtain ⟨⟨old, he⟩, hit, hne⟩ := st
    obtain ⟨xs, hq, hx⟩ := hg
    obtain ⟨its, rv, p, hz⟩ := I.tuple hq
    obtain ⟨f0, f1, f2, f3, f4, f5⟩ := hf it (by simp)
    have hl := rv.length
    have hT : s.TypeIs (.ref e) "enumerate" := ⟨_, he, rfl⟩
    unfold pyNext
    refine wpAny_bind (wpAny_attempt (wpAny_callSpecial?_slot (name := Str.ofString "__next__") hT F.slot_enumerate_next
      (wpAny_call_entry F.slot_enumerate_next hT F.entry_enumerate_next ?_ (F.args_enumerate_next_1 _))))
    show wpAny _ _ (field (.ref e) 2 >>= _) _ _ _
    refine wpAny_bind (wpAny_field he rfl (x := .ref it) rfl ?_)
    refine wpAny_bind (wpAny_nextOf_tuple_end (I.ok.hd hc) hit (show s.heap.IsTuple a its.toArray from p) (by simp; omega) fun h' x he' hx' => ?_)
    obtain ⟨o, ho, hc'⟩ := hx'
    refine wpAny_bind (wpAny_isInstance (T := "StopIteration") (b := true) ⟨o, ho, hc'⟩ isSubtype_stop ?_)
    exact wpAny_pure ⟨rfl, I.turned (t' := s.toks) (fun b o hb q => he' b o hb q) f0 f1 f3 f4 f5⟩
  self := fun A i s Q E st h => let ⟨⟨_, he⟩, _⟩ := st; wpAny_pyIter_enum he h
def iEnumA (K : PySem.W.Frag) (ta : TA) : TI := fun σ H R => ta σ H fun vs H1 => ∃ a xs, vs = [.ref a] ∧ ((SqL K H1 a xs ∧ R (Ite K a) H1) ∨ (SqT K H1 a xs ∧ R (IteT K a) H1))
theorem pi_enumA {X : Cx} {e : Expr} {ta : TA} {p pos tpos : Pos} {elts : List Expr} {kk : Nat} (hg : Gl X "enumerate") (hm : X.mg "enumerate" = none) (ha : PA X [e] ta) (hs : starEach [e] X.env = [(false, eval e X.env)] := by rfl) :
    PI X (.Tuple elts kk tpos) (.Call (.Name "enumerate" p) [e] [] pos) (iEnumA X.K ta) := by
  refine ⟨fun pins s σ H R I h => ?_⟩
  refine Call_ (ld_blt I hg hm boot_enumerate (PyProof.Rows.callWith_type1 (thn (ha.run pos pins s σ H _ I h) fun us s1 ⟨vs, H1, I1, r1, q1⟩ => ?_) hs rfl))
  obtain ⟨a, xs, ex, hq⟩ := q1
  subst ex
  cases r1 with
  | cons r rr =>
    cases rr
    cases r
    rcases hq with ⟨hq, q⟩ | ⟨hq, q⟩
    · obtain ⟨its, rv, p', hz⟩ := I1.list hq
      refine call_enumerate_list p'.isList fun h' he hit hsz hk => wpAny_pyIter_enum he ?_
      have I2 : Inv X pins σ H1 { s1 with heap := h' } := I1.kept (t' := s1.toks) hk
      refine ⟨s1.heap.objs.size + 1, [s1.heap.objs.size + 1, s1.heap.objs.size], _, _, H1, rfl, I2, turn_enum a (s1.heap.objs.size + 1) s1.heap.objs.size, ⟨⟨.none, he⟩, hit, Nat.succ_ne_self _⟩, fun b hb => ?_, q⟩
      have e' : b = s1.heap.objs.size + 1 ∨ b = s1.heap.objs.size := by simpa using hb
      have hle : s1.heap.objs.size ≤ b := by
        rcases e' with z | z
        · rw [z]; exact Nat.le_add_right _ _
        · rw [z]; exact Nat.le_refl _
      exact I1.fpOk hle (I1.hok.fresh hle)
    · obtain ⟨its, rv, p', hz⟩ := I1.tuple hq
      have pt : s1.heap.IsTuple a its.toArray := p'
      have hal : a < s1.heap.objs.size := by obtain ⟨o, ho, _⟩ := id p'; exact Heap.lt_size ho
      refine vl_enum_tuple pt fun h' he hit hsz hk => wpAny_pyIter_enum he ?_
      have I2 : Inv X pins σ H1 { s1 with heap := h' } := I1.kept (t' := s1.toks) hk
      refine ⟨s1.heap.objs.size + 1, [s1.heap.objs.size + 1, s1.heap.objs.size], _, _, H1, rfl, I2, turn_enumT a (s1.heap.objs.size + 1) s1.heap.objs.size (Nat.ne_of_lt hal) (Nat.ne_of_lt (Nat.lt_succ_of_lt hal)), ⟨⟨.none, he⟩, hit, Nat.succ_ne_self _⟩, fun b hb => ?_, q⟩
      have e' : b = s1.heap.objs.size + 1 ∨ b = s1.heap.objs.size := by simpa using hb
      have hle : s1.heap.objs.size ≤ b := by
        rcases e' with z | z
        · rw [z]; exact Nat.le_add_right _ _
        · rw [z]; exact Nat.le_refl _
      exact I1.fpOk hle (I1.hok.fresh hle)
end L2
namespace VL
open PySem PySem.Spec PyProof.Rows L2 RZ RT LamX NdefX
variable {B : Tb}
section
variable {X : Cx} {E : XK} {tg : Expr}
/-- (0, x), (1, y), .. -/
def numbered (ds : List D) : List D := (ds.zipIdx).map fun p => .tup [.int (p.2 : Nat), p.1]
theorem numbered_get {ds : List D} {i : Nat} {d : D} (h : (numbered ds)[i]? = some d) : ∃ x, ds[i]? = some x ∧ d = .tup [.int (i : Nat), x] := by
  unfold numbered at h
  rw [List.getElem?_map, List.getElem?_zipIdx] at h
  cases e : ds[i]? with
  | none => rw [e] at h; simp at h
  | some x =>
    rw [e] at h
    simp at h
    exact ⟨x, rfl, h.symm⟩
theorem numbered_len {ds : List D} : (numbered ds).length = ds.length := by simp [numbered]
theorem walks_et {g : G} {q : List Addr} {H : Hp} {a : Addr} {xs : List V} {ds : List D} {c : Chk} (hs : SqT g.K H a xs) (r : RDs g q H xs ds) : Walks g (IteT g.K a) q H (numbered ds, c) := by
  intro i q' H' st' e rs ok
  have hs' := sqT_ext e hs
  have r' := r.ext e
  refine ⟨fun hi => ⟨xs, hs', by rw [r.length]; rw [numbered_len] at hi; exact hi⟩, fun d hd => ?_⟩
  obtain ⟨x, hx, rfl⟩ := numbered_get hd
  obtain ⟨u, hu, ru⟩ := r'.get hx
  refine ⟨⟨xs, u, hs', hu⟩, fun y H2 ⟨T, z, hz, nT, h3, h4⟩ => ?_⟩
  subst hz h3
  have e1 := h4 xs hs'
  rw [hu] at e1; cases e1
  exact tup_new rs nT (.cons (.int _) (.cons ru .nil))
theorem walks_el {g : G} {q : List Addr} {H : Hp} {n : Nat} {a : Addr} {ds : List D} {c : Chk} (qa : q[n]? = some a) (hc : ∀ st', ChkOk c st' → listAt st' n = some ds) : Walks g (Ite g.K a) q H (numbered ds, c) := by
  intro i q' H' st' e rs ok
  obtain ⟨b, xs, qb, hs, r⟩ := rs.listAt (hc st' ok)
  rw [e.at qa] at qb; cases qb
  refine ⟨fun hi => ⟨xs, hs, by rw [r.length]; rw [numbered_len] at hi; exact hi⟩, fun d hd => ?_⟩
  obtain ⟨x, hx, rfl⟩ := numbered_get hd
  obtain ⟨u, hu, ru⟩ := r.get hx
  refine ⟨⟨xs, u, hs, hu⟩, fun y H2 ⟨T, z, hz, nT, h3, h4⟩ => ?_⟩
  subst hz h3
  have e1 := h4 xs hs
  rw [hu] at e1; cases e1
  exact tup_new rs nT (.cons (.int _) (.cons ru .nil))
def enumD : List D → Sto → R (List D × Chk)
  | [.tup ds], st => .ok (numbered ds, []) st
  | [.ref n], st => match listAt st n with
    | some ds => .ok (numbered ds, chkAt st n) st
    | none => .bad
  | _, _ => .bad
theorem li_enum {e : Expr} {fa : AF} (h : PI X tg e (iEnumA X.K (LA (gOf B X) E fa))) : PI X tg e (LI (gOf B X) E (itA enumD fa)) :=
  h.imp fun sg H RR w => itA_le w fun q st ds vs H rs rd p => by
    unfold enumD at p
    split at p
    · obtain ⟨v, rfl, r⟩ := rd.one_inv
      obtain ⟨a, xs, rfl, ha, ra⟩ := r.tup_inv
      exact ⟨a, xs, rfl, .inr ⟨ha, p q H _ Ext.refl rs (walks_et ha ra)⟩⟩
    · split at p
      · rename_i ds e1
        obtain ⟨v, rfl, r⟩ := rd.one_inv
        obtain ⟨a, xs, qa, ha, _⟩ := rs.listAt e1
        obtain ⟨a', rfl, qa'⟩ := r.ref_inv
        rw [qa] at qa'; cases qa'
        exact ⟨a, xs, rfl, .inl ⟨ha, p q H _ Ext.refl rs (walks_el qa fun st' ok => chkAt_list e1 ok)⟩⟩
      · exact False.elim p
    · exact False.elim p
/-! ### in -/
def flatD : D → Bool
  | .non => true
  | .bl _ => true
  | .int _ => true
  | .str _ => true
  | _ => false
def eqF : D → D → Bool
  | .non, .non => true
  | .bl a, .bl b => a == b
  | .bl a, .int b => (if a then 1 else 0) == b
  | .int a, .bl b => a == (if b then 1 else 0)
  | .int a, .int b => a == b
  | .str a, .str b => a == b
  | _, _ => false
theorem flat_of {g : G} {q : List Addr} {H : Hp} {v : V} {d : D} (r : RD g q H v d) (h : flatD d = true) : flatV v = true := by cases r <;> first | rfl | cases h
theorem eqF_of {g : G} {q : List Addr} {H : Hp} {v w : V} {d e : D} (r : RD g q H v d) (r' : RD g q H w e) (h : flatD d = true) (h' : flatD e = true) : eqV v w = eqF d e := by
  cases r <;> first | (cases h; done) | (cases r' <;> first | rfl | (cases h'; done))
theorem all_flat {g : G} {q : List Addr} {H : Hp} : ∀ {vs : List V} {ds : List D}, RDs g q H vs ds → ds.all flatD = true → vs.all flatV = true
  | _, _, .nil, _ => rfl
  | _, _, .cons r t, h => by
    rw [List.all_cons, Bool.and_eq_true] at h
    rw [List.all_cons, flat_of r h.1, all_flat t h.2]
    rfl
theorem any_eqF {g : G} {q : List Addr} {H : Hp} {v : V} {d : D} (r : RD g q H v d) (h : flatD d = true) : ∀ {vs : List V} {ds : List D}, RDs g q H vs ds → ds.all flatD = true → (vs.any fun y => eqV y v) = ds.any fun y => eqF y d
  | _, _, .nil, _ => rfl
  | _, _, .cons r' t, h' => by
    rw [List.all_cons, Bool.and_eq_true] at h'
    rw [List.any_cons, List.any_cons, eqF_of r' r h'.1 h, any_eqF r h t h'.2]
/-- x in a list or tuple of flat items -/
def inL (neg : Bool) (x : D) (ds : List D) (st : Sto) : R D := if flatD x = true ∧ ds.all flatD = true then .ok (.bl (if neg then !(ds.any fun y => eqF y x) else ds.any fun y => eqF y x)) st else .bad
def inSq (neg : Bool) : D → D → Sto → R D
  | x, .tup ds, st => inL neg x ds st
  | x, .ref n, st => match listAt st n with
    | some ds => inL neg x ds st
    | none => .bad
  | _, _, _ => .bad
theorem inL_of {g : G} {q : List Addr} {H : Hp} {Q : VK} {K' : Str → Sto → Prop} {neg : Bool} {v : V} {x : D} {p : Addr} {xs : List V} {ds : List D} {st : Sto} (rs : RS g q H st) (rx : RD g q H v x) (hs : SqL g.K H p xs ∨ SqT g.K H p xs) (r : RDs g q H xs ds) (k : (inL neg x ds st).post (KV g q H Q) K') : rIn g.K neg v (.ref p) H Q := by
  unfold inL at k
  split at k
  · rename_i h
    refine ⟨p, xs, rfl, hs, flat_of rx h.1, all_flat r h.2, ?_⟩
    unfold inV
    rw [any_eqF rx h.1 r h.2]
    exact k q _ H Ext.refl rs (.bl _)
  · exact False.elim k
theorem inSq_of {neg : Bool} {x y : V} {H : Hp} {Q : VK} (w : LR (gOf B X) E (inSq neg) x y H Q) : rIn X.K neg x y H Q := by
  obtain ⟨q, st, a, b, rs, ra, rb, p⟩ := w
  cases b with
  | tup ds =>
    obtain ⟨p', xs, rfl, hs, r⟩ := rb.tup_inv
    exact inL_of (g := gOf B X) rs ra (.inr hs) r (show (inL neg a ds st).post _ _ by cases a <;> exact p)
  | ref n =>
    have p : (match listAt st n with | some ds => inL neg a ds st | none => .bad : R D).post (KV (gOf B X) q H Q) (KX (gOf B X) q H E) := by cases a <;> exact p
    split at p
    · rename_i ds e
      obtain ⟨p', xs, qa, hs, r⟩ := rs.listAt e
      obtain ⟨p2, rfl, qb⟩ := rb.ref_inv
      rw [qa] at qb; cases qb
      exact inL_of (g := gOf B X) rs ra (.inl hs) r p
    · exact False.elim p
  | _ => cases a <;> exact False.elim p
theorem op_inD : OpR X (compareOp .In) (LR (gOf B X) E (inSq false)) := op_in_seq.imp fun _ _ _ _ w => inSq_of w
theorem op_notInD : OpR X (compareOp .NotIn) (LR (gOf B X) E (inSq true)) := op_notIn_seq.imp fun _ _ _ _ w => inSq_of w
/-! ### reversed -/
theorem walks_rl {g : G} {q : List Addr} {H : Hp} {n : Nat} {a : Addr} {ds : List D} {c : Chk} (qa : q[n]? = some a) (hc : ∀ st', ChkOk c st' → listAt st' n = some ds) : Walks g (Itv g.K a ds.length) q H (ds.reverse, c) := by
  intro i q' H' st' e rs ok
  obtain ⟨b, xs, qb, hs, r⟩ := rs.listAt (hc st' ok)
  rw [e.at qa] at qb; cases qb
  refine ⟨fun hi => by rw [List.length_reverse] at hi; exact hi, fun d hd => ?_⟩
  have hl := (List.getElem?_eq_some_iff.mp hd).1
  rw [List.length_reverse] at hl
  have hd2 : ds[ds.length - 1 - i]? = some d := by
    have hd : ds.reverse[i]? = some d := hd
    rw [List.getElem?_reverse hl] at hd
    exact hd
  obtain ⟨x, hx, rx⟩ := r.get hd2
  refine ⟨⟨hl, xs, x, hs, hx⟩, fun y H2 ⟨e2, hy⟩ => ?_⟩
  subst e2
  exact ⟨Ext.refl, rs, r.inj_get (hy xs hs) hd2⟩
theorem walks_rt {g : G} {q : List Addr} {H : Hp} {a : Addr} {xs : List V} {ds : List D} {c : Chk} (hs : SqT g.K H a xs) (r : RDs g q H xs ds) : Walks g (ItvT g.K a ds.length) q H (ds.reverse, c) := by
  intro i q' H' st' e rs ok
  have hs' := sqT_ext e hs
  have r' := r.ext e
  refine ⟨fun hi => by rw [List.length_reverse] at hi; exact hi, fun d hd => ?_⟩
  have hl := (List.getElem?_eq_some_iff.mp hd).1
  rw [List.length_reverse] at hl
  have hd2 : ds[ds.length - 1 - i]? = some d := by
    have hd : ds.reverse[i]? = some d := hd
    rw [List.getElem?_reverse hl] at hd
    exact hd
  obtain ⟨x, hx, rx⟩ := r'.get hd2
  refine ⟨⟨hl, xs, x, hs', hx⟩, fun y H2 ⟨e2, hy⟩ => ?_⟩
  subst e2
  exact ⟨Ext.refl, rs, r'.inj_get (hy xs hs') hd2⟩
def revD (d : D) (st : Sto) : R (List D × Chk) := match d with
  | .tup ds => .ok (ds.reverse, []) st
  | .ref n => match listAt st n with
    | some ds => .ok (ds.reverse, chkAt st n) st
    | none => .bad
  | _ => .bad
theorem li_rev {e : Expr} {f : EF} (h : PI X tg e (iRevA X.K (LE (gOf B X) E f))) : PI X tg e (LI (gOf B X) E (fun env st => (f env st).bind revD)) :=
  h.imp fun sg H RR w => by
    obtain ⟨q, env, st, rs, re, p⟩ := w
    refine LE.chain rs re (R.post_bind.mp p) fun d s1 q1 v H1 p e1 rs1 re1 rx => ?_
    cases d with
    | tup ds =>
      obtain ⟨a, xs, rfl, ha, ra⟩ := rx.tup_inv
      exact ⟨a, xs, rfl, .inr ⟨ha, by rw [ra.length]; exact p q1 H1 _ e1 rs1 (walks_rt ha ra)⟩⟩
    | ref n =>
      have p : (match listAt s1 n with | some ds => .ok (ds.reverse, chkAt s1 n) s1 | none => .bad : R (List D × Chk)).post _ _ := p
      split at p
      · rename_i ds e
        obtain ⟨a, xs, qa, ha, ra⟩ := rs1.listAt e
        obtain ⟨a', rfl, qa'⟩ := rx.ref_inv
        rw [qa] at qa'; cases qa'
        exact ⟨a, xs, rfl, .inl ⟨ha, by rw [ra.length]; exact p q1 H1 _ e1 rs1 (walks_rl qa fun st' ok => chkAt_list e ok)⟩⟩
      · exact False.elim p
    | _ => exact False.elim p
end
/-! ### a def that calls itself: at depth 0 nothing is told -/
theorem fn_bad {P : Program} {w : World} {K : PySem.W.Frag} {mg : Str → Option Value} {base : Heap} {k n : Nat} {f : Addr} {fd : FuncData} {ps : List Str} {g : G} (hn : ps.length = n) : FnOk P w K mg base CX0 k f fd ps (Sp0 g n fun _ _ => .bad) :=
  ⟨fun vs H Q E h => h.1.trans hn.symm, fun A outer s H args us vs Q E hr he hb hv h => by
    obtain ⟨_, q, st, ds, _, _, p⟩ := h
    exact False.elim p⟩
end VL

/-! VL7: t[::-1] of tuples and lists. -/
namespace HT
open PySem PySem.Spec PyProof.Rows
section
variable {prog : Program} {w : World} {A : Around} {E : Value → Shared → Prop} {s : Shared}
theorem vl_applied_back {sl : Addr} {vl vu vk : Value} {n : Nat} {Q : Int × Int × Nat → Shared → Prop} (hs : s.heap.IsSliceOf sl vl vu vk) (pl : IsPart vl none) (pu : IsPart vu none) (pk : IsPart vk (some (-1)))
    (h : Q ((n : Int) - 1, -1, n) s) : wpAny (model prog w) A (Builtin.Slice.sliceApplied (.ref sl) (pure (n : Int))) Q E s := by
  obtain ⟨os, hos, hcs, hds⟩ := id hs
  unfold Builtin.Slice.sliceApplied Builtin.Slice.sliceFields
  refine wpAny_bind (wpAny_bind (wpAny_field hos hds (x := vl) rfl (wpAny_bind (wpAny_field hos hds (x := vu) rfl (wpAny_bind (wpAny_field hos hds (x := vk) rfl (wpAny_pure ?_)))))))
  refine wpAny_bind (slicePart_ pk ?_)
  show wpAny _ _ (if ((-1 : Int) == 0) = true then _ else _) _ _ s
  rw [if_neg (by decide)]
  refine wpAny_bind (slicePart_ pl (wpAny_bind (slicePart_ pu (wpAny_bind (wpAny_pure ?_)))))
  show wpAny _ _ (match Builtin.Slice.sliceAdjust none none (-1) (n : Int) with | (lo, hi) => pure (lo, (-1 : Int), Builtin.Slice.slicePlaces lo hi (-1))) _ _ s
  have e : Builtin.Slice.sliceAdjust none none (-1) (n : Int) = ((n : Int) - 1, -1) := rfl
  rw [e]
  have e2 : Builtin.Slice.slicePlaces ((n : Int) - 1) (-1) (-1) = n := by
    unfold Builtin.Slice.slicePlaces
    rw [if_neg (by decide)]
    split
    · simp
    · omega
  show wpAny _ _ (pure ((n : Int) - 1, (-1 : Int), Builtin.Slice.slicePlaces ((n : Int) - 1) (-1) (-1))) _ _ s
  rw [e2]
  exact wpAny_pure h
theorem vl_pick_back (xs : Array Value) : ((List.range xs.size).filterMap fun (m : Nat) => xs[(((xs.size : Int) - 1) + (m : Int) * -1).toNat]?).toArray = xs.toList.reverse.toArray := by
  have e : (fun (m : Nat) => xs[(((xs.size : Int) - 1) + (m : Int) * -1).toNat]?) = (fun i => xs[i]?) ∘ fun m => xs.size - 1 - m := by
    funext m
    have : (((xs.size : Int) - 1) + (m : Int) * -1).toNat = xs.size - 1 - m := by omega
    show xs[(((xs.size : Int) - 1) + (m : Int) * -1).toNat]? = xs[xs.size - 1 - m]?
    rw [this]
  rw [e, ← List.filterMap_map, PySem.W.krv_range, List.filterMap_reverse]
  have := PySem.W.krv_all xs
  rw [this]
theorem getItem_tuple_back {t sl : Addr} {items : Array Value} {vl vu vk : Value} {Q : Value → Shared → Prop} (ht : IsTup s.heap t items) (hs : s.heap.IsSliceOf sl vl vu vk) (pl : IsPart vl none) (pu : IsPart vu none) (pk : IsPart vk (some (-1)))
    (h : Q (.ref s.heap.objs.size) { s with heap := s.heap.push { cls := .type "tuple", data := .seq items.toList.reverse.toArray } })
    (hsz : items.size ≤ sizeLine) : wpAny (model prog w) A (getItem (.ref t) (.ref sl)) Q E s := by
  have htake : sizeOk (.seq items.toList.reverse.toArray) := by
    show items.toList.reverse.toArray.size ≤ sizeLine
    rw [List.size_toArray, List.length_reverse, Array.length_toList]
    exact hsz
  obtain ⟨os, hos, hcs, hds⟩ := id hs
  have hTs : s.TypeIs (.ref sl) "slice" := ⟨os, hos, hcs⟩
  unfold getItem
  try with_reducible refine wpAny_holding ?_
  first | refine wpAny_bind (wpAny_pure ?_) | skip
  refine wpAny_bind (wpAny_sequenceKey ht.typeIs (by decide) ?_)
  refine wpAny_bind (wpAny_callSpecial?_slot (name := Str.ofString "__getitem__") ht.typeIs PyProof.Rows.slot_tuple_getitem
    (wpAny_call_entry PyProof.Rows.slot_tuple_getitem ht.typeIs entry_tuple_getitem ?_ (args_tuple_getitem _ _)))
  show wpAny _ _ (Builtin.Tuple.tupleItemsOf (.ref t) >>= _) _ _ s
  refine wpAny_bind (tupleItemsOf_ ht ?_)
  refine wpAny_bind (wpAny_typeOf hTs ?_)
  rw [if_pos (by decide)]
  refine wpAny_bind (vl_applied_back hs pl pu pk ?_)
  have hno : ¬ ((((items.size : Int) - 1) == 0 && (-1 : Int) == 1 && items.size == items.size) = true) := by
    intro q
    rw [Bool.and_eq_true, Bool.and_eq_true] at q
    exact absurd q.1.2 (by decide)
  show wpAny _ _ (if (((items.size : Int) - 1) == 0 && (-1 : Int) == 1 && items.size == items.size) = true then _ else _) _ _ s
  rw [if_neg hno, vl_pick_back]
  first
    | exact wpAny_bind (m := Builtin.Tuple.tupleExact _) (wpAny_newObj_type (wpAny_pure ⟨_, rfl, wpAny_pure h⟩) htake)
    | exact wpAny_bind (m := Builtin.Tuple.tupleExact _) (wpAny_newObj_type (wpAny_bind (wpAny_pure (wpAny_pure ⟨_, rfl, wpAny_pure h⟩))) htake)
    | exact wpAny_bind (wpAny_bind (m := Builtin.Tuple.tupleExact _) (wpAny_newObj_type (wpAny_pure (wpAny_pure ⟨_, rfl, wpAny_pure h⟩)) htake))
    | exact wpAny_bind (wpAny_bind (m := Builtin.Tuple.tupleExact _) (wpAny_newObj_type (wpAny_pure ⟨_, rfl, wpAny_pure h⟩) htake))
end
end HT
namespace L2
open PySem PySem.Spec PyProof.Rows
def tRevA (K : PySem.W.Frag) (te : TE) : TE := fun σ H Q => te σ H fun x H1 => ∃ a xs, x = .ref a ∧ ((SqL K H1 a xs ∧ ∀ p, H1 p = none → Q (.ref p) (upd H1 p (.lst xs.reverse))) ∨ (SqT K H1 a xs ∧ ∀ p, H1 p = none → Q (.ref p) (upd H1 p (.tup xs.reverse))))
theorem pe_revA {X : Cx} {e : Expr} {te : TE} {k : Nat} {p1 p2 p3 pos : Pos} (he : PE X e te) : PE X (.Subscript e (.Slice none none (some (.UnaryOp .USub (.Constant (.int 1) k p1) p2)) p3) pos) (tRevA X.K te) := by
  refine ⟨fun pins s σ H Q I h => ?_⟩
  refine Subscript_ (thn (he.run pins s σ H _ I h) fun v s1 ⟨x, H1, I1, r1, q1⟩ => ?_)
  obtain ⟨a, xs, ex, hx⟩ := q1
  subst ex
  cases r1
  have hst : PO X (some (.UnaryOp .USub (.Constant (.int 1) k p1) p2)) (tPart (tUn (rU fun i => .int (-i)) (tC (.int 1)))) := po_some (pe_un un_neg pe_int)
  refine wpAny_Slice (thn (po_none.run pins s1 σ H1 (fun o H2 => o = none ∧ H2 = H1) I1 ⟨rfl, rfl⟩) fun vl s2 ⟨l, H2, I2, pl, el, e2⟩ => ?_)
  subst el e2
  refine thn (po_none.run pins s2 σ H2 (fun o H3 => o = none ∧ H3 = H2) I2 ⟨rfl, rfl⟩) fun vu s3 ⟨u, H3, I3, pu, eu, e3⟩ => ?_
  subst eu e3
  refine thn (hst.run pins s3 σ H3 (fun o H4 => o = some (-1) ∧ H4 = H3) I3 ⟨1, rfl, -1, rfl, rfl, rfl⟩) fun vs s4 ⟨o, H4, I4, ps, eo, e4⟩ => ?_
  subst eo e4
  have I5 : Inv X pins σ H4 { s4 with heap := s4.heap.push { cls := .type "slice", data := .fields #[vl, vu, vs] } } := I4.kept (t' := s4.toks) fun b ob q => Heap.get?_push_of_some _ q
  rcases hx with ⟨hx, q⟩ | ⟨hx, q⟩
  · obtain ⟨its, r, ht, hz⟩ := I5.list hx
    have hlen := r.length
    show wpAny (model X.prog X.w) X.A (subscriptTail e (.Slice none none (some (.UnaryOp .USub (.Constant (.int 1) k p1) p2)) p3) (.ref a) (.ref s4.heap.objs.size)) (EP X pins σ Q) X.xe { s4 with heap := s4.heap.push { cls := .type "slice", data := .fields #[vl, vu, vs] } }
    refine tail_any (ops := [.ref a, .ref s4.heap.objs.size]) ht.isList.typeIs (PySem.slot_list_getitem.lookup) ?_ (by with_unfolding_all rfl)
    refine wpAny_getItem_list_slice ht.isList (Heap.IsSliceOf.new _ vl vu vs) pl pu ps (by decide) ?_ (by rw [List.size_toArray]; omega)
    rw [PySem.W.krv_pick]
    refine ⟨.ref _, _, I5.laid (t' := s4.toks) (o := .lst xs.reverse) (fun b ob q => Heap.get?_push_of_some _ q) (Nat.le_refl _) ?_, rfl, q _ (I5.hok.fresh (Nat.le_refl _))⟩
    exact ⟨by rw [List.length_reverse]; exact hz, _, 0, r.reverse, Heap.get?_push_size _ rfl⟩
  · obtain ⟨its, r, ht, hz⟩ := I5.tuple hx
    have hlen := r.length
    show wpAny (model X.prog X.w) X.A (subscriptTail e (.Slice none none (some (.UnaryOp .USub (.Constant (.int 1) k p1) p2)) p3) (.ref a) (.ref s4.heap.objs.size)) (EP X pins σ Q) X.xe { s4 with heap := s4.heap.push { cls := .type "slice", data := .fields #[vl, vu, vs] } }
    refine tail_any (ops := [.ref a, .ref s4.heap.objs.size]) ht.typeIs (PyProof.Rows.slot_tuple_getitem.lookup) ?_ (by with_unfolding_all rfl)
    refine HT.getItem_tuple_back ht (Heap.IsSliceOf.new _ vl vu vs) pl pu ps ?_ (by rw [List.size_toArray]; omega)
    refine ⟨.ref _, _, I5.laid (t' := s4.toks) (o := .tup xs.reverse) (fun b ob q => Heap.get?_push_of_some _ q) (Nat.le_refl _) ?_, rfl, q _ (I5.hok.fresh (Nat.le_refl _))⟩
    exact ⟨by rw [List.length_reverse]; exact hz, _, r.reverse, IsTup.new _ _⟩
end L2
namespace VL
open PySem PySem.Spec PyProof.Rows L2 LamX NdefX
variable {B : Tb}
section
variable {X : Cx} {E : XK}
def backD (d : D) (st : Sto) : R D := match d with
  | .tup ds => .ok (.tup ds.reverse) st
  | .ref n => match listAt st n with
    | some ds => newO (.lst ds.reverse) st
    | none => .bad
  | _ => .bad
theorem le_back {e : Expr} {f : EF} {k : Nat} {p1 p2 p3 pos : Pos} (he : PE X e (LE (gOf B X) E f)) : PE X (.Subscript e (.Slice none none (some (.UnaryOp .USub (.Constant (.int 1) k p1) p2)) p3) pos) (LE (gOf B X) E (un1 backD f)) := (pe_revA he).imp fun sg H Q w => by
  obtain ⟨q, env, st, rs, re, p⟩ := w
  refine LE.chain rs re (R.post_bind.mp p) fun d s1 q1 v H1 p e1 rs1 re1 rx => ?_
  cases d with
  | tup ds =>
    obtain ⟨a, xs, rfl, ha, ra⟩ := rx.tup_inv
    refine ⟨a, xs, rfl, .inr ⟨ha, fun t ht => ?_⟩⟩
    obtain ⟨e2, rs2, r2⟩ := tup_new rs1 ht ra.reverse
    exact p _ _ _ (e1.trans e2) rs2 r2
  | ref n =>
    have p : (match listAt s1 n with | some ds => newO (.lst ds.reverse) s1 | none => .bad : R D).post _ _ := p
    split at p
    · rename_i ds e
      obtain ⟨a, xs, qa, ha, ra⟩ := rs1.listAt e
      obtain ⟨a', rfl, qa'⟩ := rx.ref_inv
      rw [qa] at qa'; cases qa'
      refine ⟨a, xs, rfl, .inl ⟨ha, fun t ht => ?_⟩⟩
      obtain ⟨e2, rs2, r2⟩ := lst_new rs1 ht ra.reverse
      exact p _ _ _ (e1.trans e2) rs2 r2
    · exact False.elim p
  | _ => exact False.elim p
end
end VL

/-! VLX: further built-ins, targets. -/
namespace VL
open PySem PySem.Spec PyProof.Rows L2 LamX NdefX
variable {B : Tb}
section
variable {X : Cx} {E : XK}
def int1D : List D → Sto → R D
  | [.int i], st => .ok (.int i) st
  | [.bl b], st => .ok (.int (if b = true then 1 else 0)) st
  | _, _ => .bad
theorem call_int1D : CallR X (.type "int") (LC (gOf B X) E int1D) := call_int1.imp fun vs H Q w => by
  obtain ⟨q, st, ds, rs, rd, p⟩ := w
  unfold int1D at p
  split at p
  · cases rd with
    | cons r t =>
      cases t
      exact .inl ⟨_, by rw [r.int_inv], p q _ H Ext.refl rs (.int _)⟩
  · cases rd with
    | cons r t =>
      cases t
      exact .inr ⟨_, by rw [r.bl_inv], p q _ H Ext.refl rs (.int _)⟩
  · exact False.elim p
/-! ### xs[i] = v -/
def setIx : D → D → D → Sto → R Unit
  | .ref n, .int i, d, st => match st[n]? with
    | some (.lst xs) => (match ixN xs.length i with
      | some j => .ok () (st.set n (.lst (xs.set j d)))
      | none => .bad)
    | _ => .bad
  | _, _, _, _ => .bad
def subG (fo fi : EF) (g : D → D → D → Sto → R Unit) : GF := fun d env st => (fo env st).bind fun o s => (fi env s).bind fun i s2 => (g o i d s2).bind fun _ s3 => .ok env s3
theorem setIx_of {x y v : V} {H : Hp} {Q : Hp → Prop} {g : G} {q : List Addr} {st : Sto} {a b d : D} {K' : Str → Sto → Prop} (rs : RS g q H st) (ra : RD g q H x a) (rb : RD g q H y b) (rd : RD g q H v d) (p : (setIx a b d st).post (fun _ st' => ∀ H', Ext q H q H' → RS g q H' st' → Q H') K') : rSetL x y v H Q := by
  cases a with
  | ref n =>
    cases b with
    | int i =>
      unfold setIx at p
      simp only at p
      split at p
      · rename_i xs hx
        split at p
        · rename_i j hj
          obtain ⟨a', rfl, qa⟩ := ra.ref_inv
          obtain ⟨a, qa', ro⟩ := rs.get hx
          rw [qa] at qa'; cases qa'
          obtain ⟨ys, hy, ry⟩ := ro
          obtain ⟨rs2, e2⟩ := lst_put (ys := ys.set j v) (es := xs.set j d) rs hx qa hy (RDs.set rd j ry)
          exact ⟨a', ys, i, j, rfl, rb.int_inv, hy, by rw [ry.length]; exact hj, p _ e2 rs2⟩
        · exact False.elim p
      · exact False.elim p
    | _ => exact False.elim p
  | _ => cases b <;> exact False.elim p
theorem lg_sub {o i : Expr} {fo fi : EF} {pos : Pos} (ho : PE X o (LE (gOf B X) E fo)) (hi : PE X i (LE (gOf B X) E fi))
    (ha : ∀ v, assign (.Subscript o i pos) X.env v = (do
      let ov ← holding [v] (eval o X.env)
      let iv ← holding [v, ov] (eval i X.env)
      standAt pos
      holding [v, ov, iv] (setItem ov iv v)
      release [v, ov, iv] []) := by intro _; rfl) : PG X (.Subscript o i pos) (LG (gOf B X) E (subG fo fi setIx)) := (pg_sub ho hi set_list ha).imp fun v sg H Q w => by
  obtain ⟨q, d, env, st, rs, re, rd, p⟩ := w
  refine LE.chain rs re (R.post_bind.mp p) fun x s1 q1 vx H1 p e1 rs1 re1 rx => ?_
  refine LE.chain rs1 re1 ((R.post_bind.mp p).imp (fun _ _ h => h) fun _ _ h => h.ext e1) fun y s2 q2 vy H2 p e2 rs2 re2 ry => ?_
  refine setIx_of rs2 (rx.ext e2) ry (rd.ext (e1.trans e2)) (K' := KX (gOf B X) q H E) ((R.post_bind.mp p).imp (fun u s3 p H3 e3 rs3 => ?_) fun _ _ h => h)
  exact p q2 H3 sg ((e1.trans e2).trans e3) rs3 (re2.ext e3)
/-- a target that takes a list apart -/
def unlG (n : Nat) (f : List D → EnvD → Sto → R EnvD) : GF := fun d env st => match d with
  | .ref k => (match listAt st k with
    | some ds => if ds.length = n then f ds env st else .bad
    | none => .bad)
  | _ => .bad
theorem lg_unl {es : List Expr} {k : Nat} {f : List D → EnvD → Sto → R EnvD} {n : Nat} {pos : Pos} (hc : X.calm = true) (h : PGs X es (LGs (gOf B X) E f))
    (hn : (assignEach es X.env).length = n := by rfl) (hst : (assignEach es X.env).findIdx? (·.1) = none := by rfl) : PG X (.Tuple es k pos) (LG (gOf B X) E (unlG n f)) := (pg_unl hc h hn hst).imp fun v sg H Q w => by
  obtain ⟨q, d, env, st, rs, re, rd, p⟩ := w
  cases d with
  | ref m =>
    obtain ⟨a, rfl, qa⟩ := rd.ref_inv
    unfold unlG at p
    simp only at p
    split at p
    · rename_i ds hd
      obtain ⟨a', xs, qa', hs, rx⟩ := rs.listAt hd
      rw [qa] at qa'; cases qa'
      split at p
      · rename_i hl
        exact ⟨a, xs, rfl, hs, by rw [rx.length]; exact hl, q, ds, env, st, rs, re, rx, p⟩
      · exact False.elim p
    · exact False.elim p
  | _ => exact False.elim p
/-! ### a list times an int -/
def repD : D → D → Sto → R D
  | .ref n, .int k, st => match st[n]? with
    | some (.lst xs) => if -(2 ^ 63) ≤ k ∧ k < 2 ^ 63 ∧ xs.length * k.toNat ≤ sizeLine then newO (.lst (List.replicate k.toNat xs).flatten) st else .bad
    | _ => .bad
  | _, _, _ => .bad
theorem RDs.rep {g : G} {q : List Addr} {H : Hp} {vs : List V} {ds : List D} (r : RDs g q H vs ds) : ∀ k : Nat, RDs g q H (List.replicate k vs).flatten (List.replicate k ds).flatten
  | 0 => .nil
  | k + 1 => by
    rw [List.replicate_succ, List.replicate_succ, List.flatten_cons, List.flatten_cons]
    exact r.append (RDs.rep r k)
theorem op_repD : OpR X (binaryOp .Mult) (LR (gOf B X) E repD) := op_rep.imp fun x y H Q w => by
  obtain ⟨q, st, a, b, rs, ra, rb, p⟩ := w
  unfold repD at p
  split at p
  · split at p
    · rename_i xs hx
      split at p
      · rename_i hk
        obtain ⟨l, rfl, qa⟩ := ra.ref_inv
        obtain ⟨l', ys, qa', hl, ry⟩ := rs.lstAt hx
        rw [qa] at qa'; cases qa'
        refine ⟨l, _, ys, rfl, rb.int_inv, hl, hk.1, hk.2.1, by rw [ry.length]; exact hk.2.2, fun u hu => ?_⟩
        obtain ⟨e2, rs2, r2⟩ := lst_new rs hu (ry.rep _)
        exact p _ _ _ e2 rs2 r2
      · exact False.elim p
    · exact False.elim p
  · exact False.elim p
/-! ### max of three -/
def max3D : List D → Sto → R D
  | [.int i, .int j, .int k], st => .ok (.int (if (if i < j then j else i) < k then k else if i < j then j else i)) st
  | _, _ => .bad
theorem call_max3D (hc : X.calm = true) : CallR X (.builtin "max") (LC (gOf B X) E max3D) := (call_max3Nu hc).imp fun vs H Q w => by
  obtain ⟨q, st, ds, rs, rd, p⟩ := w
  unfold max3D at p
  split at p
  · rename_i i j k
    obtain ⟨v, u, t, rfl, r, r', r''⟩ := rd.three_inv
    have e1 := r.int_inv
    have e2 := r'.int_inv
    have e3 := r''.int_inv
    subst e1 e2 e3
    refine ⟨_, _, _, .int (if (if i < j then j else i) < k then k else if i < j then j else i), rfl, ?_, p q _ H Ext.refl rs (.int _)⟩
    unfold nuMax3 nuMax2 nuLt nuCB
    by_cases h : i < j
    · by_cases h2 : j < k <;> simp [h, h2]
    · by_cases h2 : i < k <;> simp [h, h2]
  · exact False.elim p
/-! ### zip of three lists -/
def Itz3 (K : PySem.W.Frag) (a b c : Addr) : It :=
  ⟨fun i H => ∃ (xs ys zs : List V) (x y z : V), SqL K H a xs ∧ SqL K H b ys ∧ SqL K H c zs ∧ xs[i]? = some x ∧ ys[i]? = some y ∧ zs[i]? = some z,
    fun i H v H' => ∃ T x y z, v = .ref T ∧ H T = none ∧ H' = upd H T (.tup [x, y, z]) ∧ (∀ xs, SqL K H a xs → xs[i]? = some x) ∧ (∀ ys, SqL K H b ys → ys[i]? = some y) ∧ ∀ zs, SqL K H c zs → zs[i]? = some z,
    fun i H => ∃ xs ys zs : List V, SqL K H a xs ∧ SqL K H b ys ∧ SqL K H c zs ∧ (xs.length ≤ i ∨ ys.length ≤ i ∨ zs.length ≤ i)⟩
/-- a list's iterator that may stand behind its end -/
theorem draws_listX {prog : Program} {w : World} {A : Around} (hh : A.handled = none) (it l : Addr) (hne : l ≠ it) (items : Array Value) (n : Nat) (hn : items.size ≤ n) :
    Draws prog w A it [it, l] n (fun i v => items[i]? = some v) (fun i h => h.IsListIter it l i ∧ h.IsList l items ∧ (n = items.size ∨ n ≤ i)) where
  live := fun _ _ st => let ⟨o, ho, _⟩ := st.1; ⟨o, ho⟩
  frame := fun _ _ _ st hk => ⟨st.1.at fun o e => hk it (by simp) o e, st.2.1.at fun o e => hk l (by simp) o e, st.2.2⟩
  item := fun i s Q E hi st hQ => by
    have hs : i < items.size := by
      rcases st.2.2 with e | e
      · omega
      · omega
    refine wpAny_nextOf_list_item st.1 st.2.1 (x := items[i]) (by simp [hs]) fun h' hit' hs' => ?_
    refine hQ _ h' s.toks (by simp [hs]) ⟨hit', st.2.1.extBut hs'.extBut hne, ?_⟩ hs'
    rcases st.2.2 with e | e
    · exact .inl e
    · exact .inr (by omega)
  done := fun s Q E st hE => wpAny_nextOf_list_end hh st.1 st.2.1 (by simp; omega) hE
theorem turn_zip3 {P : Program} {w : World} {K : PySem.W.Frag} {elts : List Expr} {kk : Nat} {tpos : Pos} {a b c N : Addr} (la : a < N) (lb : b < N) (lc : c < N) :
    Turn P w K (.Tuple elts kk tpos) (Itz3 K a b c) [N + 5, N + 3, N + 4, N, N + 1, N + 2] (N + 5) (fun i h => IsZip h (N + 5) (N + 3) (N + 4) .none ∧ IsTupOf3 h (N + 3) (.ref N) (.ref (N + 1)) (.ref (N + 2)) ∧ (∃ x y z, IsTupOf3 h (N + 4) x y z) ∧ h.IsListIter N a i ∧ h.IsListIter (N + 1) b i ∧ h.IsListIter (N + 2) c i) where
  mem := by simp
  obj := fun i h st d hd => by
    obtain ⟨hz, hTI, ⟨x, y, z, hTO⟩, ⟨o1, e1, _, d1⟩, ⟨o2, e2, _, d2⟩, ⟨o3, e3, _, d3⟩⟩ := st
    have e' : d = N + 5 ∨ d = N + 3 ∨ d = N + 4 ∨ d = N ∨ d = N + 1 ∨ d = N + 2 := by simpa using hd
    rcases e' with q | q | q | q | q | q
    · rw [q]; exact ⟨_, hz, fun v q => nomatch q⟩
    · rw [q]; exact ⟨_, hTI, fun v q => nomatch q⟩
    · rw [q]; exact ⟨_, hTO, fun v q => nomatch q⟩
    · rw [q]; exact ⟨o1, e1, fun v q => by rw [d1] at q; cases q⟩
    · rw [q]; exact ⟨o2, e2, fun v q => by rw [d2] at q; cases q⟩
    · rw [q]; exact ⟨o3, e3, fun v q => by rw [d3] at q; cases q⟩
  keep := fun i h h' st k => by
    obtain ⟨hz, hTI, ⟨x, y, z, hTO⟩, h1, h2, h3⟩ := st
    exact ⟨k (N + 5) (by simp) _ hz, k (N + 3) (by simp) _ hTI, ⟨x, y, z, k (N + 4) (by simp) _ hTO⟩, h1.at fun o q => k N (by simp) o q, h2.at fun o q => k (N + 1) (by simp) o q, h3.at fun o q => k (N + 2) (by simp) o q⟩
  item := by
    intro X hP hw hK hc i pins s σ H E I hf st hg
    subst hP hw hK
    obtain ⟨hz, hTI, ⟨x0, y0, z0, hTO⟩, h1, h2, h3⟩ := st
    obtain ⟨xs, ys, zs, x, y, z, hqx, hqy, hqz, hx, hy, hzz⟩ := hg
    obtain ⟨its, rv, p, _⟩ := I.list hqx
    obtain ⟨its2, rv2, p2, _⟩ := I.list hqy
    obtain ⟨its3, rv3, p3, _⟩ := I.list hqz
    obtain ⟨u, hu, ru⟩ := rv.get hx
    obtain ⟨u2, hu2, ru2⟩ := rv2.get hy
    obtain ⟨u3, hu3, ru3⟩ := rv3.get hzz
    have hh : X.A.in1.handled = none := I.ok.hd hc
    have S := zip_sep3 (N := N) (fp1 := [a]) (fp2 := [b]) (fp3 := [c]) (fun x hx => by rw [List.mem_singleton.mp hx]; exact la) (fun x hx => by rw [List.mem_singleton.mp hx]; exact lb) (fun x hx => by rw [List.mem_singleton.mp hx]; exact lc)
    have D1 := Draws.list (prog := X.prog) (w := X.w) hh N a (Nat.ne_of_lt la) its.toArray
    have D2 := Draws.list (prog := X.prog) (w := X.w) hh (N + 1) b (show b ≠ N + 1 from Nat.ne_of_lt (Nat.lt_succ_of_lt lb)) its2.toArray
    have D3 := Draws.list (prog := X.prog) (w := X.w) hh (N + 2) c (show c ≠ N + 2 from Nat.ne_of_lt (Nat.lt_succ_of_lt (Nat.lt_succ_of_lt lc))) its3.toArray
    have g1 := (List.getElem?_eq_some_iff.mp hu).1
    have g2 := (List.getElem?_eq_some_iff.mp hu2).1
    have g3 := (List.getElem?_eq_some_iff.mp hu3).1
    have hzl : N + 5 < s.heap.objs.size := Heap.lt_size hz
    refine wpAny_pyNext_zipD3_item S D1 D2 D3 hz hTI hTO ⟨h1, p.isList⟩ ⟨h2, p2.isList⟩ ⟨h3, p3.isList⟩ (by simpa using g1) (by simpa using g2) (by simpa using g3) fun v1 v2 v3 h' tk y1 y2 y3 b1 b2 d1 d2 d3 hT hsz hk => ?_
    obtain rfl : v1 = u := by
      have : its[i]? = some v1 := by simpa using y1
      rw [hu] at this; cases this; rfl
    obtain rfl : v2 = u2 := by
      have : its2[i]? = some v2 := by simpa using y2
      rw [hu2] at this; cases this; rfl
    obtain rfl : v3 = u3 := by
      have : its3[i]? = some v3 := by simpa using y3
      rw [hu3] at this; cases this; rfl
    refine ⟨_, rfl, wpAny_letOwnedTupleGo_zip (s := { s with heap := h', toks := tk }) b1 fun h'' z'' sb => ?_⟩
    have hT2 : h''.get? s.heap.objs.size = some { cls := .type "tuple", data := .seq #[v1, v2, v3] } := (sb.2 _ (Nat.ne_of_gt hzl)).trans hT
    have new : ObjOk X.prog X.w (upd H s.heap.objs.size (.tup [x, y, z])) h'' s.heap.objs.size (.tup [x, y, z]) :=
      ⟨by show 3 ≤ sizeLine; decide, [v1, v2, v3], .cons ru (.cons ru2 (.cons ru3 .nil)), ⟨_, hT2, rfl, _, rfl⟩⟩
    have I1 : Inv X pins σ (upd H s.heap.objs.size (.tup [x, y, z])) { s with heap := h'', toks := tk } :=
      I.turnedNew (t' := tk) (ch := [N + 5, N + 3, N + 4, N, N + 1, N + 2]) (fun c o hb q => (sb.2 c (fun q' => hb (by simp [q']))).trans (hk c o (fun q' => hb (by simp [q'])) (fun q' => hb (by simp [q'])) (fun q' => hb (by simp [q'])) (fun q' => hb (by simp [q'])) (fun q' => hb (by simp [q'])) q)) hf (Nat.le_refl _) new
    have ne : ∀ {j k : Nat}, j ≠ k → (N + j : Nat) ≠ N + k := fun h e => h (Nat.add_left_cancel e)
    refine ⟨.ref s.heap.objs.size, _, I1, rfl, ⟨_, x, y, z, rfl, I.hok.fresh (Nat.le_refl _), rfl, fun l hl => by rw [I.list_inj hl hqx]; exact hx, fun l hl => by rw [I.list_inj hl hqy]; exact hy, fun l hl => by rw [I.list_inj hl hqz]; exact hzz⟩, ⟨z'', ?_, ⟨v1, v2, v3, ?_⟩, ?_, ?_, ?_⟩, fun c hcm => ?_⟩
    · exact (sb.2 _ S.TIz).trans (hk _ _ S.TIz S.TITO S.TIi1 S.TIi2 S.TIi3 hTI)
    · exact (sb.2 _ S.TOz).trans b2
    · exact d1.1.at fun o q => (sb.2 _ (Ne.symm S.zi1)).trans q
    · exact d2.1.at fun o q => (sb.2 _ (Ne.symm S.zi2)).trans q
    · exact d3.1.at fun o q => (sb.2 _ (Ne.symm S.zi3)).trans q
    · have hlt : c < s.heap.objs.size := by
        have e' : c = N + 5 ∨ c = N + 3 ∨ c = N + 4 ∨ c = N ∨ c = N + 1 ∨ c = N + 2 := by simpa using hcm
        rcases e' with q | q | q | q | q | q
        · rw [q]; exact hzl
        · rw [q]; exact Heap.lt_size hTI
        · rw [q]; exact Heap.lt_size hTO
        · rw [q]; obtain ⟨_, e1, _⟩ := h1; exact Heap.lt_size e1
        · rw [q]; obtain ⟨_, e2, _⟩ := h2; exact Heap.lt_size e2
        · rw [q]; obtain ⟨_, e3, _⟩ := h3; exact Heap.lt_size e3
      rw [upd_ne (Nat.ne_of_lt hlt)]
      exact (hf c hcm).1
  done := by
    intro X hP hw hK hc i pins s σ H E I hf st hg
    subst hP hw hK
    obtain ⟨hz, hTI, ⟨x0, y0, z0, hTO⟩, h1, h2, h3⟩ := st
    obtain ⟨xs, ys, zs, hqx, hqy, hqz, hend⟩ := hg
    obtain ⟨its, rv, p, _⟩ := I.list hqx
    obtain ⟨its2, rv2, p2, _⟩ := I.list hqy
    obtain ⟨its3, rv3, p3, _⟩ := I.list hqz
    have l1 := rv.length
    have l2 := rv2.length
    have l3 := rv3.length
    have hh : X.A.in1.handled = none := I.ok.hd hc
    have S := zip_sep3 (N := N) (fp1 := [a]) (fp2 := [b]) (fp3 := [c]) (fun x hx => by rw [List.mem_singleton.mp hx]; exact la) (fun x hx => by rw [List.mem_singleton.mp hx]; exact lb) (fun x hx => by rw [List.mem_singleton.mp hx]; exact lc)
    have D1 := draws_listX (prog := X.prog) (w := X.w) hh N a (Nat.ne_of_lt la) its.toArray (max i its.length) (by simp; omega)
    have D2 := draws_listX (prog := X.prog) (w := X.w) hh (N + 1) b (show b ≠ N + 1 from Nat.ne_of_lt (Nat.lt_succ_of_lt lb)) its2.toArray (max i its2.length) (by simp; omega)
    have D3 := draws_listX (prog := X.prog) (w := X.w) hh (N + 2) c (show c ≠ N + 2 from Nat.ne_of_lt (Nat.lt_succ_of_lt (Nat.lt_succ_of_lt lc))) its3.toArray (max i its3.length) (by simp; omega)
    exact wpAny_pyNext_zipD3_end S D1 D2 D3 hz hTI hTO ⟨h1, p.isList, by simp; omega⟩ ⟨h2, p2.isList, by simp; omega⟩ ⟨h3, p3.isList, by simp; omega⟩ (by omega) (by omega) (by omega) (by omega) fun h' tk hk => ⟨rfl, I.turnedL (t' := tk) (ch := [N + 5, N + 3, N + 4, N, N + 1, N + 2]) (fun c o hb q =>
      hk c o (fun q' => hb (by simp [q'])) (fun q' => hb (by simp [q'])) (fun q' => hb (by simp [q'])) (fun q' => hb (by simp [q'])) (fun q' => hb (by simp [q'])) q) hf⟩
  self := fun A i s Q E st h => wpAny_pyIter_zip st.1 h
def iZip3 (K : PySem.W.Frag) (ta : TA) : TI := fun σ H R => ta σ H fun vs H1 => ∃ a b c xs ys zs, vs = [.ref a, .ref b, .ref c] ∧ SqL K H1 a xs ∧ SqL K H1 b ys ∧ SqL K H1 c zs ∧ R (Itz3 K a b c) H1
theorem pi_zip3 {X : Cx} {e e2 e3 : Expr} {ta : TA} {p pos tpos : Pos} {elts : List Expr} {kk : Nat} (hg : Gl X "zip") (hm : X.mg "zip" = none) (ha : PA X [e, e2, e3] ta)
    (hs : starEach [e, e2, e3] X.env = (false, eval e X.env) :: starEach [e2, e3] X.env := by rfl) (hpl : (backTo pos (starEach [e2, e3] X.env)).any (·.1) = false := by rfl) :
    PI X (.Tuple elts kk tpos) (.Call (.Name "zip" p) [e, e2, e3] [] pos) (iZip3 X.K ta) := by
  refine ⟨fun pins s σ H R I h => ?_⟩
  refine Call_ (ld_blt I hg hm PyProof.Rows.boot_zip (PyProof.Rows.callWith_type1 (thn (ha.run pos pins s σ H _ I h) fun us s1 ⟨vs, H1, I1, r1, q1⟩ => ?_) hs hpl))
  obtain ⟨a, b, c, xs, ys, zs, ex, hqx, hqy, hqz, q⟩ := q1
  subst ex
  cases r1 with
  | cons r rr =>
    cases rr with
    | cons r' rr =>
      cases rr with
      | cons r'' rr =>
        cases rr
        cases r
        cases r'
        cases r''
        obtain ⟨its, rv, p1, _⟩ := I1.list hqx
        obtain ⟨its2, rv2, p2, _⟩ := I1.list hqy
        obtain ⟨its3, rv3, p3, _⟩ := I1.list hqz
        refine zip_begins3 (begins_list a its.toArray) (begins_list b its2.toArray) (begins_list c its3.toArray) p1.isList p2.isList p3.isList fun h' hz hTI hTO h1 h2 h3 hsz hk => wpAny_pyIter_zip hz ?_
        have I2 : Inv X pins σ H1 { s1 with heap := h' } := I1.kept (t' := s1.toks) hk
        refine ⟨s1.heap.objs.size + 5, [s1.heap.objs.size + 5, s1.heap.objs.size + 3, s1.heap.objs.size + 4, s1.heap.objs.size, s1.heap.objs.size + 1, s1.heap.objs.size + 2], _, _, H1, rfl, I2, turn_zip3 p1.lt p2.lt p3.lt, ⟨hz, hTI, ⟨_, _, _, hTO⟩, ⟨_, h1, rfl, rfl⟩, ⟨_, h2, rfl, rfl⟩, ⟨_, h3, rfl, rfl⟩⟩, fun d hcm => ?_, q⟩
        have e' : d = s1.heap.objs.size + 5 ∨ d = s1.heap.objs.size + 3 ∨ d = s1.heap.objs.size + 4 ∨ d = s1.heap.objs.size ∨ d = s1.heap.objs.size + 1 ∨ d = s1.heap.objs.size + 2 := by simpa using hcm
        have hle : s1.heap.objs.size ≤ d := by
          rcases e' with z | z | z | z | z | z
          · rw [z]; exact Nat.le_add_right _ _
          · rw [z]; exact Nat.le_add_right _ _
          · rw [z]; exact Nat.le_add_right _ _
          · rw [z]; exact Nat.le_refl _
          · rw [z]; exact Nat.le_add_right _ _
          · rw [z]; exact Nat.le_add_right _ _
        exact I1.fpOk hle (I1.hok.fresh hle)
/-- three of three walked together -/
def threes : List D → List D → List D → List D
  | x :: xs, y :: ys, z :: zs => .tup [x, y, z] :: threes xs ys zs
  | _, _, _ => []
theorem threes_len : ∀ {xs ys zs : List D}, (threes xs ys zs).length = min (min xs.length ys.length) zs.length
  | [], _, _ => by simp [threes]
  | _ :: _, [], _ => by simp [threes]
  | _ :: _, _ :: _, [] => by simp [threes]
  | x :: xs, y :: ys, z :: zs => by
    simp only [threes, List.length_cons]
    rw [threes_len]
    omega
theorem threes_get : ∀ {xs ys zs : List D} {i : Nat} {d : D}, (threes xs ys zs)[i]? = some d → ∃ x y z, xs[i]? = some x ∧ ys[i]? = some y ∧ zs[i]? = some z ∧ d = .tup [x, y, z]
  | [], _, _, i, d, h => by simp [threes] at h
  | _ :: _, [], _, i, d, h => by simp [threes] at h
  | _ :: _, _ :: _, [], i, d, h => by simp [threes] at h
  | x :: xs, y :: ys, z :: zs, 0, d, h => by
    simp [threes] at h
    exact ⟨x, y, z, rfl, rfl, rfl, h.symm⟩
  | x :: xs, y :: ys, z :: zs, i + 1, d, h => by
    simp only [threes, List.getElem?_cons_succ] at h
    obtain ⟨a, b, c, h1, h2, h3, h4⟩ := threes_get h
    exact ⟨a, b, c, by simpa using h1, by simpa using h2, by simpa using h3, h4⟩
theorem walks_z3 {g : G} {q : List Addr} {H : Hp} {m n o : Nat} {a b c : Addr} {ds es fs : List D} {ck : Chk} (qa : q[m]? = some a) (qb : q[n]? = some b) (qc : q[o]? = some c) (hc : ∀ st', ChkOk ck st' → listAt st' m = some ds ∧ listAt st' n = some es ∧ listAt st' o = some fs) : Walks g (Itz3 g.K a b c) q H (threes ds es fs, ck) := by
  intro i q' H' st' e rs ok
  obtain ⟨ha, hb, hd⟩ := hc st' ok
  obtain ⟨a', xs, qa', ha', r⟩ := rs.listAt ha
  obtain ⟨b', ys, qb', hb', r'⟩ := rs.listAt hb
  obtain ⟨c', zs, qc', hc', r''⟩ := rs.listAt hd
  rw [e.at qa] at qa'; cases qa'
  rw [e.at qb] at qb'; cases qb'
  rw [e.at qc] at qc'; cases qc'
  refine ⟨fun hi => ⟨xs, ys, zs, ha', hb', hc', ?_⟩, fun d hd => ?_⟩
  · have hi : (threes ds es fs).length ≤ i := hi
    rw [threes_len] at hi
    rw [r.length, r'.length, r''.length]
    omega
  · obtain ⟨x, y, z, h1, h2, h3, rfl⟩ := threes_get hd
    obtain ⟨u, hu, ru⟩ := r.get h1
    obtain ⟨v, hv, rv⟩ := r'.get h2
    obtain ⟨w, hw, rw'⟩ := r''.get h3
    refine ⟨⟨xs, ys, zs, u, v, w, ha', hb', hc', hu, hv, hw⟩, fun p H2 ⟨T, x1, y1, z1, hz, nT, h3, h4, h5, h6⟩ => ?_⟩
    subst hz h3
    have e1 := h4 xs ha'
    rw [hu] at e1; cases e1
    have e2 := h5 ys hb'
    rw [hv] at e2; cases e2
    have e3 := h6 zs hc'
    rw [hw] at e3; cases e3
    exact tup_new rs nT (.cons ru (.cons rv (.cons rw' .nil)))
def zip3D : List D → Sto → R (List D × Chk)
  | [.ref m, .ref n, .ref o], st => match listAt st m, listAt st n, listAt st o with
    | some ds, some es, some fs => .ok (threes ds es fs, chkAt st m ++ (chkAt st n ++ chkAt st o)) st
    | _, _, _ => .bad
  | _, _ => .bad
theorem li_zip3 {tg e : Expr} {fa : AF} (h : PI X tg e (iZip3 X.K (LA (gOf B X) E fa))) : PI X tg e (LI (gOf B X) E (itA zip3D fa)) :=
  h.imp fun sg H RR w => itA_le w fun q st ds vs H rs rd p => by
    unfold zip3D at p
    split at p
    · split at p
      · rename_i ds es fs e1 e2 e3
        obtain ⟨v, u, t, rfl, r, r', r''⟩ := rd.three_inv
        obtain ⟨a, xs, qa, ha, _⟩ := rs.listAt e1
        obtain ⟨b, ys, qb, hb, _⟩ := rs.listAt e2
        obtain ⟨c, zs, qc, hc, _⟩ := rs.listAt e3
        obtain ⟨a', rfl, qa'⟩ := r.ref_inv
        obtain ⟨b', rfl, qb'⟩ := r'.ref_inv
        obtain ⟨c', rfl, qc'⟩ := r''.ref_inv
        rw [qa] at qa'; cases qa'
        rw [qb] at qb'; cases qb'
        rw [qc] at qc'; cases qc'
        exact ⟨a, b, c, xs, ys, zs, rfl, ha, hb, hc, p q H _ Ext.refl rs (walks_z3 qa qb qc fun st' ok => ⟨chkAt_list e1 fun z hz => ok z (List.mem_append_left _ hz), chkAt_list e2 fun z hz => ok z (List.mem_append_right _ (List.mem_append_left _ hz)), chkAt_list e3 fun z hz => ok z (List.mem_append_right _ (List.mem_append_right _ hz))⟩)⟩
      · exact False.elim p
    · exact False.elim p
/-- what the proof never comes to -/
def badF : EF := fun _ _ => .bad
def badS : SF := fun _ _ => .bad
theorem le_bad {e : Expr} {E : XK} : PE X e (LE (gOf B X) E badF) := ⟨fun pins s σ H Q I w => by
  obtain ⟨q, env, st, rs, re, pp⟩ := w
  exact False.elim pp⟩
theorem ls_bad {s : Stmt} {E : XK} : PS X s (LS (gOf B X) E badS) := ⟨fun pins s σ H Q I w => by
  obtain ⟨q, env, st, rs, re, pp⟩ := w
  exact False.elim pp⟩
end
end VL

/-! VLY: names of the module, dicts by texts and intsO, text operations, sum, extend. -/
namespace VL
open PySem PySem.Spec PyProof.Rows L2 LamX NdefX
variable {B : Tb}
section
variable {X : Cx} {E : XK}
/-! ### a constant of the module -/
theorem le_gc {x : Str} {pos : Pos} {v : V} {d : D} (hg : Gl X x) (h : ∃ u, X.mg x = some u ∧ RelV v u) (r : ∀ q H, RD (gOf B X) q H v d) (hd : (x == ("__debug__" : Str)) = false := by decide) : PE X (.Name x pos) (LE (gOf B X) E (cF d)) := by
  obtain ⟨u, hm, ru⟩ := h
  exact le_c (pe_glob hg hm ru hd) r
/-! ### a truth is a truth -/
def isB (neg : Bool) : D → D → Sto → R D
  | .bl a, .bl b, st => .ok (.bl (if neg then !decide (a = b) else decide (a = b))) st
  | _, _, _ => .bad
theorem op_isBD : OpR X (compareOp .Is) (LR (gOf B X) E (isB false)) := op_is_bl.imp fun x y H Q w => by
  obtain ⟨q, st, a, b, rs, ra, rb, p⟩ := w
  unfold isB at p
  split at p
  · exact ⟨_, _, ra.bl_inv, rb.bl_inv, p q _ H Ext.refl rs (.bl _)⟩
  · exact False.elim p
theorem op_isnotBD : OpR X (compareOp .IsNot) (LR (gOf B X) E (isB true)) := op_isnot_bl.imp fun x y H Q w => by
  obtain ⟨q, st, a, b, rs, ra, rb, p⟩ := w
  unfold isB at p
  split at p
  · exact ⟨_, _, ra.bl_inv, rb.bl_inv, p q _ H Ext.refl rs (.bl _)⟩
  · exact False.elim p
/-! ### a sign in a text -/
def sgn : Str → Option Nat := fun x => match x.cps.toList with
  | [c] => some c
  | _ => none
def inTx (neg : Bool) : D → D → Sto → R D
  | .str x, .str z, st => match sgn x with
    | some c => .ok (.bl (if neg then !decide (c ∈ z.cps.toList) else decide (c ∈ z.cps.toList))) st
    | none => .bad
  | _, _, _ => .bad
theorem sgn_eq {x : Str} {c : Nat} (h : sgn x = some c) : x = ⟨#[c]⟩ := by
  unfold sgn at h
  split at h
  · rename_i d e
    cases h
    cases x with
    | mk a => cases a with | mk l => cases e; rfl
  · cases h
theorem op_inTxD : OpR X (compareOp .In) (LR (gOf B X) E (inTx false)) := op_in_sign.imp fun x y H Q w => by
  obtain ⟨q, st, a, b, rs, ra, rb, p⟩ := w
  unfold inTx at p
  split at p
  · split at p
    · rename_i h
      exact ⟨_, _, by rw [ra.str_inv, sgn_eq h], rb.str_inv, p q _ H Ext.refl rs (.bl _)⟩
    · exact False.elim p
  · exact False.elim p
/-! ### extend -/
def extD : D → List D → Sto → R D
  | .ref n, [.ref m], st => match st[n]?, st[m]? with
    | some (.lst xs), some (.lst ys) => if xs.length + ys.length ≤ sizeLine then .ok .non (st.set n (.lst (xs ++ ys))) else .bad
    | _, _ => .bad
  | _, _, _ => .bad
theorem mt_extD : MtR X "list.extend" (LM (gOf B X) E extD) := MtR.imp mt_extend fun x vs H Q w => by
  obtain ⟨q, st, d, ds, rs, rx, rd, p⟩ := w
  unfold extD at p
  split at p
  · split at p
    · rename_i xs ys h1 h2
      split at p
      · rename_i hz
        obtain ⟨a, rfl, qa⟩ := rx.ref_inv
        obtain ⟨v, rfl, rv⟩ := rd.one_inv
        obtain ⟨b, rfl, qb⟩ := rv.ref_inv
        obtain ⟨a', us, qa', ha, ru⟩ := rs.lstAt h1
        rw [qa] at qa'; cases qa'
        obtain ⟨b', ws, qb', hb, rw'⟩ := rs.lstAt h2
        rw [qb] at qb'; cases qb'
        obtain ⟨rs2, e2⟩ := lst_put rs h1 qa ha (ru.append rw')
        exact ⟨a, b, us, ws, rfl, rfl, ha, hb, by rw [ru.length, rw'.length]; exact hz, p q _ _ e2 rs2 .non⟩
      · exact False.elim p
    · exact False.elim p
  · exact False.elim p
/-! ### sum of intsO -/
def intsO : List D → Option (List Int)
  | [] => some []
  | .int i :: r => (intsO r).map fun is => i :: is
  | _ => none
theorem ints_map : ∀ ns : List Int, intsO (ns.map D.int) = some ns
  | [] => rfl
  | n :: ns => by rw [List.map_cons, intsO, ints_map ns]; rfl
theorem RDs.ints_ {g : G} {q : List Addr} {H : Hp} : ∀ {vs : List V} {ds : List D} {is : List Int}, RDs g q H vs ds → intsO ds = some is → vs = is.map V.int
  | _, _, _, .nil, h => by cases h; rfl
  | v :: vs, d :: ds, is, .cons r t, h => by
    cases d with
    | int i =>
      obtain ⟨js, h1, rfl⟩ := Option.map_eq_some_iff.mp (show (intsO ds).map (fun is => i :: is) = some is from h)
      rw [r.int_inv, RDs.ints_ t h1]
      rfl
    | _ => cases h
def sumD : List D → Sto → R D
  | [.ref n], st => match (listAt st n).bind intsO with
    | some is => .ok (.int is.sum) st
    | none => .bad
  | _, _ => .bad
theorem call_sumD (hc : X.calm = true) : CallR X (.builtin "sum") (LC (gOf B X) E sumD) := (cr_sum hc).imp fun vs H Q w => by
  obtain ⟨q, st, ds, rs, rd, p⟩ := w
  unfold sumD at p
  split at p
  · split at p
    · rename_i is h
      obtain ⟨xs, h1, h2⟩ := Option.bind_eq_some_iff.mp h
      obtain ⟨v, rfl, r⟩ := rd.one_inv
      obtain ⟨a, rfl, qa⟩ := r.ref_inv
      obtain ⟨b, us, qb, hs, ru⟩ := rs.listAt h1
      rw [qa] at qb; cases qb
      refine ⟨a, is, rfl, ?_, p q _ H Ext.refl rs (.int _)⟩
      rw [← ru.ints_ h2]; exact hs
    · exact False.elim p
  · exact False.elim p
/-! ### texts joined; a text times an int -/
def strsO : List D → Option (List Str)
  | [] => some []
  | .str i :: r => (strsO r).map fun is => i :: is
  | _ => none
theorem strs_map : ∀ ns : List Str, strsO (ns.map D.str) = some ns
  | [] => rfl
  | n :: ns => by rw [List.map_cons, strsO, strs_map ns]; rfl
theorem RDs.strs_ {g : G} {q : List Addr} {H : Hp} : ∀ {vs : List V} {ds : List D} {is : List Str}, RDs g q H vs ds → strsO ds = some is → vs = is.map V.str
  | _, _, _, .nil, h => by cases h; rfl
  | v :: vs, d :: ds, is, .cons r t, h => by
    cases d with
    | str i =>
      obtain ⟨js, h1, rfl⟩ := Option.map_eq_some_iff.mp (show (strsO ds).map (fun is => i :: is) = some is from h)
      rw [r.str_inv, RDs.strs_ t h1]
      rfl
    | _ => cases h
def joinD : D → List D → Sto → R D
  | .str a, [.ref n], st => match (listAt st n).bind strsO with
    | some ys => if (ys.map (·.length)).sum + ys.length * a.length ≤ 16777216 then .ok (.str (Txt.join a ys)) st else .bad
    | none => .bad
  | _, _, _ => .bad
theorem mt_joinD : MtR X "str.join" (LM (gOf B X) E joinD) := MtR.imp mt_join fun x vs H Q w => by
  obtain ⟨q, st, d, ds, rs, rx, rd, p⟩ := w
  unfold joinD at p
  split at p
  · split at p
    · rename_i ys h
      split at p
      · rename_i hz
        obtain ⟨xs, h1, h2⟩ := Option.bind_eq_some_iff.mp h
        obtain ⟨v, rfl, r⟩ := rd.one_inv
        obtain ⟨b, rfl, qb⟩ := r.ref_inv
        obtain ⟨b', us, qb', hs, ru⟩ := rs.listAt h1
        rw [qb] at qb'; cases qb'
        refine ⟨_, b, ys, rx.str_inv, rfl, .inl ?_, hz, p q _ H Ext.refl rs (.str _)⟩
        rw [← ru.strs_ h2]; exact hs
      · exact False.elim p
    · exact False.elim p
  · exact False.elim p
theorem fold_size (a : Array Nat) : ∀ (n : Nat) (acc : Array Nat), ((List.replicate n a).foldl (· ++ ·) acc).size = acc.size + n * a.size
  | 0, acc => by simp
  | n + 1, acc => by
    rw [List.replicate_succ, List.foldl_cons, fold_size a n, Array.size_append, Nat.add_mul]
    omega
def timesS (x : Str) (n : Nat) : Str := if n = 1 ∨ x.length = 0 then x else ⟨(List.replicate n x.cps).foldl (· ++ ·) #[]⟩
def mulTx : D → D → Sto → R D
  | .str x, .int n, st => if 1 ≤ n ∧ n ≤ 1000 ∧ x.length ≤ 1000 then .ok (.str (timesS x n.toNat)) st else .bad
  | _, _, _ => .bad
theorem op_mulTx : OpR X (binaryOp .Mult) (LR (gOf B X) E mulTx) := fun pins s sg H x y v u Q I rx ry w => by
  obtain ⟨q, st, a, b, rs, ra, rb, p⟩ := w
  unfold mulTx at p
  split at p
  · rename_i z n
    split at p
    · rename_i hz
      have e1 := ra.str_inv
      have e2 := rb.int_inv
      subst e1 e2
      obtain ⟨t, rfl⟩ := rx
      obtain ⟨t2, rfl⟩ := ry
      have hn : ¬ n < 1 := by omega
      refine PySem.P.mul_str (by
        rw [decide_eq_false (by omega : ¬ n < -(2 ^ 63 : Int)), decide_eq_false (by omega : ¬ n ≥ 2 ^ 63)]; rfl) (fun _ _ h => ?_) (fun _ _ => ?_) ?_
      · have h1 : (1001 : Int) ≤ (2 ^ 63 - 1) / n := by
          rw [Int.le_ediv_iff_mul_le (by omega)]
          omega
        have h2 : (z.length : Int) ≤ 1000 := by omega
        omega
      · have h1 : z.length * n.toNat ≤ 1000 * 1000 := Nat.mul_le_mul hz.2.2 (by omega)
        have h2 : (sizeLine : Nat) = 16777216 := by decide
        unfold Builtin.Str.tooLong
        exact decide_eq_false (by omega)
      · rw [if_neg hn]
        by_cases h1 : n.toNat = 1 ∨ z.length = 0
        · have e : (n == 1 || z.length == 0) = true := by
            rcases h1 with h1 | h1
            · have : n = 1 := by omega
              subst this; rfl
            · simp [h1]
          rw [e, if_pos rfl]
          have e2 : timesS z n.toNat = z := if_pos h1
          rw [e2] at p
          exact ⟨.str z, H, I, ⟨_, rfl⟩, p q _ H Ext.refl rs (.str _)⟩
        · have e : (n == 1 || z.length == 0) = false := by
            rw [Bool.or_eq_false_iff]
            exact ⟨by simp; omega, by simp; intro h; exact h1 (.inr (by rw [h]))⟩
          rw [e, if_neg Bool.false_ne_true]
          have e2 : timesS z n.toNat = ⟨(List.replicate n.toNat z.cps).foldl (· ++ ·) #[]⟩ := if_neg h1
          rw [e2] at p
          refine ⟨?_, .str _, H, I.tok _, ⟨_, rfl⟩, p q _ H Ext.refl rs (.str _)⟩
          show ((List.replicate n.toNat z.cps).foldl (· ++ ·) #[]).size ≤ sizeLine
          rw [fold_size]
          have h3 : n.toNat * z.cps.size ≤ 1000 * 1000 := Nat.mul_le_mul (by omega) hz.2.2
          have h2 : (sizeLine : Nat) = 16777216 := by decide
          simp only [List.size_toArray, List.length_nil]
          omega
    · exact False.elim p
  · exact False.elim p
/-! ### dicts whose keys are texts and ints -/
def isKD : D → Bool
  | .int _ => true
  | .str _ => true
  | _ => false
def keyQ : D → D → Bool
  | .int a, .int b => decide (a = b)
  | .str a, .str b => decide (a = b)
  | _, _ => false
theorem keyQ_dK (a b : Key) : keyQ (dK a) (dK b) = decide (a = b) := by
  cases a <;> cases b <;> simp [dK, keyQ]
theorem isKD_of_dK {k : Key} : isKD (dK k) = true := by cases k <;> rfl
theorem isKD_of {g : G} {q : List Addr} {H : Hp} {v : V} {d : D} (r : RD g q H v d) (h : isKD d = true) : ∃ k, d = dK k ∧ v = kV k := by
  cases r with
  | int i => exact ⟨.inl i, rfl, rfl⟩
  | str x => exact ⟨.inr x, rfl, rfl⟩
  | _ => cases h
def dget (kvs : List (D × D)) (k : D) : Option D := (kvs.find? fun p => keyQ p.1 k).map (·.2)
def dput (kvs : List (D × D)) (k v : D) : List (D × D) := if (kvs.any fun p => keyQ p.1 k) = true then kvs.map (fun p => if keyQ p.1 k = true then (p.1, v) else p) else kvs ++ [(k, v)]
def keysOk (kvs : List (D × D)) : Bool := kvs.all fun p => isKD p.1
abbrev PK (g : G) (q : List Addr) (H : Hp) : D × D → Key × V → Prop := fun p x => p.1 = dK x.1 ∧ RD g q H x.2 p.2
theorem dget_val {g : G} {q : List Addr} {H : Hp} (k : Key) {kvs : List (D × D)} {gs : List (Key × V)} (h : Paired (PK g q H) kvs gs) :
    (∀ d, dget kvs (dK k) = some d → ∃ v, valV gs k = some v ∧ RD g q H v d) ∧ (dget kvs (dK k) = none → valV gs k = none) := by
  induction h with
  | nil => exact ⟨fun d e => (nomatch (show (none : Option D) = some d from e)), fun _ => rfl⟩
  | @cons p x ps xs hp _ ih =>
    obtain ⟨h1, h2⟩ := hp
    have hq : keyQ p.1 (dK k) = decide (x.1 = k) := by rw [h1, keyQ_dK]
    unfold dget at ih ⊢
    rw [List.find?_cons, hq]
    by_cases e : x.1 = k
    · rw [decide_eq_true e]
      exact ⟨fun d ed => by cases ed; exact ⟨x.2, valV_pos e, h2⟩, fun ed => by cases ed⟩
    · rw [decide_eq_false e, valV_neg e]
      exact ih
theorem paired_map {A B C D' : Type} {F : A → B → Prop} {F' : C → D' → Prop} {f : A → C} {g : B → D'} (h : ∀ a b, F a b → F' (f a) (g b)) : ∀ {l : List A} {m : List B}, Paired F l m → Paired F' (l.map f) (m.map g)
  | _, _, .nil => .nil
  | _, _, .cons a t => .cons (h _ _ a) (paired_map h t)
theorem any_key {g : G} {q : List Addr} {H : Hp} (k : Key) {kvs : List (D × D)} {gs : List (Key × V)} (h : Paired (PK g q H) kvs gs) : (kvs.any fun p => keyQ p.1 (dK k)) = gs.any fun x => decide (x.1 = k) := by
  induction h with
  | nil => rfl
  | @cons p x ps xs hp _ ih => rw [List.any_cons, List.any_cons, ih, hp.1, keyQ_dK]
theorem dput_val {g : G} {q : List Addr} {H : Hp} {k : Key} {v : V} {d : D} (r : RD g q H v d) {kvs : List (D × D)} {gs : List (Key × V)} (h : Paired (PK g q H) kvs gs) : Paired (PK g q H) (dput kvs (dK k) d) (putK gs k v) := by
  unfold dput putK
  rw [any_key k h]
  by_cases e : (gs.any fun x => decide (x.1 = k)) = true
  · rw [if_pos e, if_pos e]
    refine paired_map (fun p x hp => ?_) h
    obtain ⟨h1, h2⟩ := hp
    have hq : keyQ p.1 (dK k) = decide (x.1 = k) := by rw [h1, keyQ_dK]
    rw [hq]
    by_cases e2 : x.1 = k
    · rw [decide_eq_true e2, if_pos rfl, if_pos e2]; exact ⟨h1, r⟩
    · rw [decide_eq_false e2, if_neg Bool.false_ne_true, if_neg e2]; exact ⟨h1, h2⟩
  · rw [if_neg e, if_neg e]
    exact Paired.app h (.cons ⟨rfl, r⟩ .nil)
theorem RS.dicK {g : G} {q : List Addr} {H : Hp} {st : Sto} (rs : RS g q H st) {n : Nat} {kvs : List (D × D)} (h : st[n]? = some (.dic kvs)) (hk : keysOk kvs = true) : ∃ a gs, q[n]? = some a ∧ H a = some (.dK gs) ∧ Paired (PK g q H) kvs gs := by
  obtain ⟨a, qa, ro⟩ := rs.get h
  rcases ro with ⟨gs, h1, h2⟩ | ⟨⟨hn, _⟩, xs, _, hp⟩
  · exact ⟨a, gs, qa, h1, h2⟩
  · cases hp with
    | nil => exact absurd rfl hn
    | @cons p x ps xs hp t =>
      unfold keysOk at hk
      rw [List.all_cons, Bool.and_eq_true] at hk
      obtain ⟨k, _, e⟩ := isKD_of hp.2.2.1 hk.1
      cases k <;> cases e
/-- d[k] -/
def dixD : D → D → Sto → R D
  | .ref n, k, st => match st[n]? with
    | some (.dic kvs) => if (keysOk kvs && isKD k) = true then (match dget kvs k with
      | some d => .ok d st
      | none => .bad) else .bad
    | _ => .bad
  | _, _, _ => .bad
variable {a o i e value : Expr} {fa fb fc : EF} {pos pos' : Pos}
theorem le_dix (hu : X.A.units + 1 < cLine) (ha : PE X o (LE (gOf B X) E fa)) (hb : PE X i (LE (gOf B X) E fb)) (hs : NoSl i) : PE X (.Subscript o i pos) (LE (gOf B X) E (opF dixD fa fb)) := (pe_dget hu ha hb hs).imp fun sg H Q w => by
  obtain ⟨q, env, st, rs, re, p⟩ := w
  refine LE.chain rs re (R.post_bind.mp p) fun x s1 q1 v H1 p e1 rs1 re1 rx => ?_
  refine LE.chain rs1 re1 ((R.post_bind.mp p).imp (fun _ _ h => h) fun _ _ h => h.ext e1) fun y s2 q2 u H2 p e2 rs2 re2 ry => ?_
  unfold dixD at p
  split at p
  · split at p
    · rename_i kvs hk
      split at p
      · rename_i hok
        rw [Bool.and_eq_true] at hok
        obtain ⟨a', rfl, qa⟩ := (rx.ext e2).ref_inv
        obtain ⟨b, gs, qb, hb, hp⟩ := rs2.dicK hk hok.1
        rw [qa] at qb; cases qb
        obtain ⟨k, rfl, rfl⟩ := isKD_of ry hok.2
        split at p
        · rename_i d hd
          obtain ⟨w, hw, rw'⟩ := (dget_val k hp).1 d hd
          exact ⟨a', w, rfl, .inl ⟨gs, k, .inl hb, rfl, hw.symm⟩, p q2 w H2 (e1.trans e2) rs2 rw'⟩
        · exact False.elim p
      · exact False.elim p
    · exact False.elim p
  · exact False.elim p
/-- k in d -/
def dinD (neg : Bool) : D → D → Sto → R D
  | k, .ref n, st => match st[n]? with
    | some (.dic kvs) => if (keysOk kvs && isKD k) = true then .ok (.bl (if neg then !(dget kvs k).isSome else (dget kvs k).isSome)) st else .bad
    | _ => .bad
  | _, _, _ => .bad
theorem din_le {neg : Bool} {sg : L2.St} {H : Hp} {Q : VK} (w : LE (gOf B X) E (opF (dinD neg) fa fb) sg H Q) : LE (gOf B X) E fa sg H fun y H1 => LE (gOf B X) E fb sg H1 fun x H2 => ∃ a o, x = .ref a ∧ DGet H2 a y o ∧ Q (.bl (if neg then !o.isSome else o.isSome)) H2 := by
  obtain ⟨q, env, st, rs, re, p⟩ := w
  refine LE.chain rs re (R.post_bind.mp p) fun x s1 q1 v H1 p e1 rs1 re1 rx => ?_
  refine LE.chain rs1 re1 ((R.post_bind.mp p).imp (fun _ _ h => h) fun _ _ h => h.ext e1) fun y s2 q2 u H2 p e2 rs2 re2 ry => ?_
  cases y with
  | ref n =>
    unfold dinD at p
    simp only at p
    split at p
    · rename_i kvs hk
      split at p
      · rename_i hok
        rw [Bool.and_eq_true] at hok
        obtain ⟨a', rfl, qa⟩ := ry.ref_inv
        obtain ⟨b, gs, qb, hb, hp⟩ := rs2.dicK hk hok.1
        rw [qa] at qb; cases qb
        obtain ⟨k, rfl, rfl⟩ := isKD_of rx hok.2
        have es : (dget kvs (dK k)).isSome = (valV gs k).isSome := by
          cases hd : dget kvs (dK k) with
          | some d => obtain ⟨w, hw, _⟩ := (dget_val k hp).1 d hd; rw [hw]; rfl
          | none => rw [(dget_val k hp).2 hd]; rfl
        rw [es] at p
        exact ⟨a', valV gs k, rfl, .inl ⟨gs, k, .inl hb, rfl, rfl⟩, p q2 _ H2 (e1.trans e2) rs2 (.bl _)⟩
      · exact False.elim p
    · exact False.elim p
  | _ => cases x <;> exact False.elim p
theorem lt_din (hu : X.A.units + 1 < cLine) (ha : PE X i (LE (gOf B X) E fa)) (hb : PE X o (LE (gOf B X) E fb)) (hm : behindInMarks .In o = false := by rfl) : PT X (.Compare i [.In] [o] pos) (LT (gOf B X) E (bF (opF (dinD false) fa fb))) :=
  (pt_cmp (pc_din hu ha hb) hm).imp fun _ _ _ w => din_le (neg := false) (bool_le w)
theorem lt_dnotin (hu : X.A.units + 1 < cLine) (ha : PE X i (LE (gOf B X) E fa)) (hb : PE X o (LE (gOf B X) E fb)) (hm : behindInMarks .NotIn o = false := by rfl) : PT X (.Compare i [.NotIn] [o] pos) (LT (gOf B X) E (bF (opF (dinD true) fa fb))) :=
  (pt_cmp (pc_dnotin hu ha hb) hm).imp fun _ _ _ w => din_le (neg := true) (bool_le w)
/-- d.get(k, x) -/
def dgetF (fa fb fc : EF) : EF := fun env st => (fa env st).bind fun o s1 => match o, s1 with
  | .ref n, s1 => (match s1[n]? with
    | some (.dic kvs) => if keysOk kvs = true then (fb env s1).bind fun k s2 => (fc env s2).bind fun z s3 => (match s3[n]? with
      | some (.dic kvs') => if (keysOk kvs' && isKD k) = true then .ok ((dget kvs' k).getD z) s3 else .bad
      | _ => .bad) else .bad
    | _ => .bad)
  | _, _ => .bad
theorem le_dget2 {f : Expr} {apos cpos : Pos} (hu : X.A.units + 1 < cLine) (ha : PE X o (LE (gOf B X) E fa)) (hb : PE X e (LE (gOf B X) E fb)) (hc : PE X f (LE (gOf B X) E fc)) (m : M2 X o "get" apos e f cpos) : PE X (.Call (.Attribute o "get" apos) [e, f] [] cpos) (LE (gOf B X) E (dgetF fa fb fc)) := (pe_dget2 hu ha hb hc m).imp fun sg H Q w => by
  obtain ⟨q, env, st, rs, re, p⟩ := w
  refine LE.chain rs re (R.post_bind.mp p) fun x s1 q1 v H1 p e1 rs1 re1 rx => ?_
  cases x with
  | ref n =>
    simp only at p
    split at p
    · rename_i kvs hk
      split at p
      · rename_i hok
        obtain ⟨a', rfl, qa⟩ := rx.ref_inv
        obtain ⟨b, gs, qb, hb, _⟩ := rs1.dicK hk hok
        rw [qa] at qb; cases qb
        refine ⟨a', rfl, .inl ⟨gs, .inl hb⟩, ?_⟩
        refine LE.chain rs1 re1 ((R.post_bind.mp p).imp (fun _ _ h => h) fun _ _ h => h.ext e1) fun y s2 q2 u H2 p e2 rs2 re2 ry => ?_
        refine LE.chain rs2 re2 ((R.post_bind.mp p).imp (fun _ _ h => h) fun _ _ h => h.ext (e1.trans e2)) fun z s3 q3 t H3 p e3 rs3 re3 rz => ?_
        split at p
        · rename_i kvs' hk'
          split at p
          · rename_i hok'
            rw [Bool.and_eq_true] at hok'
            obtain ⟨b, gs', qb, hb', hp'⟩ := rs3.dicK hk' hok'.1
            rw [e3.at (e2.at qa)] at qb; cases qb
            obtain ⟨k, rfl, rfl⟩ := isKD_of ry hok'.2
            refine ⟨valV gs' k, .inl ⟨gs', k, .inl hb', rfl, rfl⟩, ?_⟩
            cases hd : dget kvs' (dK k) with
            | some d =>
              obtain ⟨w, hw, rw'⟩ := (dget_val k hp').1 d hd
              rw [hd] at p
              rw [hw]
              exact p q3 w H3 (e1.trans (e2.trans e3)) rs3 rw'
            | none =>
              rw [hd] at p
              rw [(dget_val k hp').2 hd]
              exact p q3 t H3 (e1.trans (e2.trans e3)) rs3 rz
          · exact False.elim p
        · exact False.elim p
      · exact False.elim p
    · exact False.elim p
  | _ => exact False.elim p
/-- d[k] = v -/
def dputS (fv fo fk : EF) : SF := fun env st => (fv env st).bind fun v s1 => (fo env s1).bind fun o s2 => (fk env s2).bind fun k s3 => match o with
  | .ref n => (match s3[n]? with
    | some (.dic kvs) => if (keysOk kvs && isKD k && decide (kvs.length < sizeLine)) = true then .ok (.nx env) (s3.set n (.dic (dput kvs k v))) else .bad
    | _ => .bad)
  | _ => .bad
theorem ls_dput (hu : X.A.units + 1 < cLine) (ha : PE X o (LE (gOf B X) E fa)) (hb : PE X i (LE (gOf B X) E fb)) (hc : PE X value (LE (gOf B X) E fc)) (hs : swapsWith value (some (.Subscript o i pos')) pos.line X.env = pure false := by rfl) :
    PS X (.Assign [.Subscript o i pos'] value pos) (LS (gOf B X) E (dputS fc fa fb)) := (ps_dput hu ha hb hc hs).imp fun T sg H w => by
  obtain ⟨q, env, st, rs, re, p⟩ := w
  refine LE.chain rs re (R.post_bind.mp p) fun vd s1 q1 v H1 p e1 rs1 re1 rv => ?_
  refine LE.chain rs1 re1 ((R.post_bind.mp p).imp (fun _ _ h => h) fun _ _ h => h.ext e1) fun od s2 q2 ov H2 p e2 rs2 re2 ro => ?_
  refine LE.chain rs2 re2 ((R.post_bind.mp p).imp (fun _ _ h => h) fun _ _ h => h.ext (e1.trans e2)) fun kd s3 q3 kv H3 p e3 rs3 re3 rk => ?_
  cases od with
  | ref n =>
    simp only at p
    split at p
    · rename_i kvs hk
      split at p
      · rename_i hok
        rw [Bool.and_eq_true, Bool.and_eq_true] at hok
        obtain ⟨a', rfl, qa⟩ := (ro.ext e3).ref_inv
        obtain ⟨b, gs, qb, hb, hp⟩ := rs3.dicK hk hok.1.1
        rw [qa] at qb; cases qb
        obtain ⟨k, rfl, rfl⟩ := isKD_of rk hok.1.2
        have hl : gs.length < sizeLine := by rw [← hp.length]; exact of_decide_eq_true hok.2
        have mu : Mut (H3 a') := by rw [hb]; trivial
        obtain ⟨rs4, e4⟩ := rs3.put' (u := .dK (putK gs k v)) (o := .dic (dput kvs (dK k) vd)) qa (fun zs e => by rw [hk] at e; cases e) mu (fun φ e => by rw [hb] at e; cases e) (fun ps e => by cases e) fun ext =>
          .inl ⟨_, upd_same, Paired.mapP (dput_val (rv.ext (e2.trans e3)) hp) fun p x z => ⟨z.1, z.2.ext ext⟩⟩
        exact ⟨a', _, rfl, .inl ⟨gs, k, hb, rfl, hl, rfl⟩, p q3 _ (e1.trans (e2.trans (e3.trans e4))) rs4 sg (re3.ext e4)⟩
      · exact False.elim p
    · exact False.elim p
  | _ => exact False.elim p
/-- dict(d) -/
def dictD : List D → Sto → R D
  | [.ref n], st => match st[n]? with
    | some (.dic kvs) => if keysOk kvs = true then newO (.dic kvs) st else .bad
    | _ => .bad
  | _, _ => .bad
theorem call_dictDD : CallR X (.type "dict") (LC (gOf B X) E dictD) := call_dictD.imp fun vs H Q w => by
  obtain ⟨q, st, ds, rs, rd, p⟩ := w
  unfold dictD at p
  split at p
  · split at p
    · rename_i kvs hk
      split at p
      · rename_i hok
        obtain ⟨v, rfl, r⟩ := rd.one_inv
        obtain ⟨a', rfl, qa⟩ := r.ref_inv
        obtain ⟨b, gs, qb, hb, hp⟩ := rs.dicK hk hok
        rw [qa] at qb; cases qb
        refine ⟨a', gs, rfl, .inl hb, fun u hu => ?_⟩
        have s := same_upd (o := HO.dK gs) hu
        have ex : Ext q H (q ++ [u]) (upd H u (.dK gs)) := Same.ext s hu
        have rs2 := rs.new (o := .dic kvs) hu (.inl ⟨gs, upd_same, Paired.mapP hp fun p x z => ⟨z.1, z.2.ext ex⟩⟩)
        refine p _ _ _ ex rs2 (.ref ?_)
        rw [← rs.len]; simp
      · exact False.elim p
    · exact False.elim p
  · exact False.elim p
/-! ### a, b = x, y -/
def parS (i j : Nat) (fa : AF) : SF := fun env st => (fa env st).bind fun xs s => match xs with
  | [x, y] => .ok (.nx ((env.set i (some x)).set j (some y))) s
  | _ => .bad
theorem ls_par {i j : Nat} {x y : Str} {a b : Expr} {px py pt : Pos} {kt k2 pt2} {fp : AF} (hc : X.calm = true) (hN : X.N.Nodup) (ha : PA X [a, b] (LA (gOf B X) E fp)) (hi : X.N[i]? = some x := by rfl) (hj : X.N[j]? = some y := by rfl) (hij : i ≠ j := by decide)
    (hx : X.env.scope.names.lookup x = some .local := by rfl) (hy : X.env.scope.names.lookup y = some .local := by rfl)
    (hw : swappedStores [.Tuple [.Name x px, .Name y py] kt pt] (.Tuple [a, b] k2 pt2) X.env = pure (some [x, y]) := by rfl)
    (hs : swapsWithSole [.Tuple [.Name x px, .Name y py] kt pt] (.Tuple [a, b] k2 pt2) pos.line X.env = pure false := by rfl) :
    PS X (.Assign [.Tuple [.Name x px, .Name y py] kt pt] (.Tuple [a, b] k2 pt2) pos) (LS (gOf B X) E (parS i j fp)) := (ps_par hc hN hi hj hij hx hy ha hw hs).imp fun T sg H w => by
  obtain ⟨q, env, st, rs, re, p⟩ := w
  refine LA.chain rs re (R.post_bind.mp p) fun xs s1 q1 vs H1 p e1 rs1 re1 rx => ?_
  match xs, p, rx with
  | [d1, d2], p, rx =>
    obtain ⟨v, w, rfl, r1, r2⟩ := rx.two_inv
    exact ⟨v, w, rfl, p q1 H1 e1 rs1 _ ((re1.set r1).set r2)⟩
  | [], p, _ => exact False.elim p
  | [_], p, _ => exact False.elim p
  | _ :: _ :: _ :: _, p, _ => exact False.elim p
/-! ### {k: v} -/
def disp1F (fk fv : EF) : EF := fun env st => (fk env (st ++ [.dic []])).bind fun k s1 => (fv env s1).bind fun v s2 => match s2[st.length]? with
  | some (.dic []) => if isKD k = true then .ok (.ref st.length) (s2.set st.length (.dic [(k, v)])) else .bad
  | _ => .bad
end
end VL

/-! VLZ: list(zip(a, b)) of two lists. -/
namespace VL
open PySem PySem.Spec PySem.W PyProof.Rows L2 LamX NdefX
/-- a turn of the walk: the list at N + 5, its pairs behind it -/
structure Zs (h0 h : Heap) (N a b : Addr) (xs ys : Array Value) (i : Nat) (acc : Array Value) (c : Nat) : Prop where
  zip : (IsZip h (N + 4) (N + 2) (N + 3) .none ∧ ∃ u v, IsPair h (N + 3) u v) ∨ ∃ T f oT, IsZipHeld h (N + 4) (N + 2) (N + 3) T f ∧ h.get? T = some oT ∧ N + 6 ≤ T
  TI : IsPair h (N + 2) (.ref N) (.ref (N + 1))
  it1 : h.IsListIter N a i
  it2 : h.IsListIter (N + 1) b i
  l1 : h.IsList a xs
  l2 : h.IsList b ys
  S : h.get? (N + 5) = some { cls := .type "list", dict := none, data := .seq acc c, slots := #[] }
  sz : acc.size = i
  tups : ∀ j : Nat, j < i → ∃ T x y, acc[j]? = some (Value.ref T) ∧ xs[j]? = some x ∧ ys[j]? = some y ∧ IsPair h T x y ∧ N + 6 ≤ T
  dist : ∀ (j k : Nat) (T : Addr), acc[j]? = some (Value.ref T) → acc[k]? = some (Value.ref T) → j = k
  old : ∀ b o, h0.get? b = some o → h.get? b = some o
/-- the end -/
structure Ze (h0 h : Heap) (N : Addr) (xs ys : Array Value) (acc : Array Value) (c : Nat) : Prop where
  S : h.get? (N + 5) = some { cls := .type "list", dict := none, data := .seq acc c, slots := #[] }
  sz : acc.size = min xs.size ys.size
  tups : ∀ j : Nat, j < min xs.size ys.size → ∃ T x y, acc[j]? = some (Value.ref T) ∧ xs[j]? = some x ∧ ys[j]? = some y ∧ IsPair h T x y ∧ N + 6 ≤ T
  dist : ∀ (j k : Nat) (T : Addr), acc[j]? = some (Value.ref T) → acc[k]? = some (Value.ref T) → j = k
  old : ∀ b o, h0.get? b = some o → h.get? b = some o
section
variable {prog : Program} {w : World} {A : Around} {s : Shared} {h0 : Heap} {N a b : Addr} {xs ys : Array Value}
theorem nz {i j : Nat} (h : i ≠ j) : (N + i : Nat) ≠ N + j := fun e => h (Nat.add_left_cancel e)
theorem lt_ne {c : Addr} (h : c < N) (i : Nat) : c ≠ N + i := Nat.ne_of_lt (Nat.lt_of_lt_of_le h (Nat.le_add_right _ _))
theorem zs_step {E : Value → Shared → Prop} {Q : Option Value → Shared → Prop} {i : Nat} {acc : Array Value} {c : Nat} (h0N : h0.objs.size = N) (la : a < N) (lb : b < N) (z : Zs h0 s.heap N a b xs ys i acc c) (h1 : i < xs.size) (h2 : i < ys.size)
    (q : ∀ h' T, h'.get? (N + 5) = some { cls := .type "list", dict := none, data := .seq acc c, slots := #[] } → (∀ h'', (∀ d o, d ≠ N + 5 → h'.get? d = some o → h''.get? d = some o) → ∀ c', h''.get? (N + 5) = some { cls := .type "list", dict := none, data := .seq (acc.push (.ref T)) c', slots := #[] } → Zs h0 h'' N a b xs ys (i + 1) (acc.push (.ref T)) c') → Q (some (Value.ref T)) { s with heap := h' }) :
    wpAny (model prog w) A (pyNext (.ref (N + 4))) Q E s := by
  have D := PySem.W.ktu_apart N a b la lb
  have hx : xs[i]? = some xs[i] := by simp [h1]
  have hy : ys[i]? = some ys[i] := by simp [h2]
  have hS := Heap.lt_size z.S
  have fin : ∀ h', (∃ T f oT, IsZipHeld h' (N + 4) (N + 2) (N + 3) T f ∧ h'.get? T = some oT ∧ N + 6 ≤ T) → h'.IsListIter N a (i + 1) → h'.IsListIter (N + 1) b (i + 1) → IsPair h' s.heap.objs.size xs[i] ys[i] →
      (∀ d o, d ≠ N + 4 → d ≠ N + 3 → d ≠ N → d ≠ N + 1 → s.heap.get? d = some o → h'.get? d = some o) → Q (some (.ref s.heap.objs.size)) { s with heap := h' } := by
    intro h' hz i1 i2 hT hk
    have big : N + 6 ≤ s.heap.objs.size := hS
    refine q h' _ (hk _ _ (nz (by decide)) (nz (by decide)) (Ne.symm (show N ≠ N + 5 from Nat.ne_of_lt (Nat.lt_add_of_pos_right (by decide)))) (nz (by decide)) z.S) fun h'' hk2 c' hS2 => ?_
    have hT2 : IsPair h'' s.heap.objs.size xs[i] ys[i] := hk2 _ _ (Nat.ne_of_gt (Nat.lt_of_lt_of_le (Nat.lt_succ_self _) big)) hT
    have n5 : N ≠ N + 5 := Nat.ne_of_lt (Nat.lt_add_of_pos_right (by decide))
    refine ⟨.inr ?_, ?_, ?_, ?_, ?_, ?_, hS2, by rw [Array.size_push, z.sz], fun j hj => ?_, fun j k T e1 e2 => ?_, fun d o e => ?_⟩
    · obtain ⟨T, f, oT, g1, g2, g3⟩ := hz
      exact ⟨T, f, oT, hk2 _ _ (nz (by decide)) g1, hk2 _ _ (Nat.ne_of_gt (Nat.lt_of_lt_of_le (Nat.lt_succ_self _) g3)) g2, g3⟩
    · exact hk2 _ _ (nz (by decide)) (hk _ _ (nz (by decide)) (nz (by decide)) (Ne.symm (Nat.ne_of_lt (Nat.lt_add_of_pos_right (by decide)))) (nz (by decide)) z.TI)
    · exact i1.at fun o e => hk2 _ _ n5 e
    · exact i2.at fun o e => hk2 _ _ (nz (by decide)) e
    · exact z.l1.at fun o e => hk2 _ _ (lt_ne la 5) (hk _ _ (lt_ne la 4) (lt_ne la 3) (Nat.ne_of_lt la) (lt_ne la 1) e)
    · exact z.l2.at fun o e => hk2 _ _ (lt_ne lb 5) (hk _ _ (lt_ne lb 4) (lt_ne lb 3) (Nat.ne_of_lt lb) (lt_ne lb 1) e)
    · by_cases e : j < i
      · obtain ⟨T, x, y, e1, e2, e3, e4, e5⟩ := z.tups j e
        have nT : ∀ k : Nat, k ≤ 5 → T ≠ N + k := fun k hk => Nat.ne_of_gt (Nat.lt_of_le_of_lt (Nat.add_le_add_left hk N) (Nat.lt_of_lt_of_le (Nat.lt_succ_self _) e5))
        refine ⟨T, x, y, ?_, e2, e3, hk2 _ _ (nT 5 (by decide)) (hk _ _ (nT 4 (by decide)) (nT 3 (by decide)) (nT 0 (by decide)) (nT 1 (by decide)) e4), e5⟩
        rw [Array.getElem?_push_lt (by rw [z.sz]; exact e)]
        rw [← e1]; simp [z.sz, e]
      · obtain rfl : j = i := by omega
        refine ⟨s.heap.objs.size, xs[j], ys[j], ?_, hx, hy, hT2, big⟩
        have := Array.getElem?_push_size (xs := acc) (x := Value.ref s.heap.objs.size)
        rw [z.sz] at this
        exact this
    · have old : ∀ (j : Nat) (T : Addr), acc[j]? = some (Value.ref T) → T < s.heap.objs.size := fun j T e => by
        have hj : j < i := by rw [← z.sz]; exact (Array.getElem?_eq_some_iff.mp e).1
        obtain ⟨T', x, y, e1, _, _, e4, _⟩ := z.tups j hj
        rw [e] at e1; cases e1
        exact Heap.lt_size e4
      rw [Array.getElem?_push] at e1 e2
      split at e1
      · split at e2
        · omega
        · cases e1
          exact absurd (old _ _ e2) (Nat.lt_irrefl _)
      · split at e2
        · cases e2
          exact absurd (old _ _ e1) (Nat.lt_irrefl _)
        · exact z.dist _ _ _ e1 e2
    · have hd : d < N := by rw [← h0N]; exact Heap.lt_size e
      exact hk2 _ _ (lt_ne hd 5) (hk _ _ (lt_ne hd 4) (lt_ne hd 3) (Nat.ne_of_lt hd) (lt_ne hd 1) (z.old _ _ e))
  have bigN : N + 6 ≤ s.heap.objs.size := hS
  rcases z.zip with ⟨hz, u, v, hTO⟩ | ⟨T, f, oT, hz, hT, gT⟩
  · refine wpAny_pyNext_zip_item D hz z.TI hTO z.it1 z.it2 z.l1 z.l2 hx hy fun h' g1 g2 g3 g4 g5 g6 g7 => ?_
    exact fin h' ⟨_, false, _, g1, g5, bigN⟩ g3 g4 g5 fun d o n1 n2 n3 n4 e => g7 d o n1 n2 n3 n4 e
  · refine wpAny_pyNext_zip_item_held D hz hT z.TI z.it1 z.it2 z.l1 z.l2 hx hy fun h' g1 g3 g4 g5 g6 g7 => ?_
    have nT : ∀ k : Nat, k ≤ 5 → T ≠ N + k := fun k hk => Nat.ne_of_gt (Nat.lt_of_le_of_lt (Nat.add_le_add_left hk N) (Nat.lt_of_lt_of_le (Nat.lt_succ_self _) gT))
    exact fin h' ⟨T, true, oT, g1, g7 _ _ (nT 4 (by decide)) (nT 0 (by decide)) (nT 1 (by decide)) hT, gT⟩ g3 g4 g5 fun d o n1 _ n3 n4 e => g7 d o n1 n3 n4 e
theorem zs_done {E : Value → Shared → Prop} {Q : Option Value → Shared → Prop} {i : Nat} {acc : Array Value} {c : Nat} (hh : A.handled = none) (h0N : h0.objs.size = N) (la : a < N) (lb : b < N) (z : Zs h0 s.heap N a b xs ys i acc c) (h1 : i = min xs.size ys.size)
    (q : ∀ h', Ze h0 h' N xs ys acc c → Q none { s with heap := h' }) : wpAny (model prog w) A (pyNext (.ref (N + 4))) Q E s := by
  have D := PySem.W.ktu_apart N a b la lb
  have he : xs[i]? = none ∨ ys[i]? = none := by
    rcases Nat.le_total xs.size ys.size with h | h
    · exact .inl (by simp; omega)
    · exact .inr (by simp; omega)
  have n5 : N + 5 ≠ N := Ne.symm (Nat.ne_of_lt (Nat.lt_add_of_pos_right (by decide)))
  have fin : ∀ h', (∀ d o, d ≠ N + 4 → d ≠ N + 3 → d ≠ N → d ≠ N + 1 → s.heap.get? d = some o → h'.get? d = some o) → Q none { s with heap := h' } := fun h' hk => by
    refine q h' ⟨hk _ _ (nz (by decide)) (nz (by decide)) n5 (nz (by decide)) z.S, by rw [z.sz, h1], fun j hj => ?_, z.dist, fun d o e => ?_⟩
    · obtain ⟨T, x, y, e1, e2, e3, e4, e5⟩ := z.tups j (by rw [h1]; exact hj)
      have nT : ∀ k : Nat, k ≤ 5 → T ≠ N + k := fun k hk => Nat.ne_of_gt (Nat.lt_of_le_of_lt (Nat.add_le_add_left hk N) (Nat.lt_of_lt_of_le (Nat.lt_succ_self _) e5))
      exact ⟨T, x, y, e1, e2, e3, hk _ _ (nT 4 (by decide)) (nT 3 (by decide)) (nT 0 (by decide)) (nT 1 (by decide)) e4, e5⟩
    · have hd : d < N := by rw [← h0N]; exact Heap.lt_size e
      exact hk _ _ (lt_ne hd 4) (lt_ne hd 3) (Nat.ne_of_lt hd) (lt_ne hd 1) (z.old _ _ e)
  rcases z.zip with ⟨hz, u, v, hTO⟩ | ⟨T, f, oT, hz, hT, gT⟩
  · exact wpAny_pyNext_zip_end hh D hz z.TI hTO z.it1 z.it2 z.l1 z.l2 he fun h' k => fin h' fun d o n1 n2 n3 n4 e => k d o n1 n2 n3 n4 e
  · exact wpAny_pyNext_zip_end_held hh D hz hT z.TI z.it1 z.it2 z.l1 z.l2 he fun h' k => fin h' fun d o n1 _ n3 n4 e => k d o n1 n3 n4 e
theorem zs_loop {R : Result → Shared → Prop} {res : Value} (hh : A.in1.handled = none) (h0N : h0.objs.size = N) (la : a < N) (lb : b < N) (hz : min xs.size ys.size ≤ sizeLine) : ∀ (k i : Nat) (s : Shared) (acc : Array Value) (c : Nat), min xs.size ys.size - i = k → i ≤ min xs.size ys.size → Zs h0 s.heap N a b xs ys i acc c →
    (∀ h' acc' c', Ze h0 h' N xs ys acc' c' → R (.ok (.ret res)) { s with heap := h' }) → codeAny (model prog w) A (.builtin "list.extend.loop" ⟨[.ref (N + 5), .ref (N + 4), res], []⟩) R s
  | 0, i, s, acc, c, hk, hi, z, q => by
    refine codeAny_builtin F.entry_extend_loop ?_
    rw [Around.under_plainId F.plain_extend_loop _]
    show wpAny _ A.in1 (pyNext (.ref (N + 4)) >>= _) _ _ s
    refine wpAny_bind (zs_done hh h0N la lb z (by omega) fun h' ze => ?_)
    exact wpAny_pure (q h' acc c ze)
  | k + 1, i, s, acc, c, hk, hi, z, q => by
    refine codeAny_builtin F.entry_extend_loop ?_
    rw [Around.under_plainId F.plain_extend_loop _]
    show wpAny _ A.in1 (pyNext (.ref (N + 4)) >>= _) _ _ s
    refine wpAny_bind (zs_step h0N la lb z (by omega) (by omega) fun h' T hS nxt => ?_)
    show wpAny _ A.in1 (updateSeq (N + 5) (·.push (.ref T)) >>= _) _ _ _
    refine wpAny_bind ?_
    refine wpAny_updateSeq hS rfl (wpAny_pure ⟨plainId_quiet F.plain_extend_loop _, zs_loop hh h0N la lb hz k (i + 1) _ (acc.push (.ref T)) _ (by omega) (by omega) (nxt _ (fun d o hd e => (Heap.get?_update_other _ _ (Ne.symm hd)).trans e) _ (Heap.get?_update_self _ hS rfl)) fun h2 acc' c' ze => q h2 acc' c' ze⟩)
      (by rw [z.sz]; omega) (by show (acc.push (Value.ref T)).size ≤ sizeLine + 1; rw [Array.size_push, z.sz]; omega)
theorem zip_no_len : typeLookup (.type "zip") "__len__" = pure none := by rw [typeLookup_type, builtinLookup_eq_fast]; kernel_rfl
theorem zip_no_hint : typeLookup (.type "zip") "__length_hint__" = pure none := by rw [typeLookup_type, builtinLookup_eq_fast]; kernel_rfl
theorem extend_zip {R : Result → Shared → Prop} {res : Value} {c0 : Nat} (hh : A.in1.handled = none) (h0N : h0.objs.size = N) (la : a < N) (lb : b < N) (hz : min xs.size ys.size ≤ sizeLine) (z : Zs h0 s.heap N a b xs ys 0 #[] c0) (zz : IsZip s.heap (N + 4) (N + 2) (N + 3) .none)
    (q : ∀ h' acc' c', Ze h0 h' N xs ys acc' c' → R (.ok (.ret res)) { s with heap := h' }) :
    wpAny (model prog w) A.in1 (Builtin.List.listExtendWith (.ref (N + 5)) (.ref (N + 4)) res)
      (fun fin s' => match fin with | .done f => R (.ok f) s' | .again c' => c'.quiet = true ∧ codeAny (model prog w) A c' R s') (fun e s' => R (.error e) s') s := by
  have hT : s.TypeIs (.ref (N + 4)) "zip" := ⟨_, zz, rfl⟩
  unfold Builtin.List.listExtendWith
  refine wpAny_bind (wpAny_typeOf hT ?_)
  have h1 : Builtin.List.listSameRef (.ref (N + 5)) (.ref (N + 4)) = false := by
    show ((N + 5 : Nat) == N + 4) = false
    exact beq_eq_false_iff_ne.mpr (nz (by decide))
  have h2 : (Value.type "zip" == Value.type "list") = false := by decide
  have h3 : (Value.type "zip" == Value.type "tuple") = false := by decide
  simp only [h1, h2, h3, Bool.or_false, Bool.false_eq_true, if_false]
  refine wpAny_bind (wpAny_pyIter_zip zz ?_)
  refine wpAny_bind (wpAny_holding ?_)
  unfold Builtin.List.listLengthHint
  refine wpAny_bind (wpAny_specialOf hT zip_no_len ?_)
  show wpAny _ A.in1 (specialOf (Value.ref (N + 4)) (Str.ofString "__length_hint__") >>= _) _ _ _
  refine wpAny_bind (wpAny_specialOf hT zip_no_hint ?_)
  refine wpAny_pure ?_
  show wpAny _ A.in1 (rule "list.extend.makes-room" >>= fun _ => Builtin.List.listTouch (.ref (N + 5)) >>= fun _ =>
    again (.builtin "list.extend.loop" ⟨[.ref (N + 5), .ref (N + 4), res], []⟩)) _ _ _
  refine wpAny_bind (wpAny_rule ?_)
  refine wpAny_bind ?_
  show wpAny _ A.in1 (updateSeq (N + 5) (·.push .none) >>= fun _ => updateSeq (N + 5) (·.pop)) _ _ _
  refine wpAny_bind (wpAny_updateSeq z.S rfl ?_)
  have hS₂ := Heap.get?_update_self (Obj.mapSeq (·.push Value.none)) z.S rfl
  refine wpAny_updateSeq (hz := by seq_fits) hS₂ rfl ?_
  have hS₃ := Heap.get?_update_self (Obj.mapSeq (·.pop)) hS₂ rfl
  have oth : ∀ d o, d ≠ N + 5 → s.heap.get? d = some o → ((s.heap.update (N + 5) (Obj.mapSeq (·.push Value.none))).update (N + 5) (Obj.mapSeq (·.pop))).get? d = some o :=
    fun d o hd e => (Heap.get?_update_other _ _ (Ne.symm hd)).trans ((Heap.get?_update_other _ _ (Ne.symm hd)).trans e)
  have n5 : N ≠ N + 5 := Nat.ne_of_lt (Nat.lt_add_of_pos_right (by decide))
  obtain ⟨c2, hS4⟩ : ∃ c2, ((s.heap.update (N + 5) (Obj.mapSeq (·.push Value.none))).update (N + 5) (Obj.mapSeq (·.pop))).get? (N + 5) = some { cls := .type "list", dict := none, data := .seq #[] c2, slots := #[] } := ⟨_, hS₃⟩
  have z2 : Zs h0 ((s.heap.update (N + 5) (Obj.mapSeq (·.push Value.none))).update (N + 5) (Obj.mapSeq (·.pop))) N a b xs ys 0 #[] c2 := by
    refine ⟨?_, oth _ _ (nz (by decide)) z.TI, z.it1.at fun o e => oth _ _ n5 e, z.it2.at fun o e => oth _ _ (nz (by decide)) e, z.l1.at fun o e => oth _ _ (lt_ne la 5) e, z.l2.at fun o e => oth _ _ (lt_ne lb 5) e, hS4, rfl, fun j hj => absurd hj (Nat.not_lt_zero j), fun j k T e => by simp at e, fun d o e => ?_⟩
    · rcases z.zip with ⟨g1, u, v, g2⟩ | ⟨T, f, oT, g1, _⟩
      · exact .inl ⟨oth _ _ (nz (by decide)) g1, u, v, oth _ _ (nz (by decide)) g2⟩
      · have e := zz.symm.trans g1
        cases e
    · exact oth _ _ (lt_ne (by rw [← h0N]; exact Heap.lt_size e) 5) (z.old _ _ e)
  exact wpAny_pure ⟨plainId_quiet F.plain_extend_loop _, zs_loop hh h0N la lb hz _ 0 _ #[] _ rfl (Nat.zero_le _) z2 fun h' acc' c' ze => q h' acc' c' ze⟩
theorem call_list_zip {E : Value → Shared → Prop} {Q : Value → Shared → Prop} (hh : A.handled = none) (h0N : h0.objs.size = N) (la : a < N) (lb : b < N) (hz : min xs.size ys.size ≤ sizeLine) (hsz : s.heap.objs.size = N + 5)
    (zz : IsZip s.heap (N + 4) (N + 2) (N + 3) .none) (TI : IsPair s.heap (N + 2) (.ref N) (.ref (N + 1))) (TO : IsPair s.heap (N + 3) .none .none) (it1 : s.heap.IsListIter N a 0) (it2 : s.heap.IsListIter (N + 1) b 0) (l1 : s.heap.IsList a xs) (l2 : s.heap.IsList b ys) (old : ∀ d o, h0.get? d = some o → s.heap.get? d = some o)
    (q : ∀ h' acc' c', Ze h0 h' N xs ys acc' c' → Q (.ref (N + 5)) { s with heap := h' }) : wpAny (model prog w) A (call (.type "list") [.ref (N + 4)]) Q E s := by
  refine callType_codes (Q₁ := fun obj s₁ => obj = .ref s.heap.objs.size ∧ s₁ = { s with heap := s.heap.push { cls := .type "list", data := .seq #[] } }) F.called_list (F.typeCall_list_1 _) F.entry_list_init
    (code_list_new _ ⟨rfl, rfl⟩) fun obj s₁ h₁ => ?_
  obtain ⟨rfl, rfl⟩ := h₁
  have hS : (s.heap.push { cls := .type "list", data := .seq #[] }).get? s.heap.objs.size = some { cls := .type "list", data := .seq #[] } := Heap.get?_push_size _ rfl
  have p : ∀ d o, s.heap.get? d = some o → (s.heap.push { cls := .type "list", data := .seq #[] }).get? d = some o := fun d o e => Heap.get?_push_of_some _ e
  refine ⟨⟨_, hS, rfl⟩, F.args_list_init_2 _ _, ?_⟩
  rw [hsz] at hS ⊢
  show wpAny _ A.in1.in1 (do let old ← Builtin.List.listItems (.ref (N + 5)); Builtin.List.listUpdate (.ref (N + 5)) (fun _ => #[]); letGo old.toList.reverse; Builtin.List.listExtendWith (.ref (N + 5)) (.ref (N + 4)) .none) _ _ _
  refine wpAny_bind ?_
  unfold Builtin.List.listItems
  refine wpAny_bind (wpAny_seqItems hS rfl (wpAny_pure ?_))
  show wpAny _ A.in1.in1 (updateSeq (N + 5) (fun _ => #[]) >>= fun _ => letGo (#[] : Array Value).toList.reverse >>= fun _ => Builtin.List.listExtendWith (.ref (N + 5)) (.ref (N + 4)) .none) _ _ _
  refine wpAny_bind (wpAny_updateSeq hS rfl ?_)
  have hS₂ := Heap.get?_update_self (Obj.mapSeq (fun _ => (#[] : Array Value))) hS rfl
  refine wpAny_bind (wpAny_letGo ?_)
  have oth : ∀ d o, d ≠ N + 5 → s.heap.get? d = some o → ((s.heap.push { cls := .type "list", data := .seq #[] }).update (N + 5) (Obj.mapSeq (fun _ => (#[] : Array Value)))).get? d = some o :=
    fun d o hd e => (Heap.get?_update_other _ _ (Ne.symm hd)).trans (p _ _ e)
  have n5 : N ≠ N + 5 := Nat.ne_of_lt (Nat.lt_add_of_pos_right (by decide))
  have zz2 := oth _ _ (nz (by decide)) zz
  refine extend_zip (A := A.in1) (a := a) (b := b) hh h0N la lb hz ⟨.inl ⟨zz2, _, _, oth _ _ (nz (by decide)) TO⟩, oth _ _ (nz (by decide)) TI, it1.at fun o e => oth _ _ n5 e, it2.at fun o e => oth _ _ (nz (by decide)) e, l1.at fun o e => oth _ _ (lt_ne la 5) e, l2.at fun o e => oth _ _ (lt_ne lb 5) e, hS₂, rfl, fun j hj => absurd hj (Nat.not_lt_zero j), fun j k T e => by simp at e, fun d o e => oth _ _ (lt_ne (by rw [← h0N]; exact Heap.lt_size e) 5) (old _ _ e)⟩ zz2 fun h' acc' c' ze => ?_
  exact ⟨rfl, q h' acc' c' ze⟩
end

/-! ### as known tuples -/
def addT (H : Hp) (L : List (Addr × List V)) : Hp := fun b => match L.find? (fun p => decide (p.1 = b)) with
  | some p => some (.tup p.2)
  | none => H b
theorem addT_in {H : Hp} {L : List (Addr × List V)} {b : Addr} {p : Addr × List V} (h : L.find? (fun p => decide (p.1 = b)) = some p) : addT H L b = some (.tup p.2) := by unfold addT; rw [h]
theorem addT_out {H : Hp} {L : List (Addr × List V)} {b : Addr} (h : ∀ p ∈ L, p.1 ≠ b) : addT H L b = H b := by
  unfold addT
  rw [List.find?_eq_none.mpr fun p hp => by simpa using h p hp]
theorem addT_cases (H : Hp) (L : List (Addr × List V)) (b : Addr) : (∃ p ∈ L, p.1 = b ∧ addT H L b = some (.tup p.2)) ∨ ((∀ p ∈ L, p.1 ≠ b) ∧ addT H L b = H b) := by
  cases h : L.find? (fun p => decide (p.1 = b)) with
  | some p => exact .inl ⟨p, List.mem_of_find?_eq_some h, by simpa using List.find?_some h, addT_in h⟩
  | none =>
    have n : ∀ p ∈ L, p.1 ≠ b := fun p hp => by simpa using List.find?_eq_none.mp h p hp
    exact .inr ⟨n, addT_out n⟩
theorem addT_same {H : Hp} {L : List (Addr × List V)} (hn : ∀ p ∈ L, H p.1 = none) : Same H (addT H L) := fun b o e => by
  rcases addT_cases H L b with ⟨p, hp, rfl, _⟩ | ⟨_, h⟩
  · rw [hn p hp] at e; cases e
  · rw [h]; exact e
section
variable {X : Cx} {pins : List (Addr × Obj)} {σ : L2.St} {H : Hp} {s : Shared}
theorem inv_news {h' : Heap} {t' : Nat} {H' : Hp} (I : Inv X pins σ H s) (k : ∀ b u, s.heap.get? b = some u → h'.get? b = some u) (sm : Same H H') (nw : ∀ b o, H' b = some o → H b = some o ∨ (s.heap.objs.size ≤ b ∧ ObjOk X.prog X.w H' h' b o)) : Inv X pins σ H' { s with heap := h', toks := t' } := by
  refine I.un ⟨fun b o e _ _ _ => k b o e, fun b o e _ _ _ => ⟨o.slots, k b o e⟩, fun b o e n _ => ?_, fun b o e _ => ⟨o, k b o e⟩, fun b xs e => sm _ _ e, fun b o u e => sm _ _ e, fun b ps e => ⟨#[], by rw [sm _ _ e]; simp⟩⟩ fun b o e => ?_
  · cases e2 : H' b with
    | none => rfl
    | some u =>
      rcases nw b u e2 with h | ⟨h, _⟩
      · rw [n] at h; cases h
      · exact absurd (Nat.lt_of_lt_of_le (Heap.lt_size e) h) (Nat.lt_irrefl _)
  · rcases nw b o e with h | ⟨_, h⟩
    · exact ((I.hok.kept k) b o h).stay (fun _ _ _ q => q) (fun c q => sm _ _ q) fun c xs q => sm _ _ q
    · exact h
end

variable {B : Tb}
section
variable {X : Cx} {E : XK}
def lzF (fa : AF) : EF := fun env st => (fa env st).bind fun ds s => match ds with
  | [.ref m, .ref n] => (match listAt s m, listAt s n with
    | some xs, some ys => if min xs.length ys.length ≤ sizeLine then newO (.lst ((xs.zip ys).map pairD)) s else .bad
    | _, _ => .bad)
  | _ => .bad
theorem rds_pairs {g : G} {q : List Addr} {H : Hp} : ∀ {Ts : List Addr} {xs ys : List V} {ds es : List D}, RDs g q H xs ds → RDs g q H ys es → Ts.length = min xs.length ys.length → (∀ (j : Nat) T x y, Ts[j]? = some T → xs[j]? = some x → ys[j]? = some y → H T = some (.tup [x, y])) → RDs g q H (Ts.map V.ref) ((ds.zip es).map pairD)
  | [], _, _, _, _, .nil, _, _, _ => .nil
  | [], _, _, _, _, .cons _ _, .nil, _, _ => .nil
  | [], _, _, _, _, .cons _ _, .cons _ _, h, _ => by simp at h
  | T :: Ts, _, _, _, _, .nil, _, h, _ => by simp at h
  | T :: Ts, _, _, _, _, .cons _ _, .nil, h, _ => by simp at h
  | T :: Ts, _, _, _, _, .cons r1 t1, .cons r2 t2, h, k => by
    rw [List.zip_cons_cons, List.map_cons, List.map_cons]
    refine .cons (.tup (.inl (.inl (k 0 T _ _ rfl rfl rfl))) (.cons r1 (.cons r2 .nil))) (rds_pairs t1 t2 (by simp at h; omega) fun j T x y e1 e2 e3 => k (j + 1) T x y (by simpa using e1) (by simpa using e2) (by simpa using e3))
theorem vals_refs : ∀ Ts : List Addr, Vals (Ts.map V.ref) (Ts.map Value.ref)
  | [] => .nil
  | _ :: Ts => .cons rfl (vals_refs Ts)
theorem le_listZip {e1 e2 : Expr} {p p2 pos pos2 : Pos} {fa : AF} (hc : X.calm = true) (hg : Gl X "list") (hm : X.mg "list" = none) (hg2 : Gl X "zip") (hm2 : X.mg "zip" = none) (ha : PA X [e1, e2] (LA (gOf B X) E fa))
    (na : starEach [.Call (.Name "zip" p2) [e1, e2] [] pos2] X.env = (false, eval (.Call (.Name "zip" p2) [e1, e2] [] pos2) X.env) :: starEach [] X.env := by rfl)
    (hs : starEach [e1, e2] X.env = (false, eval e1 X.env) :: starEach [e2] X.env := by rfl) (hpl : (backTo pos2 (starEach [e2] X.env)).any (·.1) = false := by rfl) :
    PE X (.Call (.Name "list" p) [.Call (.Name "zip" p2) [e1, e2] [] pos2] [] pos) (LE (gOf B X) E (lzF fa)) := by
  refine ⟨fun pins s σ H Q I w => ?_⟩
  obtain ⟨q, env, st, rs, re, pp⟩ := w
  have w2 : LA (gOf B X) E fa σ H fun vs H1 => ∃ q1 s1 m n xs ys, Ext q H q1 H1 ∧ RS (gOf B X) q1 H1 s1 ∧ RDs (gOf B X) q1 H1 vs [.ref m, .ref n] ∧ listAt s1 m = some xs ∧ listAt s1 n = some ys ∧ min xs.length ys.length ≤ sizeLine ∧ KV (gOf B X) q H Q (.ref s1.length) (s1 ++ [.lst ((xs.zip ys).map pairD)]) := by
    refine LA.chain rs re (R.post_bind.mp pp) fun ds s1 q1 vs H1 p1 x1 rs1 re1 rd => ?_
    match ds, p1, rd with
    | [.ref m, .ref n], p1, rd =>
      simp only at p1
      split at p1
      · rename_i xs ys h1 h2
        split at p1
        · rename_i hz
          exact ⟨q1, s1, m, n, xs, ys, x1, rs1, rd, h1, h2, hz, p1⟩
        · exact False.elim p1
      · exact False.elim p1
  refine Call_ (ld_blt I hg hm boot_list (PyProof.Rows.callWith_type1 (args_cons (Call_ (ld_blt I hg2 hm2 PyProof.Rows.boot_zip (PyProof.Rows.callWith_type1 (thn (ha.run _ pins s σ H _ I w2) fun us s1 ⟨vs, H1, I1, r1, q1, st1, m, n, xs, ys, x1, rs1, rd, h1, h2, hz, kv⟩ => ?_) hs hpl))) na) na))
  obtain ⟨v1, v2, rfl, rv1, rv2⟩ := rd.two_inv
  obtain ⟨a, rfl, qa⟩ := rv1.ref_inv
  obtain ⟨b, rfl, qb⟩ := rv2.ref_inv
  obtain ⟨a', us, qa', ha', ru⟩ := rs1.listAt h1
  rw [qa] at qa'; cases qa'
  obtain ⟨b', ws, qb', hb', rw'⟩ := rs1.listAt h2
  rw [qb] at qb'; cases qb'
  cases r1 with
  | cons ra rr =>
    cases rr with
    | cons rb rr =>
      cases rr
      cases ra
      cases rb
      obtain ⟨its, rva, p1, _⟩ := I1.list ha'
      obtain ⟨its2, rvb, p2, _⟩ := I1.list hb'
      have la : a < s1.heap.objs.size := p1.lt
      have lb : b < s1.heap.objs.size := p2.lt
      have lx : its.length = xs.length := by rw [← rva.length, ru.length]
      have ly : its2.length = ys.length := by rw [← rvb.length, rw'.length]
      refine call_zip_2 p1.isList p2.isList fun h' hz' hTI hTO i1 i2 hsz hk => args_nil ?_
      have n5 : s1.heap.objs.size ≤ s1.heap.objs.size + 5 := Nat.le_add_right _ _
      refine call_list_zip (A := X.A) (h0 := s1.heap) (N := s1.heap.objs.size) (a := a) (b := b) (xs := its.toArray) (ys := its2.toArray) (I1.ok.hd hc) rfl la lb (by simp only [List.size_toArray]; rw [lx, ly]; exact hz) hsz hz' hTI hTO i1 i2 (p1.isList.at fun o e => hk _ _ e) (p2.isList.at fun o e => hk _ _ e) hk fun h2 acc c ze => ?_
      let Ts : List Addr := acc.toList.map fun v => match v with | .ref T => T | _ => 0
      have nn : ∀ j, j < min its.toArray.size its2.toArray.size ↔ j < min its.length its2.length := fun j => by simp
      have hTs : ∀ (j : Nat) (T : Addr), Ts[j]? = some T → ∃ x y x' y', acc[j]? = some (Value.ref T) ∧ us[j]? = some x ∧ ws[j]? = some y ∧ RelV x x' ∧ RelV y y' ∧ IsPair h2 T x' y' ∧ s1.heap.objs.size + 6 ≤ T := fun j T hj => by
        rw [List.getElem?_map] at hj
        obtain ⟨v, hv, e⟩ := Option.map_eq_some_iff.mp hj
        have hl : j < acc.size := by
          have := (List.getElem?_eq_some_iff.mp hv).1
          simpa using this
        obtain ⟨T', x', y', e1, e2, e3, e4, e5⟩ := ze.tups j (by rw [← ze.sz]; exact hl)
        have e6 : acc[j]? = some v := by rw [← Array.getElem?_toList]; exact hv
        rw [e1] at e6
        cases e6
        have e : T' = T := e
        subst e
        obtain ⟨x, hx, rx⟩ := Paired.at? rva (show its[j]? = some x' by simpa using e2)
        obtain ⟨y, hy, ry⟩ := Paired.at? rvb (show its2[j]? = some y' by simpa using e3)
        exact ⟨x, y, x', y', e1, hx, hy, rx, ry, e4, e5⟩
      have hlen : Ts.length = min us.length ws.length := by
        show (acc.toList.map _).length = _
        rw [List.length_map, Array.length_toList, ze.sz]
        simp [rva.length, rvb.length]
      have hacc : acc.toList = Ts.map Value.ref := by
        show acc.toList = (acc.toList.map _).map Value.ref
        rw [List.map_map]
        refine (List.map_id _).symm.trans (List.map_congr_left fun v hv => ?_)
        obtain ⟨j, hj⟩ := List.getElem?_of_mem hv
        have hl : j < acc.size := by simpa using (List.getElem?_eq_some_iff.mp hj).1
        obtain ⟨T', x', y', e1, _⟩ := ze.tups j (by rw [← ze.sz]; exact hl)
        have e6 : acc[j]? = some v := by rw [← Array.getElem?_toList]; exact hj
        rw [e1] at e6
        cases e6
        rfl
      let L : List (Addr × List V) := (Ts.zip (us.zip ws)).map fun p => (p.1, [p.2.1, p.2.2])
      have hL : ∀ p ∈ L, ∃ (j : Nat) (x y : V), Ts[j]? = some p.1 ∧ us[j]? = some x ∧ ws[j]? = some y ∧ p.2 = [x, y] := fun p hp => by
        obtain ⟨⟨T, x, y⟩, hm, rfl⟩ := List.mem_map.mp hp
        obtain ⟨j, hj⟩ := List.getElem?_of_mem hm
        obtain ⟨e1, e2⟩ := List.getElem?_zip_eq_some.mp hj
        obtain ⟨e2, e3⟩ := List.getElem?_zip_eq_some.mp e2
        exact ⟨j, x, y, e1, e2, e3, rfl⟩
      have big : ∀ p ∈ L, s1.heap.objs.size + 6 ≤ p.1 := fun p hp => by
        obtain ⟨j, x, y, e1, _⟩ := hL p hp
        obtain ⟨_, _, _, _, _, _, _, _, _, _, e⟩ := hTs j p.1 e1
        exact e
      have hLT : ∀ (j : Nat) (T : Addr) (x y : V), Ts[j]? = some T → us[j]? = some x → ws[j]? = some y → ∀ H : Hp, addT H L T = some (.tup [x, y]) := fun j T x y e1 e2 e3 H => by
        have mem : (T, [x, y]) ∈ L := List.mem_map.mpr ⟨(T, x, y), List.mem_of_getElem? (i := j) (List.getElem?_zip_eq_some.mpr ⟨e1, List.getElem?_zip_eq_some.mpr ⟨e2, e3⟩⟩), rfl⟩
        rcases addT_cases H L T with ⟨p, hp, e, h⟩ | ⟨h, _⟩
        · obtain ⟨j', x', y', f1, f2, f3, f4⟩ := hL p hp
          obtain ⟨_, _, _, _, g1, _⟩ := hTs j T e1
          obtain ⟨_, _, _, _, g2, _⟩ := hTs j' p.1 f1
          rw [e] at g2
          have := ze.dist _ _ _ g1 g2
          subst this
          rw [e2] at f2; cases f2
          rw [e3] at f3; cases f3
          rw [h, f4]
        · exact absurd rfl (h _ mem)
      have nS : ∀ p ∈ L, p.1 ≠ s1.heap.objs.size + 5 := fun p hp => Nat.ne_of_gt (Nat.lt_of_lt_of_le (Nat.lt_succ_self _) (big p hp))
      have hS0 : H1 (s1.heap.objs.size + 5) = none := I1.hok.fresh n5
      let H2 : Hp := addT (upd H1 (s1.heap.objs.size + 5) (.lst (Ts.map V.ref))) L
      have hS2 : H2 (s1.heap.objs.size + 5) = some (.lst (Ts.map V.ref)) := by
        show addT _ L _ = _
        rw [addT_out nS, upd_same]
      have hnL : ∀ p ∈ L, H1 p.1 = none := fun p hp => I1.hok.fresh (Nat.le_trans (Nat.le_add_right _ 6) (big p hp))
      have sm1 : Same H1 (upd H1 (s1.heap.objs.size + 5) (.lst (Ts.map V.ref))) := same_upd hS0
      have sm2 : Same (upd H1 (s1.heap.objs.size + 5) (.lst (Ts.map V.ref))) H2 := addT_same fun p hp => by rw [upd_ne (nS p hp)]; exact hnL p hp
      have sm : Same H1 H2 := fun b o e => sm2 b o (sm1 b o e)
      have I2 : Inv X pins σ H2 { s1 with heap := h2 } := inv_news (t' := s1.toks) I1 ze.old sm fun b o e => by
        rcases addT_cases (upd H1 (s1.heap.objs.size + 5) (.lst (Ts.map V.ref))) L b with ⟨p, hp, rfl, h⟩ | ⟨hb, h⟩
        · have e : addT _ L p.1 = some o := e
          rw [h] at e
          cases e
          obtain ⟨j, x, y, e1, e2, e3, e4⟩ := hL p hp
          obtain ⟨x0, y0, x', y', _, g2, g3, g4, g5, g6, _⟩ := hTs j p.1 e1
          rw [e2] at g2; cases g2
          rw [e3] at g3; cases g3
          rw [e4]
          exact .inr ⟨Nat.le_trans (Nat.le_add_right _ 6) (big p hp), by show 2 ≤ sizeLine; decide, [x', y'], .cons g4 (.cons g5 .nil), ⟨_, g6, rfl, _, rfl⟩⟩
        · have e : addT _ L b = some o := e
          rw [h] at e
          by_cases hbS : b = s1.heap.objs.size + 5
          · subst hbS
            rw [upd_same] at e
            cases e
            refine .inr ⟨n5, ?_⟩
            refine ⟨by rw [List.length_map, hlen, ru.length, rw'.length]; exact hz, acc.toList, c, ?_, ?_⟩
            · rw [hacc]
              exact vals_refs Ts
            · rw [Array.toArray_toList]; exact ze.S
          · rw [upd_ne hbS] at e
            exact .inl e
      refine ⟨.ref (s1.heap.objs.size + 5), H2, I2, rfl, ?_⟩
      have ex : Ext q1 H1 (q1 ++ [s1.heap.objs.size + 5]) H2 := Same.ext sm hS0
      have rs2 : RS (gOf B X) (q1 ++ [s1.heap.objs.size + 5]) H2 (st1 ++ [.lst ((xs.zip ys).map pairD)]) := by
        have rsT : RS (gOf B X) q1 (addT H1 L) st1 := rs1.same (addT_same hnL)
        have e : H2 = upd (addT H1 L) (s1.heap.objs.size + 5) (.lst (Ts.map V.ref)) := by
          funext b
          show addT _ L b = _
          by_cases hbS : b = s1.heap.objs.size + 5
          · subst hbS
            rw [addT_out nS, upd_same, upd_same]
          · rw [upd_ne hbS]
            rcases addT_cases H1 L b with ⟨p, hp, rfl, h⟩ | ⟨hb, h⟩
            · obtain ⟨j, x, y, e1, e2, e3, e4⟩ := hL p hp
              rw [h, e4]
              exact hLT j p.1 x y e1 e2 e3 _
            · rw [h, addT_out hb, upd_ne hbS]
        rw [e]
        refine rsT.new (by rw [addT_out nS]; exact hS0) ?_
        rw [← e]
        exact ⟨Ts.map V.ref, hS2, rds_pairs (ru.ext ex) (rw'.ext ex) hlen fun j T x y e1 e2 e3 => hLT j T x y e1 e2 e3 _⟩
      refine kv _ _ H2 (x1.trans ex) rs2 (.ref ?_)
      rw [← rs1.len]; simp
end
end VL

/-! VLE: != of two lists whose items are equal dicts. -/
namespace PySem.SeqAt
open PySem.Spec
open AutoSeq1 (wpAny_loadPart')
open MeetsSeq MeetsSeq2 MeetsSeq3
section
variable {prog : Program} {w : World}
theorem vl_ne_loop (l b : Addr) (items items2 : Array Value) (n n2 : Nat) (dd dd2 : Option Addr) (sl sl2 : Array (Option Value)) (hsz : items.size = items2.size) (k : Nat) :
    ∀ i : Nat, items.size - i = k → MeetsIn prog w (Builtin.«list.__eq__.loop» ⟨[.ref l, .ref b, rawInt i, rawInt 3], []⟩)
      (fun A R s => s.heap.get? l = some { cls := .type "list", dict := dd, data := .seq items n, slots := sl } ∧ s.heap.get? b = some { cls := .type "list", dict := dd2, data := .seq items2 n2, slots := sl2 } ∧
        (∀ j (h1 : j < items.size) (h2 : j < items2.size), EqP prog w A.in1 s items[j] items2[j] true) ∧
        R (.ok (.ret (.bool false))) s) := by
  induction k with
  | zero =>
    intro i hk A R s h
    obtain ⟨hp, g, d, tk, os⟩ := s
    obtain ⟨hl, hb, he, h⟩ := h
    wp_walk using wpAny_loadPart' hl, wpAny_loadPart' hb
    have q1 : items[((i : Nat) : Int).toNat]? = none := by simp; omega
    have q2 : items2[((i : Nat) : Int).toNat]? = none := by simp; omega
    rw [q1, q2]
    wp_walk using wpAny_loadPart' hl, wpAny_loadPart' hb
    show R (.ok (.ret (.bool (items.size != items2.size)))) _
    rw [hsz]
    simpa using h
  | succ k ih =>
    intro i hk A R s h
    obtain ⟨hp, g, d, tk, os⟩ := s
    obtain ⟨hl, hb, he, h⟩ := h
    wp_walk using wpAny_loadPart' hl, wpAny_loadPart' hb
    have m1 : i < items.size := by omega
    have m2 : i < items2.size := by omega
    have q1 : items[((i : Nat) : Int).toNat]? = some items[i] := by simp [m1]
    have q2 : items2[((i : Nat) : Int).toNat]? = some items2[i] := by simp [m2]
    have hc : ((i : Int) + 1) = ((i + 1 : Nat) : Int) := by push_cast; rfl
    rw [q1, q2]
    refine wpAny_bind (he i m1 m2 _ _ ?_)
    wp_walk
    rw [hc]
    exact ⟨plainId_quiet plain_eq_loop _, codeAny_builtin entry_eq_loop (by
      rw [Around.under_plainId plain_eq_loop _]
      exact ih (i + 1) (by omega) A R _ ⟨hl, hb, he, h⟩)⟩
theorem vl_list_ne (l b : Addr) (items items2 : Array Value) (n n2 : Nat) (dd dd2 : Option Addr) (sl sl2 : Array (Option Value)) (hsz : items.size = items2.size) :
    MeetsIn prog w (Builtin.«list.__ne__» ⟨[.ref l, .ref b], []⟩)
      (fun A R s => s.heap.get? l = some { cls := .type "list", dict := dd, data := .seq items n, slots := sl } ∧ s.heap.get? b = some { cls := .type "list", dict := dd2, data := .seq items2 n2, slots := sl2 } ∧
        (∀ j (h1 : j < items.size) (h2 : j < items2.size), EqP prog w A.in1 s items[j] items2[j] true) ∧
        R (.ok (.ret (.bool false))) s) := by
  intro A R s h
  obtain ⟨hp, g, d, tk, os⟩ := s
  obtain ⟨hl, hb, he, h⟩ := h
  have f3 := AutoSeq1.sub_list_list
  have hne : ¬ (items.size != items2.size) = true := by simp [hsz]
  wp_walk using wpAny_loadPart' hl, wpAny_loadPart' hb
  exact ⟨plainId_quiet plain_eq_loop _, codeAny_builtin entry_eq_loop (by
    rw [Around.under_plainId plain_eq_loop _]
    exact vl_ne_loop l b items items2 n n2 dd dd2 sl sl2 hsz _ 0 rfl A R _ ⟨hl, hb, he, h⟩)⟩
theorem vl_ne_lists {A : Around} {s : Shared} {l b : Addr} {items items2 : Array Value} (hl : s.heap.IsList l items) (hb : s.heap.IsList b items2) (hsz : items.size = items2.size) (hu : A.units < cLine)
    (he : ∀ j (h1 : j < items.size) (h2 : j < items2.size), EqP prog w A.in1 s items[j] items2[j] true) (E Q : Value → Shared → Prop) (h : Q (.bool false) s) : wpAny (model prog w) A (richCompare .NotEq (.ref l) (.ref b)) Q E s := by
  obtain ⟨⟨cls, dd, data, sl⟩, ho, hc, n, hd⟩ := id hl
  obtain ⟨⟨cls2, dd2, data2, sl2⟩, ho2, hc2, n2, hd2⟩ := id hb
  simp only at hc hd hc2 hd2
  subst hc hd hc2 hd2
  have ta : s.TypeIs (.ref l) "list" := ⟨_, ho, rfl⟩
  have tb : s.TypeIs (.ref b) "list" := ⟨_, ho2, rfl⟩
  exact wpAny_richCompare_same_room (op := .NotEq) ta tb F.slot_list_ne (call_meetsIn F.slot_list_ne ta F.entry_list_ne (F.args_list_ne_2 _ _) (vl_list_ne l b items items2 n n2 dd dd2 sl sl2 hsz)
    ⟨ho, ho2, he, show Value.bool false ≠ Value.notImplemented ∧ Q (.bool false) s from ⟨(fun x => nomatch x), h⟩⟩) hu
end
end PySem.SeqAt
namespace VL
open PySem PySem.Spec PyProof.Rows L2 LamX NdefX
variable {B : Tb}
section
variable {X : Cx} {E : XK}
def flD : D → Bool
  | .non => true
  | .bl _ => true
  | .int _ => true
  | .str _ => true
  | _ => false
theorem flD_of {g : G} {q : List Addr} {H : Hp} {v w : V} {d : D} (r : RD g q H v d) (r' : RD g q H w d) (h : flD d = true) : v = w ∧ flatB v = true := by
  cases d with
  | non => rw [r.non_inv, r'.non_inv]; exact ⟨rfl, rfl⟩
  | bl b => rw [r.bl_inv, r'.bl_inv]; exact ⟨rfl, rfl⟩
  | int i => rw [r.int_inv, r'.int_inv]; exact ⟨rfl, rfl⟩
  | str x => rw [r.str_inv, r'.str_inv]; exact ⟨rfl, rfl⟩
  | _ => cases h
theorem dK_inj {a b : Key} (h : dK a = dK b) : a = b := by cases a <;> cases b <;> cases h <;> rfl
theorem same_vals {g : G} {q : List Addr} {H : Hp} : ∀ {kvs : List (D × D)} {ks ls : List (Key × V)}, Paired (PK g q H) kvs ks → Paired (PK g q H) kvs ls → (kvs.map (·.1)).Nodup → (∀ p ∈ kvs, flD p.2 = true) → ∀ p ∈ ks, ∃ u, valV ls p.1 = some u ∧ p.2 = u ∧ flatB p.2 = true
  | _, _, _, .nil, .nil, _, _, p, hp => nomatch hp
  | _, _, _, .cons (a := a) (b := b) h t, .cons (b := c) h' t', nd, fl, p, hp => by
    rw [List.map_cons, List.nodup_cons] at nd
    have ec : c.1 = b.1 := dK_inj (h'.1.symm.trans h.1)
    rcases List.mem_cons.mp hp with rfl | hp
    · obtain ⟨e1, e2⟩ := flD_of h.2 h'.2 (fl _ List.mem_cons_self)
      exact ⟨c.2, valV_pos ec, e1, e2⟩
    · obtain ⟨u, e1, e2⟩ := same_vals t t' nd.2 (fun p hp => fl p (List.mem_cons_of_mem _ hp)) p hp
      refine ⟨u, ?_, e2⟩
      rw [valV_neg]
      · exact e1
      · intro e
        obtain ⟨i, hi⟩ := List.getElem?_of_mem hp
        obtain ⟨x, hx, hx2⟩ := Paired.at? t hi
        exact nd.1 (List.mem_map.mpr ⟨x, List.mem_of_getElem? hx, by rw [hx2.1, h.1, ← ec, e]⟩)
def SameDic (st : Sto) (x y : D) : Prop := ∃ i j kvs, x = .ref i ∧ y = .ref j ∧ st[i]? = some (.dic kvs) ∧ st[j]? = some (.dic kvs) ∧ keysOk kvs = true ∧ (kvs.map (·.1)).Nodup ∧ ∀ p ∈ kvs, flD p.2 = true
open Classical in
/-- two lists of dicts that are equal: not unlike -/
noncomputable def neLD : D → D → Sto → R D := fun x y st => if ∃ m n xs ys, x = .ref m ∧ y = .ref n ∧ listAt st m = some xs ∧ listAt st n = some ys ∧ Paired (SameDic st) xs ys then .ok (.bl false) st else .bad
theorem neLD_ok {st : Sto} {m n : Nat} {xs ys : List D} (h1 : listAt st m = some xs) (h2 : listAt st n = some ys) (h : Paired (SameDic st) xs ys) : neLD (.ref m) (.ref n) st = .ok (.bl false) st := if_pos ⟨m, n, xs, ys, rfl, rfl, h1, h2, h⟩
theorem items_eqV {q : List Addr} {H : Hp} {st : Sto} {g : G} (rs : RS g q H st) : ∀ {xs ys : List D} {us ws : List V}, Paired (SameDic st) xs ys → RDs g q H us xs → RDs g q H ws ys → Paired (EqV g.K H 2) us ws
  | _, _, _, _, .nil, .nil, .nil => .nil
  | _, _, _, _, .cons h t, .cons r1 t1, .cons r2 t2 => by
    refine .cons ?_ (items_eqV rs t t1 t2)
    obtain ⟨i, j, kvs, rfl, rfl, h1, h2, hk, nd, fl⟩ := h
    obtain ⟨a, rfl, qa⟩ := r1.ref_inv
    obtain ⟨b, rfl, qb⟩ := r2.ref_inv
    obtain ⟨a', ks, qa', ha, pa⟩ := rs.dicK h1 hk
    rw [qa] at qa'; cases qa'
    obtain ⟨b', ls, qb', hb, pb⟩ := rs.dicK h2 hk
    rw [qb] at qb'; cases qb'
    refine .inr (.inr (.inr ⟨a, b, ks, ls, rfl, rfl, ha, hb, by rw [← pa.length, ← pb.length], fun p hp => ?_⟩))
    obtain ⟨u, e1, e2, e3⟩ := same_vals pa pb nd fl p hp
    exact ⟨u, e1, .inl ⟨e2, e3⟩⟩
theorem op_neLD (hu : X.A.units + 64 < cLine) : OpR X (compareOp .NotEq) (LR (gOf B X) E neLD) := fun pins s σ H x y v u Q I rx ry w => by
  obtain ⟨q, st, a, b, rs, ra, rb, p⟩ := w
  unfold neLD at p
  split at p
  · rename_i h
    obtain ⟨m, n, xs, ys, rfl, rfl, h1, h2, hp⟩ := h
    obtain ⟨a, rfl, qa⟩ := ra.ref_inv
    obtain ⟨b, rfl, qb⟩ := rb.ref_inv
    obtain ⟨a', us, qa', ha, ru⟩ := rs.listAt h1
    rw [qa] at qa'; cases qa'
    obtain ⟨b', ws, qb', hb, rw'⟩ := rs.listAt h2
    rw [qb] at qb'; cases qb'
    cases (show v = Value.ref a from rx)
    cases (show u = Value.ref b from ry)
    obtain ⟨its, r1, p1, _⟩ := I.list ha
    obtain ⟨its2, r2, p2, _⟩ := I.list hb
    have pv := items_eqV rs hp ru rw'
    refine PySem.SeqAt.vl_ne_lists p1.isList p2.isList ?_ (by omega) (fun j h1 h2 => ?_) _ _ ⟨.bl false, H, I, rfl, p q _ H Ext.refl rs (.bl _)⟩
    · rw [List.size_toArray, List.size_toArray, ← r1.length, ← r2.length]
      exact pv.length
    · have k := items_run (fun x y v u h r1 r2 => eqV_run I 2 X.A.in1 (by show X.A.units + 1 + 2 < cLine; omega) x y v u h r1 r2) pv r1 r2 j (by simpa using h1) (by simpa using h2)
      simpa using k
  · exact False.elim p
theorem le_disp1 {k v : Expr} {fk fv : EF} {pos : Pos} (hk : PE X k (LE (gOf B X) E fk)) (hv : PE X v (LE (gOf B X) E fv)) : PE X (.Dict [some k] [v] pos) (LE (gOf B X) E (disp1F fk fv)) := (pe_disp (pps_cons hk hv pps_nil) rfl rfl (by simp) (by simp)).imp fun sg H Q w p hp => by
  obtain ⟨q, env, st, rs, re, k⟩ := w
  obtain ⟨e0, rs0, r0⟩ := dic_new rs hp
  refine LE.chain rs0 (re.ext e0) ((R.post_bind.mp k).imp (fun _ _ h => h) fun _ _ h => h.ext e0) fun x s1 q1 u H1 k e1 rs1 re1 rx => ?_
  refine LE.chain rs1 re1 ((R.post_bind.mp k).imp (fun _ _ h => h) fun _ _ h => h.ext (e0.trans e1)) fun y s2 q2 t H2 k e2 rs2 re2 ry => ?_
  split at k
  · rename_i hs
    split at k
    · rename_i hok
      have qp : q2[st.length]? = some p := by
        refine e2.at (e1.at ?_)
        rw [← rs.len]; simp
      obtain ⟨a, gs, qa, ha, hp2⟩ := rs2.dicK hs rfl
      rw [qp] at qa; cases qa
      cases hp2
      obtain ⟨kk, rfl, rfl⟩ := isKD_of (rx.ext e2) hok
      have mu : Mut (H2 p) := by rw [ha]; trivial
      obtain ⟨rs4, e4⟩ := rs2.put' (u := .dK (mergeK [] [(kk, t)])) (o := .dic [(dK kk, y)]) qp (fun zs e => by rw [hs] at e; cases e) mu (fun φ e => by rw [ha] at e; cases e) (fun ps e => by cases e) fun ext =>
        .inl ⟨[(kk, t)], upd_same, .cons ⟨rfl, ry.ext ext⟩ .nil⟩
      exact ⟨ha, [(kk, t)], rfl, by simp, k q2 _ _ (e0.trans (e1.trans (e2.trans e4))) rs4 (.ref qp)⟩
    · exact False.elim k
  · exact False.elim k
theorem uu {n c : Nat} (h : n + 64 < c) : n + 1 < c := by omega
end
end VL

/-! VLQ: defs that raise, calls of them, raise, try: one call, except as with isinstance asked; max of a list; != of dicts; == of lists; chains. -/
namespace VL
open PySem PySem.Spec PyProof.Rows L2
variable {B : Tb}
section
variable {P : Program} {w : World} {K : PySem.W.Frag} {mg : Str → Option Value} {base : Heap}
/-- a def that may raise -/
theorem fn1 {x qual : Str} {st : Stmt} {f : Addr} {fd : FuncData} {N ps : List Str} {k n m : Nat} {fb : SF} (F : Fun K x qual st f fd) (S : FnScope N ps (defScope st)) (hn : N.length = n) (hm : ps.length = m)
    (body : ∀ (cdv : Value) (A : Around) (outer : List Env) (s : Shared) (H : Hp) (E : XK), Room k (A.deeper (envOfC qual (defScope st) s.heap.objs.size f cdv)) →
      PSs (cxOf (L2.CX P w) P w K mg base N qual (defScope st) f cdv A outer s H E) (defBody st) (LS ⟨P, w, K, mg, B⟩ E fb)) : FnOk P w K mg base (L2.CX P w) (k + 1) f fd ps (SpD ⟨P, w, K, mg, B⟩ m (fnF n fb)) :=
  F.okX S (fun vs H Q E h => h.1.trans hm.symm) fun cdv A outer s H vs Q E hr h => ⟨_, body cdv A outer s H E hr, fn_le hn h.2⟩
theorem fn_badX {k m : Nat} {f : Addr} {fd : FuncData} {ps : List Str} {CX : CXT} (hm : ps.length = m) : FnOk P w K mg base CX k f fd ps (SpD ⟨P, w, K, mg, B⟩ m fun _ _ => .bad) :=
  ⟨fun vs H Q E h => h.1.trans hm.symm, fun A outer s H args us vs Q E hr he hb hv h => by
    obtain ⟨_, q, st, ds, _, _, p⟩ := h
    exact False.elim p⟩
end
section
variable {X : Cx} {E : XK}
/-- a call of a def that raises nothing, where others may -/
def callN (f : Fn) (fa : AF) : EF := fun env st => (fa env st).bind fun ds s => (f ds s).noex
theorem le_callN {k n : Nat} {f : Addr} {fd : FuncData} {ps : List Str} {fn : Fn} {x : Str} {p pos : Pos} {e : Expr} {es : List Expr} {fa : AF} (F : FnOk X.prog X.w X.K X.mg X.base CX0 k f fd ps (Sp0 (gOf B X) n fn)) (hr : Room k X.A) (hm : X.mg x = some (.ref f)) (hk : PySem.W.keepIn X.K (.ref f) = true) (hb : Binds X.K fd ps [])
    (ha : PA X (e :: es) (LA (gOf B X) E fa)) (hla : ∀ env st ds s, fa env st = .ok ds s → ds.length = n) (hg : Gl X x := by rfl) (hdb : (x == ("__debug__" : Str)) = false := by decide) (he : starEach (e :: es) X.env = (false, eval e X.env) :: starEach es X.env := by rfl) (hpl : (backTo pos (starEach es X.env)).any (·.1) = false := by rfl) :
    PE X (.Call (.Name x p) (e :: es) [] pos) (LE (gOf B X) E (callN fn fa)) :=
  (pe_call F hr hg hm hk hb .nil pass0 ha hdb he hpl).imp fun sg H Q w => by
    obtain ⟨q, env, st, rs, re, p⟩ := w
    have p := R.post_bind.mp p
    have p' : (fa env st).post (fun ds s => ds.length = n ∧ (fn ds s).post (KV (gOf B X) q H Q) (KX (gOf B X) q H E0)) (KX (gOf B X) q H E) := by
      cases hfa : fa env st with
      | ok ds s => rw [hfa] at p; exact ⟨hla _ _ _ _ hfa, R.post_noex p⟩
      | ex c s => rw [hfa] at p; exact p
      | bad => rw [hfa] at p; exact p
    refine LA.chain rs re p' fun xs s1 q1 vs H1 p e1 rs1 re1 rx => ?_
    rw [List.append_nil]
    exact ⟨by rw [rx.length]; exact p.1, q1, s1, xs, rs1, rx, p.2.imp (fun _ _ h => h.ext e1) fun _ _ h => h.ext e1⟩
/-- a call of a def that may raise -/
theorem le_callQ {k n : Nat} {f : Addr} {fd : FuncData} {ps : List Str} {fn : Fn} {x : Str} {p pos : Pos} {e : Expr} {es : List Expr} {fa : AF} (F : FnOk X.prog X.w X.K X.mg X.base (L2.CX X.prog X.w) k f fd ps (SpD (gOf B X) n fn)) (hr : Room k X.A) (hm : X.mg x = some (.ref f)) (hk : PySem.W.keepIn X.K (.ref f) = true) (hb : Binds X.K fd ps []) (tk : Takes X (fun cls d _ H => E cls d H))
    (ha : PA X (e :: es) (LA (gOf B X) E fa)) (hla : ∀ env st ds s, fa env st = .ok ds s → ds.length = n) (hg : Gl X x := by rfl) (hdb : (x == ("__debug__" : Str)) = false := by decide) (he : starEach (e :: es) X.env = (false, eval e X.env) :: starEach es X.env := by rfl) (hpl : (backTo pos (starEach es X.env)).any (·.1) = false := by rfl) :
    PE X (.Call (.Name x p) (e :: es) [] pos) (LE (gOf B X) E (callF fn fa)) :=
  (pe_callS (E := fun _ => E) F hr hg hm hk hb (fun σ => passAt tk σ) ha hdb he hpl).imp fun sg H Q w => by
    obtain ⟨q, env, st, rs, re, p⟩ := w
    have p := R.post_bind.mp p
    have p' : (fa env st).post (fun ds s => ds.length = n ∧ (fn ds s).post (KV (gOf B X) q H Q) (KX (gOf B X) q H E)) (KX (gOf B X) q H E) := by
      cases hfa : fa env st with
      | ok ds s => rw [hfa] at p; exact ⟨hla _ _ _ _ hfa, p⟩
      | ex c s => rw [hfa] at p; exact p
      | bad => rw [hfa] at p; exact p
    refine LA.chain rs re p' fun xs s1 q1 vs H1 p e1 rs1 re1 rx => ?_
    exact ⟨by rw [rx.length]; exact p.1, q1, s1, xs, rs1, rx, p.2.imp (fun _ _ h => h.ext e1) fun _ _ h => h.ext e1⟩
/-! ### raise -/
def exS (c : Str) : SF := fun _ st => .ex c st
/-- what K says of a class of exceptions of the program -/
structure ExcR (K : PySem.W.Frag) (C : Addr) (bmB : List Value) (newId : String) : Prop where
  q : PySem.W.excIn K C bmB newId = true
  kp : PySem.W.keepIn K (.ref C) = true
  sb : PySem.W.subIn K (.ref C) (.type "BaseException") = some true
  ty : PySem.W.typeIn K (.ref C) = some (.type "type")
theorem ls_raise {x m : Str} {C : Addr} {bmB : List Value} {Bh : _} {newId initId : String} {j : Nat} {p p2 pos pos' : Pos} (hc : X.calm = true) (tk : Takes X (fun cls d _ H => E cls d H)) (F : ExcBaseFacts Bh newId initId bmB) (gC : X.mg x = some (.ref C)) (r : ExcR X.K C bmB newId) (hg : Gl X x := by rfl) (hdb : (x == ("__debug__" : Str)) = false := by decide) :
    PS X (.Raise (some (.Call (.Name x p) [.Constant (.str m) j p2] [] pos)) none pos') (LS (gOf B X) E (exS x)) :=
  (ps_raise hc tk (pmk_own F r.q gC r.kp (raises_own r.sb r.ty) hg hdb)).imp fun T sg H w => by
    obtain ⟨q, env, st, rs, re, p⟩ := w
    exact p q H C Ext.refl rs gC
/-! ### try: y = f(..), except X as e: z = [isinstance(e, ..), ..] -/
def tIs (K : PySem.W.Frag) (D a : Addr) (i : Nat) (c : V) : TE := tCB (rIsE K D a) (tCons (tVar i) (tCons (tC c) tNil))
def tIsA (K : PySem.W.Frag) (D a : Addr) (i : Nat) : List V → TA
  | [] => tNil
  | c :: r => tCons (tIs K D a i c) (tIsA K D a i r)
/-- of an exception of the class D, the asked classes are told bs -/
def KitAll (K : PySem.W.Frag) (D : Addr) (cs : List V) (bs : List Bool) : Prop := Paired (fun c b => ∃ cv, (∀ u, RelV c u → u = cv) ∧ PySem.W.kitOne K (.ref D) cv = some b) cs bs
theorem tIsA_all {K : PySem.W.Frag} {D a : Addr} {i : Nat} {sg : L2.St} {H : Hp} (hs : sg[i]? = some (some (.ref a))) : ∀ {cs : List V} {bs : List Bool} {Q : List V → Hp → Prop}, KitAll K D cs bs → Q (bs.map V.bl) H → tIsA K D a i cs sg H Q
  | _, _, Q, .nil, h => h
  | _, _, Q, .cons (a := c) (b := b) hc t, h => by
    obtain ⟨cv, h1, h2⟩ := hc
    refine ⟨_, hs, c, cv, b, rfl, h1, h2, ?_⟩
    exact tIsA_all hs t (Q := fun xs H' => Q (V.bl b :: xs) H') h
theorem ps_when {s : Stmt} {α : Type} {p : α → Prop} {t : α → TS} (h : ∀ a, p a → PS X s (t a)) : PS X s (fun T sg H => ∃ a, p a ∧ t a T sg H) := ⟨fun pins s σ H D I ⟨a, k, w⟩ => (h a k).run pins s σ H D I w⟩
theorem pss_when {s : List Stmt} {α : Type} {p : α → Prop} {t : α → TS} (h : ∀ a, p a → PSs X s (t a)) : PSs X s (fun T sg H => ∃ a, p a ∧ t a T sg H) := ⟨fun pins s σ H D I ⟨a, k, w⟩ => (h a k).run pins s σ H D I w⟩
theorem kit_ref {K : PySem.W.Frag} {C D : Addr} {b : Bool} (hd : PySem.W.hasDictIn K C = true) (ht : PySem.W.typeIn K (.ref C) = some (.type "type")) (hs : PySem.W.subIn K (.ref C) (.ref C) = some true) (h : PySem.W.subIn K (.ref D) (.ref C) = some b) : PySem.W.kitOne K (.ref D) (.ref C) = some b := by
  unfold PySem.W.kitOne
  split
  · rename_i e
    have e2 : D = C := by
      have := beq_iff_eq.mp e
      injection this
    subst e2
    rw [hs] at h
    exact h
  · obtain ⟨cd, hc, _⟩ := PySem.W.any_some hd
    have e2 : ((PySem.W.clsIn K C).isSome && PySem.W.typeIn K (.ref C) == some (.type "type")) = true := by rw [hc, ht] <;> rfl
    show (if ((PySem.W.clsIn K C).isSome && PySem.W.typeIn K (.ref C) == some (.type "type")) = true then PySem.W.subIn K (.ref D) (.ref C) else none) = some b
    rw [if_pos e2]
    exact h
theorem kit_VE {K : PySem.W.Frag} {D : Addr} {b : Bool} (h : PySem.W.subIn K (.ref D) (.type "ValueError") = some b) : PySem.W.kitOne K (.ref D) (.type "ValueError") = some b := by
  unfold PySem.W.kitOne
  split
  · rename_i e
    have := beq_iff_eq.mp e
    cases this
  · show (if PySem.W.kitMeta "ValueError" = true then PySem.W.subIn K (.ref D) (.type "ValueError") else none) = some b
    rw [if_pos (by decide)]
    exact h
/-- behind the call -/
def tryKK (i ie j : Nat) (kinds : Str → Option (List Bool)) (env : EnvD) (r : R D) : R Fl := match r with
  | .ok d s' => .ok (.nx (env.set i (some d))) s'
  | .ex c s' => (match kinds c with
    | some bs => if ie < env.length then .ok (.nx ((env.set j (some (.ref s'.length))).set ie none)) (s' ++ [.lst (bs.map D.bl)]) else .bad
    | none => .bad)
  | .bad => .bad
def tryKS (i ie j : Nat) (fn : Fn) (fa : AF) (kinds : Str → Option (List Bool)) : SF := fun env st => (fa env st).noex.bind fun ds s => tryKK i ie j kinds env (fn ds s)
theorem bls {g : G} {q : List Addr} {H : Hp} : ∀ bs : List Bool, RDs g q H (bs.map V.bl) (bs.map D.bl)
  | [] => .nil
  | b :: bs => .cons (.bl b) (bls bs)
theorem RE.unset {g : G} {q : List Addr} {H : Hp} {sg : L2.St} {env : EnvD} (r : RE g q H sg env) (i : Nat) : RE g q H (sg.set i none) (env.set i none) := Paired.set_ (fun x e => nomatch e) i r
theorem RE.over {g : G} {q : List Addr} {H : Hp} {sg : L2.St} {env : EnvD} (r : RE g q H sg env) (i : Nat) (v : Option V) : RE g q H (sg.set i v) (env.set i none) := Paired.set_ (fun x e => nomatch e) i r
/-- what the text needs of the classes -/
structure KindsOk (X : Cx) (cV : Value) (cs : List V) (kinds : Str → Option (List Bool)) : Prop where
  at_ : ∀ c bs, kinds c = some bs → ∃ D, X.mg c = some (.ref D) ∧ PySem.W.exmOne X.K (.ref D) cV = some true ∧ ExcC X.K D ∧ KitAll X.K D cs bs ∧ bs.length ≤ sizeLine
theorem ls_tryK {i ie j k n : Nat} {y z en xV : Str} {py pz p pos pos' np spos bpos tpos : Pos} {f : Addr} {fd : FuncData} {ps : List Str} {fn : Fn} {x : Str} {e : Expr} {es ts : List Expr} {fa : AF} {kinds : Str → Option (List Bool)} {cV : Value} {cs : List V} {lpos : Pos}
    (hs : X.stack = X.env :: X.outer) (hf : X.env.frame = some X.env.locals) (hN : X.N.Nodup) (hie : X.N[ie]? = some en) (hln : X.env.kindOf en = some .local) (hc : Names X xV cV) (tk : Takes X (fun _ _ _ _ => False))
    (F : FnOk X.prog X.w X.K X.mg X.base (L2.CX X.prog X.w) k f fd ps (SpD (gOf B X) n fn)) (hr : Room k X.A) (hm : X.mg x = some (.ref f)) (hk : PySem.W.keepIn X.K (.ref f) = true) (hb : Binds X.K fd ps [])
    (ha : ∀ (pn : List (Addr × Obj)) (xe : Value → Shared → Prop), PA (X.tr pn xe) (e :: es) (LA (gOf B X) E0 fa)) (hla : ∀ env st ds s, fa env st = .ok ds s → ds.length = n)
    (ho : KindsOk X cV cs kinds)
    (ht : ∀ (D a : Addr) (oe : Obj) (pn : List (Addr × Obj)), ExcC X.K D → Zc (.ref D) none oe → (∃ vs, oe.data = .fields vs) → PA (X.suite a ((a, oe) :: pn)) ts (tIsA X.K D a ie cs))
    (hi : X.N[i]? = some y) (hx : Loc X.env.scope y) (hj : X.N[j]? = some z) (hxz : Loc X.env.scope z) (hij : ie ≠ j)
    (hfy : X.fn y = true ∨ X.env.scope.names.lookup y = some .local := by first | exact .inl rfl | exact .inr rfl) (hfz : X.fn z = true ∨ X.env.scope.names.lookup z = some .local := by first | exact .inl rfl | exact .inr rfl)
    (hg : Gl X x := by rfl) (hdb : (x == ("__debug__" : Str)) = false := by decide) (he : starEach (e :: es) X.env = (false, eval e X.env) :: starEach es X.env := by rfl) (hpl : (backTo pos (starEach es X.env)).any (·.1) = false := by rfl)
    (hsw : swapsWith (.Call (.Name x p) (e :: es) [] pos) (some (.Name y py)) spos.line X.env = pure false := by rfl) (hsw2 : swapsWith (.List ts lpos) (some (.Name z pz)) bpos.line X.env = pure false := by rfl) :
    PS X (.Try [.Assign [.Name y py] (.Call (.Name x p) (e :: es) [] pos) spos] [.ExceptHandler (some (.Name xV np)) (some en) [.Assign [.Name z pz] (.List ts lpos) bpos] pos'] [] [] tpos) (LS (gOf B X) E0 (tryKS i ie j fn fa kinds)) := by
  refine (ps_try_as (i := ie) (tb := fun W => tAsg (tCallS (SpD (gOf B X) n fn) (WE W) (LA (gOf B X) E0 fa)) (gName i)) (ts := fun a cls d => fun T sg H => ∃ D : Addr, (cls = .ref D ∧ d = none ∧ ExcC X.K D) ∧ tAsg (tLst (tIsA X.K D a ie cs)) (gName j) T sg H) (Wout := fun _ _ _ _ => False) hs hf hN hie hln hc tk
    (fun W pn xe tk _ => pss_one (ps_set (i := i) hN hi hx (pe_callS (X := X.tr pn xe) (E := WE W) F hr hg hm hk hb (fun σ => passAt tk σ) (ha pn xe) hdb he hpl) hsw hfy))
    (fun a oe cls d pn hz hfl => pss_when fun D h => by
      obtain ⟨rfl, rfl, hC⟩ := h
      exact pss_one (ps_set (X := X.suite a ((a, oe) :: pn)) (i := j) hN hj hxz (pe_lst (ht D a oe pn hC hz hfl)) hsw2 hfz))).imp fun T sg H w => ?_
  obtain ⟨q, env, st, rs, re, p⟩ := w
  have p2 : (fa env st).post (fun ds s => ds.length = n ∧ (tryKK i ie j kinds env (fn ds s)).post (KS (gOf B X) q H T) (KX (gOf B X) q H E0)) (KX (gOf B X) q H E0) := by
    unfold tryKS at p
    cases hfa : fa env st with
    | ok ds s => rw [hfa] at p; exact ⟨hla _ _ _ _ hfa, p⟩
    | ex c s => rw [hfa] at p; exact False.elim p
    | bad => rw [hfa] at p; exact False.elim p
  refine LA.chain rs re p2 fun ds s1 q1 vs H1 p e1 rs1 re1 rx => ?_
  obtain ⟨hl, p⟩ := p
  refine ⟨by rw [rx.length]; exact hl, q1, s1, ds, rs1, rx, ?_⟩
  cases hfn : fn ds s1 with
  | bad => rw [hfn] at p; exact False.elim p
  | ok d s' =>
    rw [hfn] at p
    intro q2 v H2 e2 rs2 rd
    exact p q2 H2 (e1.trans e2) rs2 _ ((re1.ext e2).set rd)
  | ex c s' =>
    rw [hfn] at p
    intro q2 H2 C e2 rs2 hmc
    cases hk : kinds c with
    | none => simp only [tryKK, hk] at p; exact False.elim p
    | some bs =>
      simp only [tryKK, hk] at p
      split at p
      case isFalse => exact False.elim p
      rename_i lie
      obtain ⟨D, hmD, hx1, hC, hkit, hsz⟩ := ho.at_ c bs hk
      have hDC : D = C := by
        have : X.mg c = some (.ref C) := hmc
        rw [hmD] at this; injection this with this; injection this
      subst hDC
      refine ⟨true, hx1, fun _ a _ => ⟨D, ⟨rfl, rfl, hC⟩, ?_⟩, fun z => nomatch z⟩
      have re2 := re1.ext e2
      have lie : ie < sg.length := by rw [Paired.length re]; exact lie
      refine tIsA_all (bs := bs) (by rw [List.getElem?_set_self lie]) hkit ⟨by rw [List.length_map]; exact hsz, fun p' hp' => ?_⟩
      obtain ⟨e3, rs3, r3⟩ := lst_new rs2 hp' (bls bs)
      refine p _ _ (e1.trans (e2.trans e3)) rs3 _ ?_
      have re3 := ((RE.over (re2.ext e3) ie (some (V.ref a))).set (i := j) r3).unset ie
      have ee : ((env.set ie none).set j (some (VL.D.ref s'.length))).set ie none = (env.set j (some (VL.D.ref s'.length))).set ie none := by
        rw [List.set_comm _ _ hij, List.set_set]
      rw [ee] at re3
      exact re3
/-! ### max of a list of ints -/
def maxLD : List D → Sto → R D
  | [.ref n], st => match (listAt st n).bind intsO with
    | some (i :: is) => .ok (.int (is.foldl max i)) st
    | _ => .bad
  | _, _ => .bad
theorem foldl_max_ge : ∀ (is : List Int) (i : Int), i ≤ is.foldl max i ∧ ∀ y ∈ is, y ≤ is.foldl max i
  | [], i => ⟨Int.le_refl _, fun y h => by cases h⟩
  | x :: is, i => by
    obtain ⟨h1, h2⟩ := foldl_max_ge is (max i x)
    refine ⟨Int.le_trans (Int.le_max_left i x) h1, fun y hy => ?_⟩
    rcases List.mem_cons.mp hy with rfl | hy
    · exact Int.le_trans (Int.le_max_right i y) h1
    · exact h2 y hy
theorem foldl_max_mem : ∀ (is : List Int) (i : Int), is.foldl max i = i ∨ is.foldl max i ∈ is
  | [], i => .inl rfl
  | x :: is, i => by
    rcases foldl_max_mem is (max i x) with h | h
    · show is.foldl max (max i x) = i ∨ is.foldl max (max i x) ∈ x :: is
      rw [h]
      by_cases hx : x ≤ i
      · left; exact Int.max_eq_left hx
      · right; rw [Int.max_eq_right (by omega)]; exact List.mem_cons_self
    · exact .inr (List.mem_cons_of_mem _ h)
theorem call_maxLD (hc : X.calm = true) : CallR X (.builtin "max") (LC (gOf B X) E maxLD) := (cr_max hc).imp fun vs H Q w => by
  obtain ⟨q, st, ds, rs, rd, p⟩ := w
  unfold maxLD at p
  split at p
  · split at p
    · rename_i i is h
      obtain ⟨xs, h1, h2⟩ := Option.bind_eq_some_iff.mp h
      obtain ⟨v, rfl, r⟩ := rd.one_inv
      obtain ⟨a, rfl, qa⟩ := r.ref_inv
      obtain ⟨b, us, qb, hs, ru⟩ := rs.listAt h1
      rw [qa] at qb; cases qb
      refine ⟨a, i :: is, rfl, ?_, by simp, fun m hm hy => ?_⟩
      · rw [← ru.ints_ h2]; exact hs
      · have e : m = is.foldl max i := by
          obtain ⟨g1, g2⟩ := foldl_max_ge is i
          have l1 : m ≤ is.foldl max i := by
            rcases List.mem_cons.mp hm with rfl | hm
            · exact g1
            · exact g2 m hm
          have l2 : is.foldl max i ≤ m := by
            rcases foldl_max_mem is i with h | h
            · rw [h]; exact hy _ List.mem_cons_self
            · exact hy _ (List.mem_cons_of_mem _ h)
          omega
        rw [e]
        exact p q _ H Ext.refl rs (.int _)
    · exact False.elim p
  · exact False.elim p
/-! ### two equal dicts: not unlike -/
theorem uv {n c : Nat} (h : n + 64 < c) : n < c := by omega
open Classical in
noncomputable def neDC : D → D → Sto → R D := fun x y st => if SameDic st x y then .ok (.bl false) st else .bad
theorem op_neDC (hu : X.A.units < cLine) : OpR X (compareOp .NotEq) (LR (gOf B X) E neDC) := (op_ne_dictA hu).imp fun x y H Q w => by
  obtain ⟨q, st, a, b, rs, ra, rb, p⟩ := w
  unfold neDC at p
  split at p
  · rename_i h
    obtain ⟨i, j, kvs, rfl, rfl, h1, h2, hk, nd, fl⟩ := h
    obtain ⟨a, rfl, qa⟩ := ra.ref_inv
    obtain ⟨b, rfl, qb⟩ := rb.ref_inv
    obtain ⟨a', ks, qa', ha, pa⟩ := rs.dicK h1 hk
    rw [qa] at qa'; cases qa'
    obtain ⟨b', ls, qb', hb, pb⟩ := rs.dicK h2 hk
    rw [qb] at qb'; cases qb'
    refine ⟨a, b, ks, ls, rfl, rfl, ha, hb, by rw [← pa.length, ← pb.length], fun p hp => ?_, p q _ H Ext.refl rs (.bl _)⟩
    obtain ⟨u, e1, e2, e3⟩ := same_vals pa pb nd fl p hp
    exact ⟨by rw [e1, e2], e3⟩
  · exact False.elim p
/-! ### lists of truths are equal -/
def truO : List D → Option (List Bool)
  | [] => some []
  | .bl b :: r => (truO r).map fun bs => b :: bs
  | _ => none
theorem truO_map : ∀ bs : List Bool, truO (bs.map D.bl) = some bs
  | [] => rfl
  | b :: bs => by rw [List.map_cons, truO, truO_map bs]; rfl
theorem RDs.truO_ {g : G} {q : List Addr} {H : Hp} : ∀ {vs : List V} {ds : List D} {bs : List Bool}, RDs g q H vs ds → truO ds = some bs → vs = bs.map V.bl
  | _, _, _, .nil, h => by cases h; rfl
  | v :: vs, d :: ds, bs, .cons r t, h => by
    cases d with
    | bl b =>
      obtain ⟨js, h1, rfl⟩ := Option.map_eq_some_iff.mp (show (truO ds).map (fun bs => b :: bs) = some bs from h)
      rw [r.bl_inv, RDs.truO_ t h1]
      rfl
    | _ => cases h
def eqBL : D → D → Sto → R D
  | .ref m, .ref n, st => match (listAt st m).bind truO, (listAt st n).bind truO with
    | some bs, some cs => if bs = cs then .ok (.bl true) st else .bad
    | _, _ => .bad
  | _, _, _ => .bad
theorem eqv_bls {K : PySem.W.Frag} {H : Hp} : ∀ bs : List Bool, Paired (EqV K H 1) (bs.map V.bl) (bs.map V.bl)
  | [] => .nil
  | b :: bs => .cons (.inl ⟨rfl, rfl⟩) (eqv_bls bs)
theorem op_eqBL (hu : X.A.units + 64 < cLine) : OpR X (compareOp .Eq) (LR (gOf B X) E eqBL) := (op_eqV hu).imp fun x y H Q w => by
  obtain ⟨q, st, a, b, rs, ra, rb, p⟩ := w
  unfold eqBL at p
  split at p
  · split at p
    · rename_i bs cs h1 h2
      split at p
      · rename_i he
        subst he
        obtain ⟨xs, h1, k1⟩ := Option.bind_eq_some_iff.mp h1
        obtain ⟨ys, h2, k2⟩ := Option.bind_eq_some_iff.mp h2
        obtain ⟨a, rfl, qa⟩ := ra.ref_inv
        obtain ⟨b, rfl, qb⟩ := rb.ref_inv
        obtain ⟨a', us, qa', ha, ru⟩ := rs.listAt h1
        rw [qa] at qa'; cases qa'
        obtain ⟨b', ws, qb', hb, rw'⟩ := rs.listAt h2
        rw [qb] at qb'; cases qb'
        have e1 := ru.truO_ k1
        have e2 := rw'.truO_ k2
        subst e1 e2
        refine ⟨1, by decide, .inl ⟨a, b, _, _, rfl, rfl, ha, hb, ?_⟩, p q _ H Ext.refl rs (.bl _)⟩
        exact eqv_bls bs
      · exact False.elim p
    · exact False.elim p
  · exact False.elim p
/-! ### a op b op' c -/
def chainK (f' : D → D → Sto → R D) (fc : EF) (env : EnvD) (y z : D) (s2 : Sto) : R D := match z with
  | .bl b => if b = true then (fc env s2).bind fun w s3 => f' y w s3 else .ok (.bl false) s2
  | _ => .bad
def chainF (f f' : D → D → Sto → R D) (fa fb fc : EF) : EF := fun env st => (fa env st).bind fun x s => (fb env s).bind fun y s1 => (f x y s1).bind fun z s2 => chainK f' fc env y z s2
theorem chain_le {f f' : D → D → Sto → R D} {fa fb fc : EF} {sg : L2.St} {H : Hp} {Q : VK} (w : LE (gOf B X) E (chainF f f' fa fb fc) sg H Q) : tChain (LR (gOf B X) E f) (LR (gOf B X) E f') (LE (gOf B X) E fa) (LE (gOf B X) E fb) (LE (gOf B X) E fc) sg H Q := by
  obtain ⟨q, env, st, rs, re, p⟩ := w
  refine LE.chain rs re (R.post_bind.mp p) fun x s1 q1 v H1 p e1 rs1 re1 rx => ?_
  refine LE.chain rs1 re1 ((R.post_bind.mp p).imp (fun _ _ h => h) fun _ _ h => h.ext e1) fun y s2 q2 u H2 p e2 rs2 re2 ry => ?_
  refine ⟨q2, s2, x, y, rs2, rx.ext e2, ry, (R.post_bind.mp p).imp (fun z s3 p q3 t H3 e3 rs3 rz => ?_) fun _ _ h => h.ext (e1.trans e2)⟩
  unfold chainK at p
  split at p
  · rename_i b
    refine ⟨b, rz.bl_inv, ?_⟩
    cases b with
    | false =>
      rw [if_neg Bool.false_ne_true] at p ⊢
      exact p q3 _ H3 (e1.trans (e2.trans e3)) rs3 (.bl _)
    | true =>
      rw [if_pos rfl] at p ⊢
      refine LE.chain rs3 (re2.ext e3) ((R.post_bind.mp p).imp (fun _ _ h => h) fun _ _ h => h.ext (e1.trans (e2.trans e3))) fun w s4 q4 r H4 p e4 rs4 re4 rw => ?_
      exact ⟨q4, s4, y, w, rs4, ry.ext (e3.trans e4), rw, p.imp (fun _ _ h => h.ext (e1.trans (e2.trans (e3.trans e4)))) fun _ _ h => h.ext (e1.trans (e2.trans (e3.trans e4)))⟩
  · exact False.elim p
theorem lt_chain {a b c : Expr} {pos : Pos} {op op' : CmpOp} {f f' : D → D → Sto → R D} {fa fb fc : EF} (ho : OpR X (compareOp op) (LR (gOf B X) E f)) (ho' : OpR X (compareOp op') (LR (gOf B X) E f')) (ha : PE X a (LE (gOf B X) E fa)) (hb : PE X b (LE (gOf B X) E fb)) (hc : PE X c (LE (gOf B X) E fc)) (hm : lastMarks [op, op'] [b, c] = false := by with_unfolding_all rfl) :
    PT X (.Compare a [op, op'] [b, c] pos) (LT (gOf B X) E (bF (chainF f f' fa fb fc))) := (pt_chain ho ho' ha hb hc hm).imp fun _ _ _ w => chain_le (bool_le w)
theorem le_chain {a b c : Expr} {pos : Pos} {op op' : CmpOp} {f f' : D → D → Sto → R D} {fa fb fc : EF} (ho : OpR X (compareOp op) (LR (gOf B X) E f)) (ho' : OpR X (compareOp op') (LR (gOf B X) E f')) (ha : PE X a (LE (gOf B X) E fa)) (hb : PE X b (LE (gOf B X) E fb)) (hc : PE X c (LE (gOf B X) E fc)) (hm : lastMarks [op, op'] [b, c] = false := by with_unfolding_all rfl) :
    PE X (.Compare a [op, op'] [b, c] pos) (LE (gOf B X) E (chainF f f' fa fb fc)) := (pe_chain ho ho' ha hb hc hm).imp fun _ _ _ w => chain_le w
end
end VL

/-! VLM: reckoning with the functions: loops, comprehensions, stores that grow, sizes of ints. -/
namespace VL
open PySem L2 LamX NdefX

theorem log2_lt {n k : Nat} (h : n < 2 ^ k) (hk : 0 < k) : n.log2 < k := by
  by_cases h0 : n = 0
  · subst h0; simpa using hk
  · exact (Nat.log2_lt h0).mpr h
/-- an int below 2 ^ 1000 in size; sums and products of such -/
def Sm (k : Nat) (a : Int) : Prop := a.natAbs < 2 ^ k
instance {k : Nat} {a : Int} : Decidable (Sm k a) := inferInstanceAs (Decidable (a.natAbs < 2 ^ k))
theorem Sm.log {k : Nat} {a : Int} (h : Sm k a) (hk : 0 < k) : a.natAbs.log2 < k := log2_lt h hk
theorem Sm.of {k : Nat} {a b : Int} (h0 : 0 ≤ a) (h : a < b) (hb : b ≤ 2 ^ k) : Sm k a := by
  unfold Sm
  have e : ((a.natAbs : Nat) : Int) < ((2 ^ k : Nat) : Int) := by
    rw [Int.natAbs_of_nonneg h0]
    have : ((2 ^ k : Nat) : Int) = (2 : Int) ^ k := by push_cast; rfl
    rw [this]
    omega
  exact Int.ofNat_lt.mp e
theorem Sm.mod {k : Nat} {a m : Int} (hm : 0 < m) (hk : m ≤ 2 ^ k) : Sm k (a % m) := Sm.of (Int.emod_nonneg a (by omega)) (Int.emod_lt_of_pos a hm) hk
theorem Sm.mul {j k : Nat} {a b : Int} (ha : Sm j a) (hb : Sm k b) : Sm (j + k) (a * b) := by
  unfold Sm at *
  rw [Int.natAbs_mul, Nat.pow_add]
  exact Nat.mul_lt_mul'' ha hb
theorem Sm.add {k : Nat} {a b : Int} (ha : Sm k a) (hb : Sm k b) : Sm (k + 1) (a + b) := by
  unfold Sm at *
  have := Int.natAbs_add_le a b
  rw [Nat.pow_succ]
  omega
theorem Sm.neg {k : Nat} {a : Int} (ha : Sm k a) : Sm k (-a) := by unfold Sm at *; rw [Int.natAbs_neg]; exact ha
theorem Sm.sub {k : Nat} {a b : Int} (ha : Sm k a) (hb : Sm k b) : Sm (k + 1) (a - b) := by rw [Int.sub_eq_add_neg]; exact ha.add hb.neg
theorem Sm.mono {j k : Nat} {a : Int} (h : Sm j a) (hk : j ≤ k) : Sm k a := Nat.lt_of_lt_of_le h (Nat.pow_le_pow_right (by decide) hk)
/-- the product of two such is within the model's line -/
theorem mul_ok {j k : Nat} {a b : Int} (ha : Sm j a) (hb : Sm k b) (h : j + k ≤ 900000 := by decide) (hj : 0 < j := by decide) (hk : 0 < k := by decide) : decide (MulOk a b) = true := by
  have h1 := ha.log hj
  have h2 := hb.log hk
  exact decide_eq_true (.inl (by omega))
theorem mul_okR {a b : Int} (hb : Sm 64 b) : decide (MulOk a b) = true := decide_eq_true (.inr (.inr hb))
theorem mul_okL {a b : Int} (ha : Sm 64 a) : decide (MulOk a b) = true := decide_eq_true (.inr (.inl ha))
theorem mulD_ok {j k : Nat} {a b : Int} {st : Sto} (ha : Sm j a) (hb : Sm k b) (h : j + k ≤ 900000 := by decide) (hj : 0 < j := by decide) (hk : 0 < k := by decide) : mulD (.int a) (.int b) st = .ok (.int (a * b)) st := by
  show (if decide (MulOk a b) = true then _ else _) = _
  rw [mul_ok ha hb h hj hk, if_pos rfl]

/-! ### stores that grow -/
theorem get_app {st j : Sto} {n : Nat} {o : O} (h : st[n]? = some o) : (st ++ j)[n]? = some o := by
  rw [List.getElem?_append_left (List.getElem?_eq_some_iff.mp h).1]; exact h
theorem listAt_app {st j : Sto} {n : Nat} {xs : List D} (h : listAt st n = some xs) : listAt (st ++ j) n = some xs := by
  unfold listAt at *
  split at h
  · rename_i e; rw [get_app e]; exact h
  · rename_i e; rw [get_app e]; exact h
  · cases h
theorem get_last {st : Sto} {o : O} : (st ++ [o])[st.length]? = some o := by simp
theorem set_last {st : Sto} {o u : O} : (st ++ [o]).set st.length u = st ++ [u] := by simp
theorem listAt_last {st : Sto} {xs : List D} : listAt (st ++ [.lst xs]) st.length = some xs := listAt_lst get_last
/-- st' has all that st has -/
def Le (st st' : Sto) : Prop := ∃ j, st' = st ++ j
theorem Le.refl (st : Sto) : Le st st := ⟨[], by simp⟩
theorem Le.trans {a b c : Sto} (h : Le a b) (k : Le b c) : Le a c := by
  obtain ⟨j, rfl⟩ := h
  obtain ⟨l, rfl⟩ := k
  exact ⟨j ++ l, by simp⟩
theorem Le.app (st j : Sto) : Le st (st ++ j) := ⟨j, rfl⟩
theorem Le.get {a b : Sto} (h : Le a b) {n : Nat} {o : O} (e : a[n]? = some o) : b[n]? = some o := by obtain ⟨j, rfl⟩ := h; exact get_app e
theorem Le.listAt {a b : Sto} (h : Le a b) {n : Nat} {xs : List D} (e : listAt a n = some xs) : VL.listAt b n = some xs := by obtain ⟨j, rfl⟩ := h; exact listAt_app e
theorem Le.len {a b : Sto} (h : Le a b) : a.length ≤ b.length := by obtain ⟨j, rfl⟩ := h; simp

/-! ### loops -/
theorem forL_nil {c : Chk} {gf : GF} {b : SF} {env : EnvD} {st : Sto} (h : ChkOk c st) : forL c gf b [] env st = .ok (.nx env) st := by unfold forL; rw [if_pos h]
theorem forL_cons {c : Chk} {gf : GF} {b : SF} {x : D} {r : List D} {env : EnvD} {st : Sto} (h : ChkOk c st) : forL c gf b (x :: r) env st = (gf x env st).bind fun e s => (b e s).bind fun fl s' => match fl with
      | .nx e' => forL c gf b r e' s'
      | .ct e' => forL c gf b r e' s'
      | .bk e' => .ok (.nx e') s'
      | .rt d => .ok (.rt d) s' := by
  rw [forL, if_pos h]
  all_goals rfl
/-- a loop whose turns all go on -/
theorem forL_inv {c : Chk} {gf : GF} {b : SF} {ds : List D} {env : EnvD} {st : Sto} (I : Nat → EnvD → Sto → Prop) (h0 : I 0 env st) (hc : ∀ i env st, I i env st → ChkOk c st)
    (hs : ∀ i x env st, ds[i]? = some x → I i env st → ∃ e s e' s', gf x env st = .ok e s ∧ b e s = .ok (.nx e') s' ∧ I (i + 1) e' s') : ∃ e' s', forL c gf b ds env st = .ok (.nx e') s' ∧ I ds.length e' s' := by
  have all : ∀ (r : List D) (i : Nat) (env : EnvD) (st : Sto), i ≤ ds.length → ds.drop i = r → I i env st → ∃ e' s', forL c gf b r env st = .ok (.nx e') s' ∧ I ds.length e' s' := by
    intro r
    induction r with
    | nil =>
      intro i env st hi hd h
      have hl : ds.length ≤ i := List.drop_eq_nil_iff.mp hd
      have e : i = ds.length := by omega
      subst e
      exact ⟨env, st, forL_nil (hc _ _ _ h), h⟩
    | cons x r ih =>
      intro i env st hi hd h
      have hx : ds[i]? = some x := by
        have := congrArg (fun l => l[0]?) hd
        simpa using this
      obtain ⟨e, s, e', s', h1, h2, h3⟩ := hs i x env st hx h
      rw [forL_cons (hc _ _ _ h), h1, R.bind_ok, h2, R.bind_ok]
      refine ih (i + 1) e' s' ?_ ?_ h3
      · have := (List.getElem?_eq_some_iff.mp hx).1
        omega
      · have := congrArg List.tail hd
        simpa using this
  exact all ds 0 env st (Nat.zero_le _) (by simp) h0
/-- a loop that looks for the first item of which p is so, and leaves there -/
theorem forL_first {c : Chk} {gf : GF} {b : SF} {p : D → Bool} {r : D → D} {st : Sto} (hc : ChkOk c st) : ∀ {ds : List D} {env : EnvD} (J : EnvD → Prop), J env →
    (∀ x ∈ ds, ∀ env, J env → ∃ e, gf x env st = .ok e st ∧ (p x = true → b e st = .ok (.rt (r x)) st) ∧ (p x = false → ∃ e', b e st = .ok (.nx e') st ∧ J e')) →
    (∃ x, ds.find? p = some x ∧ forL c gf b ds env st = .ok (.rt (r x)) st) ∨ (ds.find? p = none ∧ ∃ e', forL c gf b ds env st = .ok (.nx e') st ∧ J e')
  | [], env, J, h0, _ => .inr ⟨rfl, env, forL_nil hc, h0⟩
  | x :: ds, env, J, h0, hs => by
    obtain ⟨e, h1, h2, h3⟩ := hs x List.mem_cons_self env h0
    rw [forL_cons hc, h1, R.bind_ok]
    cases hp : p x with
    | true => exact .inl ⟨x, by rw [List.find?_cons, hp], by rw [h2 hp, R.bind_ok]⟩
    | false =>
      obtain ⟨e', h4, h5⟩ := h3 hp
      rw [h4, R.bind_ok, List.find?_cons, hp]
      exact forL_first hc J h5 fun y hy => hs y (List.mem_cons_of_mem _ hy)
/-- a loop that goes on as long as each turn does, and leaves with False at the first turn that does not: all turns go on -/
theorem forS_ok {it : ItF} {gf : GF} {b : SF} {env : EnvD} {st : Sto} {ds : List D} {c : Chk} {s : Sto} {r : R Fl} (h : it env st = .ok (ds, c) s) (h2 : forL c gf b ds env s = r) : forS it gf b env st = r := by
  unfold forS; rw [h, R.bind_ok]; exact h2

/-! ### comprehensions -/
theorem lcL_nil {c : Chk} {gf : GF} {tt : TF} {te : EF} {env : EnvD} {n : Nat} {st : Sto} (h : ChkOk c st) : lcL c gf tt te env n [] st = .ok () st := by unfold lcL; rw [if_pos h]
theorem lcL_cons {c : Chk} {gf : GF} {tt : TF} {te : EF} {env : EnvD} {n : Nat} {x : D} {r : List D} {st : Sto} (h : ChkOk c st) : lcL c gf tt te env n (x :: r) st = (gf x env st).noex.bind fun e s => (tt e s).noex.bind fun b s1 => if b = true then (te e s1).noex.bind fun d s2 => match s2[n]? with
        | some (.lst acc) => if acc.length < sizeLine then lcL c gf tt te env n r (s2.set n (.lst (acc ++ [d]))) else .bad
        | _ => .bad
      else lcL c gf tt te env n r s1 := by
  rw [lcL, if_pos h]
  all_goals rfl
/-- a comprehension whose element lays nothing -/
theorem lcL_map {c : Chk} {gf : GF} {te : EF} {env : EnvD} {s : Sto} {h : D → D} (hc : ∀ acc, ChkOk c (s ++ [.lst acc])) : ∀ {ds : List D} {acc : List D}, acc.length + ds.length ≤ sizeLine →
    (∀ x ∈ ds, ∀ acc, ∃ e, gf x env (s ++ [.lst acc]) = .ok e (s ++ [.lst acc]) ∧ te e (s ++ [.lst acc]) = .ok (h x) (s ++ [.lst acc])) →
    lcL c gf yesT te env s.length ds (s ++ [.lst acc]) = .ok () (s ++ [.lst (acc ++ ds.map h)])
  | [], acc, _, _ => by rw [lcL_nil (hc acc)]; simp
  | x :: ds, acc, hl, hb => by
    obtain ⟨e, h1, h2⟩ := hb x List.mem_cons_self acc
    rw [List.length_cons] at hl
    rw [lcL_cons (hc acc), h1, R.noex_ok, R.bind_ok]
    show (R.noex (R.ok true _)).bind _ = _
    rw [R.noex_ok, R.bind_ok, if_pos rfl, h2, R.noex_ok, R.bind_ok, get_last]
    simp only
    rw [if_pos (by omega), set_last, lcL_map hc (by rw [List.length_append, List.length_singleton]; omega) fun y hy => hb y (List.mem_cons_of_mem _ hy)]
    simp
theorem lcF_map {it : ItF} {vs : List Nat} {gf : GF} {te : EF} {env : EnvD} {st s : Sto} {ds : List D} {c : Chk} (h : D → D) (hit : it env st = .ok (ds, c) s) (hc : ∀ acc, ChkOk c (s ++ [.lst acc])) (hl : ds.length ≤ sizeLine)
    (hb : ∀ x ∈ ds, ∀ acc, ∃ e, gf x (wipeE env vs) (s ++ [.lst acc]) = .ok e (s ++ [.lst acc]) ∧ te e (s ++ [.lst acc]) = .ok (h x) (s ++ [.lst acc])) :
    lcF it vs gf yesT te env st = .ok (.ref s.length) (s ++ [.lst (ds.map h)]) := by
  unfold lcF
  rw [hit, R.bind_ok, lcL_map hc (by simpa using hl) hb, R.bind_ok, List.nil_append]
theorem pow62 : (2 : Int) ^ 62 = 4611686018427387904 := by decide
theorem rng1_ok {w : Nat} {st : Sto} (h : w < 4611686018427387904) : rng1D [.int (w : Int)] st = .ok (intsD 0 1 w, []) st := by
  simp only [rng1D]
  rw [pow62, if_pos ⟨by omega, by omega⟩, Int.toNat_natCast]
theorem lenD_list {st : Sto} {n : Nat} {xs : List D} (h : listAt st n = some xs) : lenD [.ref n] st = .ok (.int xs.length) st := by simp only [lenD, h]
theorem lenD_tup {st : Sto} {xs : List D} : lenD [.tup xs] st = .ok (.int xs.length) st := rfl
theorem tupleD_list {st : Sto} {n : Nat} {xs : List D} (h : listAt st n = some xs) : tupleD [.ref n] st = .ok (.tup xs) st := by simp only [tupleD, h]
theorem tyD_list {st : Sto} {n : Nat} {xs : List D} (h : listAt st n = some xs) : tyD "list" (.ref n) st := .inl ⟨rfl, by rw [h]; rfl⟩
theorem appD_ok {st : Sto} {n : Nat} {xs : List D} {d : D} (h : st[n]? = some (.lst xs)) (hz : xs.length < sizeLine) : appD (.ref n) [d] st = .ok .non (st.set n (.lst (xs ++ [d]))) := by
  simp only [appD, h]
  rw [if_pos hz]
theorem ixD_list {st : Sto} {n k : Nat} {xs : List D} {d : D} (h : listAt st n = some xs) (hk : xs[k]? = some d) : ixD (.ref n) (.int (k : Int)) st = .ok d st := by
  simp only [ixD, h, Option.bind_some, atI_nat hk]
theorem ixD_tup {st : Sto} {k : Nat} {xs : List D} {d : D} (hk : xs[k]? = some d) : ixD (.tup xs) (.int (k : Int)) st = .ok d st := by
  simp only [ixD, atI_nat hk]
theorem itD_list {st : Sto} {n : Nat} {xs : List D} (h : listAt st n = some xs) : itD (.ref n) st = .ok (xs, chkAt st n) st := by simp only [itD, h]
theorem itD_tup {st : Sto} {xs : List D} : itD (.tup xs) st = .ok (xs, []) st := rfl
theorem chkAt_ok {st st' : Sto} {n : Nat} {o : O} (h : st[n]? = some o) (h' : st'[n]? = some o) : ChkOk (chkAt st n) st' := by
  unfold chkAt; rw [h]; exact ChkOk.one h'
theorem isN_f {d : D} {st : Sto} : isN false d .non st = .ok (.bl (match d with | .non => true | _ => false)) st := by cases d <;> rfl
theorem isN_t {d : D} {st : Sto} : isN true d .non st = .ok (.bl (match d with | .non => false | _ => true)) st := by cases d <;> rfl
theorem cutD_to {xs : List D} {k : Nat} : cutD xs none (some (k : Int)) = xs.take k := by
  unfold cutD
  rw [HT.sIx_none, HT.sIx_nat, List.drop_zero, Nat.sub_zero]
  by_cases h : k ≤ xs.length
  · rw [Nat.min_eq_left h]
  · rw [Nat.min_eq_right (by omega), List.take_length, List.take_of_length_le (by omega)]
theorem cutD_from {xs : List D} {k : Nat} : cutD xs (some (k : Int)) none = xs.drop k := by
  unfold cutD
  rw [HT.sIx_none, HT.sIx_nat]
  by_cases h : k ≤ xs.length
  · rw [Nat.min_eq_left h]
    exact List.take_of_length_le (by rw [List.length_drop]; omega)
  · rw [Nat.min_eq_right (by omega), List.drop_length, List.drop_of_length_le (by omega)]
    simp
theorem cutD_part {xs : List D} {j k : Nat} : cutD xs (some (j : Int)) (some (k : Int)) = (xs.take k).drop j := by
  unfold cutD
  rw [HT.sIx_nat, HT.sIx_nat, List.drop_take]
  by_cases h : j ≤ xs.length
  · rw [Nat.min_eq_left h]
    by_cases h2 : k ≤ xs.length
    · rw [Nat.min_eq_left h2]
    · rw [Nat.min_eq_right (by omega)]
      rw [List.take_of_length_le (by rw [List.length_drop]; omega), List.take_of_length_le (by rw [List.length_drop]; omega)]
  · rw [Nat.min_eq_right (by omega : xs.length ≤ j), List.drop_length, List.drop_of_length_le (by omega)]
    simp
def N7 : List String := ["NoneType", "bool", "int", "str", "tuple", "list", "dict"]
def T6 : List String := ["int", "bool", "tuple", "list", "dict", "str"]
theorem kit_all : ∀ a ∈ N7, ∀ T ∈ T6, kitB a T = some (a == T || (a == "bool" && T == "int")) := by decide +kernel
theorem tyOfD_mem {d : D} {st : Sto} {a : String} (h : tyOfD d st = some a) : a ∈ N7 := by
  cases d with
  | ref n =>
    simp only [tyOfD] at h
    split at h <;> first | (cases h; done) | (cases h; decide)
  | _ => first | (cases h; done) | (cases h; decide)
/-- isinstance(d, T) -/
def isT (d : D) (st : Sto) (T : String) : Bool := match tyOfD d st with
  | some a => a == T || (a == "bool" && T == "int")
  | none => false
theorem isi_ok {d : D} {st : Sto} {T : String} (h : (tyOfD d st).isSome = true) (hT : T ∈ T6) : isiD [d, .ty T] st = .ok (.bl (isT d st T)) st := by
  obtain ⟨a, ha⟩ := Option.isSome_iff_exists.mp h
  simp only [isiD, ha, Option.bind_some, kit_all a (tyOfD_mem ha) T hT, isT]
/-- a datum of a told type, here and in each later store -/
def Good (d : D) (st : Sto) : Prop := ∀ j, (tyOfD d (st ++ j)).isSome = true ∧ tyOfD d (st ++ j) = tyOfD d st
theorem Good.here {d : D} {st : Sto} (h : Good d st) : (tyOfD d st).isSome = true := by have := (h []).1; rwa [List.append_nil] at this
theorem Good.app {d : D} {st : Sto} (h : Good d st) (j : Sto) : Good d (st ++ j) := fun k => by
  rw [List.append_assoc]
  exact ⟨(h (j ++ k)).1, (h (j ++ k)).2.trans (h j).2.symm⟩
theorem Good.le {d : D} {st st' : Sto} (h : Good d st) (l : Le st st') : Good d st' := by obtain ⟨j, rfl⟩ := l; exact h.app j
theorem Good.ref {n : Nat} {st : Sto} {o : O} (h : st[n]? = some o) (h2 : (tyOfD (.ref n) st).isSome = true) : Good (.ref n) st := fun j => by
  have e : tyOfD (.ref n) (st ++ j) = tyOfD (.ref n) st := by simp only [tyOfD, get_app h, h]
  exact ⟨by rw [e]; exact h2, e⟩
theorem Good.non {st : Sto} : Good .non st := fun _ => ⟨rfl, rfl⟩
theorem Good.bl {st : Sto} {b : Bool} : Good (.bl b) st := fun _ => ⟨rfl, rfl⟩
theorem Good.int {st : Sto} {b : Int} : Good (.int b) st := fun _ => ⟨rfl, rfl⟩
theorem Good.str {st : Sto} {b : Str} : Good (.str b) st := fun _ => ⟨rfl, rfl⟩
theorem Good.tup {st : Sto} {b : List D} : Good (.tup b) st := fun _ => ⟨rfl, rfl⟩
/-- a loop whose turns all go on, while the store only grows -/
theorem forL_le {c : Chk} {gf : GF} {b : SF} {ds : List D} {env : EnvD} {st : Sto} (hc : ChkOk c st) (J : EnvD → Prop) (h0 : J env)
    (hs : ∀ x ∈ ds, ∀ env s, J env → Le st s → ∃ e s1 e' s', gf x env s = .ok e s1 ∧ b e s1 = .ok (.nx e') s' ∧ J e' ∧ Le s s') : ∃ e' s', forL c gf b ds env st = .ok (.nx e') s' ∧ J e' ∧ Le st s' := by
  obtain ⟨e', s', h1, h2, h3⟩ := forL_inv (c := c) (gf := gf) (b := b) (ds := ds) (env := env) (st := st) (fun _ e s => J e ∧ Le st s) ⟨h0, Le.refl st⟩ (fun _ _ s h p hp => h.2.get (hc p hp)) fun i x e s hx ⟨hj, hl⟩ => by
    obtain ⟨e1, s1, e2, s2, h1, h2, h3, h4⟩ := hs x (List.mem_of_getElem? hx) e s hj hl
    exact ⟨e1, s1, e2, s2, h1, h2, h3, hl.trans h4⟩
  exact ⟨e', s', h1, h2, h3⟩
theorem addD_tup {xs ys : List D} {st : Sto} (h : xs.length + ys.length ≤ sizeLine) : addD (.tup xs) (.tup ys) st = .ok (.tup (xs ++ ys)) st := by simp only [addD]; rw [if_pos h]
theorem addD_lst {m n : Nat} {xs ys : List D} {st : Sto} (h1 : st[m]? = some (.lst xs)) (h2 : st[n]? = some (.lst ys)) (h : xs.length + ys.length ≤ sizeLine) : addD (.ref m) (.ref n) st = .ok (.ref st.length) (st ++ [.lst (xs ++ ys)]) := by
  simp only [addD, h1, h2]; rw [if_pos h]; rfl
theorem slD_list {n : Nat} {xs : List D} {lo hi : Option Int} {st : Sto} (h : listAt st n = some xs) : slD (.ref n) lo hi st = .ok (.ref st.length) (st ++ [.lst (cutD xs lo hi)]) := by
  simp only [slD, h]; rfl
theorem allD_ok {n : Nat} {bs : List Bool} {st : Sto} (h : listAt st n = some (bs.map D.bl)) : allD [.ref n] st = .ok (.bl (bs.all id)) st := by
  have e : ∀ bs : List Bool, bools (bs.map D.bl) = some bs := by
    intro bs
    induction bs with
    | nil => rfl
    | cons b bs ih => rw [List.map_cons, bools, ih]; rfl
  simp only [allD, h, Option.bind_some, e]
theorem sizeLine_eq' : sizeLine = 16777216 := by decide
/-! ### comprehensions whose elements lay objects of their own -/
theorem Le.set {a s : Sto} {n : Nat} {o : O} (h : Le a s) (hn : a.length ≤ n) : Le a (s.set n o) := by
  obtain ⟨j, rfl⟩ := h
  exact ⟨j.set (n - a.length) o, by rw [List.set_append_right _ _ hn]⟩
theorem lcL_grow {c : Chk} {gf : GF} {tt : TF} {te : EF} {env : EnvD} {s : Sto} {h : D → D} {p : D → Bool} (hc : ∀ S, Le s S → ChkOk c S) : ∀ {ds acc : List D} {j : Sto}, acc.length + ds.length ≤ sizeLine →
    (∀ x ∈ ds, ∀ S, Le s S → ∃ e j1, gf x env S = .ok e S ∧ tt e S = .ok (p x) (S ++ j1) ∧ (p x = true → ∃ j2, te e (S ++ j1) = .ok (h x) (S ++ j1 ++ j2))) →
    ∃ j', lcL c gf tt te env s.length ds (s ++ .lst acc :: j) = .ok () (s ++ .lst (acc ++ (ds.filter p).map h) :: j')
  | [], acc, j, _, _ => ⟨j, by rw [lcL_nil (hc _ (Le.app _ _))]; simp⟩
  | x :: ds, acc, j, hl, hb => by
    have hle : Le s (s ++ .lst acc :: j) := Le.app _ _
    obtain ⟨e, j1, h1, h2, h3⟩ := hb x List.mem_cons_self _ hle
    rw [List.length_cons] at hl
    rw [lcL_cons (hc _ hle), h1, R.noex_ok, R.bind_ok, h2, R.noex_ok, R.bind_ok]
    cases hp : p x with
    | false =>
      rw [if_neg Bool.false_ne_true, List.filter_cons, if_neg (by rw [hp]; exact Bool.false_ne_true), List.append_assoc, List.cons_append]
      exact lcL_grow hc (by omega) fun y hy => hb y (List.mem_cons_of_mem _ hy)
    | true =>
      obtain ⟨j2, h4⟩ := h3 hp
      rw [if_pos rfl, h4, R.noex_ok, R.bind_ok, List.filter_cons, if_pos hp, List.map_cons]
      have g : (s ++ O.lst acc :: j ++ j1 ++ j2)[s.length]? = some (.lst acc) := by
        rw [List.append_assoc, List.append_assoc, List.getElem?_append_right (Nat.le_refl _), Nat.sub_self]; rfl
      have st : (s ++ O.lst acc :: j ++ j1 ++ j2).set s.length (.lst (acc ++ [h x])) = s ++ O.lst (acc ++ [h x]) :: (j ++ j1 ++ j2) := by
        rw [List.append_assoc, List.append_assoc, List.set_append_right _ _ (Nat.le_refl _), Nat.sub_self]; simp
      rw [g]
      simp only
      rw [if_pos (by omega), st]
      obtain ⟨j', h5⟩ := lcL_grow (acc := acc ++ [h x]) (j := j ++ j1 ++ j2) hc (by rw [List.length_append, List.length_singleton]; omega) fun y hy => hb y (List.mem_cons_of_mem _ hy)
      exact ⟨j', by rw [h5]; simp⟩
theorem lcF_grow {it : ItF} {vs : List Nat} {gf : GF} {tt : TF} {te : EF} {env : EnvD} {st s : Sto} {ds : List D} {c : Chk} (h : D → D) (p : D → Bool) (hit : it env st = .ok (ds, c) s) (hc : ∀ S, Le s S → ChkOk c S) (hl : ds.length ≤ sizeLine)
    (hb : ∀ x ∈ ds, ∀ S, Le s S → ∃ e j1, gf x (wipeE env vs) S = .ok e S ∧ tt e S = .ok (p x) (S ++ j1) ∧ (p x = true → ∃ j2, te e (S ++ j1) = .ok (h x) (S ++ j1 ++ j2))) :
    ∃ j, lcF it vs gf tt te env st = .ok (.ref s.length) (s ++ .lst ((ds.filter p).map h) :: j) := by
  obtain ⟨j, e⟩ := lcL_grow (acc := []) (j := []) hc (by simpa using hl) hb
  exact ⟨j, by unfold lcF; rw [hit, R.bind_ok, e, R.bind_ok, List.nil_append]⟩
/-- .. without a test -/
theorem lcF_all {it : ItF} {vs : List Nat} {gf : GF} {te : EF} {env : EnvD} {st s : Sto} {ds : List D} {c : Chk} (h : D → D) (hit : it env st = .ok (ds, c) s) (hc : ∀ S, Le s S → ChkOk c S) (hl : ds.length ≤ sizeLine)
    (hb : ∀ x ∈ ds, ∀ S, Le s S → ∃ e j, gf x (wipeE env vs) S = .ok e S ∧ te e S = .ok (h x) (S ++ j)) :
    ∃ j, lcF it vs gf yesT te env st = .ok (.ref s.length) (s ++ .lst (ds.map h) :: j) := by
  obtain ⟨j, e⟩ := lcF_grow (tt := yesT) (te := te) (gf := gf) (vs := vs) h (fun _ => true) hit hc hl fun x hx S hS => by
    obtain ⟨e, j, h1, h2⟩ := hb x hx S hS
    exact ⟨e, [], h1, by rw [List.append_nil]; rfl, fun _ => ⟨j, by rw [List.append_nil]; exact h2⟩⟩
  exact ⟨j, by rw [e, List.filter_eq_self.mpr fun _ _ => rfl]⟩
theorem chk_nil {s : Sto} : ∀ S, Le s S → ChkOk [] S := fun _ _ => ChkOk.nil
theorem ChkOk.app {c d : Chk} {S : Sto} (h : ChkOk c S) (k : ChkOk d S) : ChkOk (c ++ d) S := fun p hp => (List.mem_append.mp hp).elim (h p) (k p)
theorem chk_at {s : Sto} {n : Nat} : ∀ S, Le s S → ChkOk (chkAt s n) S := fun S l => by
  unfold chkAt
  split
  · rename_i o h; exact ChkOk.one (l.get h)
  · exact ChkOk.nil
theorem get_at {s j : Sto} {o : O} : (s ++ o :: j)[s.length]? = some o := by rw [List.getElem?_append_right (Nat.le_refl _), Nat.sub_self]; rfl
theorem listAt_at {s j : Sto} {xs : List D} : listAt (s ++ .lst xs :: j) s.length = some xs := listAt_lst get_at
theorem set_at {s j : Sto} {o u : O} : (s ++ o :: j).set s.length u = s ++ u :: j := by rw [List.set_append_right _ _ (Nat.le_refl _), Nat.sub_self]; rfl
theorem Le.def {a b : Sto} (h : Le a b) : ∃ j, b = a ++ j := h
theorem eqF_str {a b : Str} : eqF (.str a) (.str b) = decide (a = b) := by
  show (a == b) = _
  rfl
theorem inL_ok {neg : Bool} {x : D} {ds : List D} {st : Sto} (h : flatD x = true) (h2 : ds.all flatD = true) : inL neg x ds st = .ok (.bl (if neg then !(ds.any fun y => eqF y x) else ds.any fun y => eqF y x)) st := by unfold inL; rw [if_pos ⟨h, h2⟩]
theorem numbered_mem {ds : List D} {d : D} (h : d ∈ numbered ds) : ∃ i x, i < ds.length ∧ ds[i]? = some x ∧ d = .tup [.int (i : Nat), x] := by
  obtain ⟨i, hi⟩ := List.getElem?_of_mem h
  obtain ⟨x, h1, h2⟩ := numbered_get hi
  exact ⟨i, x, (List.getElem?_eq_some_iff.mp h1).1, h1, h2⟩
theorem lcF_any {it : ItF} {vs : List Nat} {gf : GF} {te : EF} {env : EnvD} {st s : Sto} {ds : List D} {c : Chk} {A : Type} (f : A → D) (T : D → A → Prop) (hit : it env st = .ok (ds, c) s) (hc : ∀ S, Le s S → ChkOk c S) (hl : ds.length ≤ sizeLine)
    (hb : ∀ x ∈ ds, ∃ a, T x a ∧ ∀ S, Le s S → ∃ e j, gf x (wipeE env vs) S = .ok e S ∧ te e S = .ok (f a) (S ++ j)) :
    ∃ l : List A, l.length = ds.length ∧ (∃ j, lcF it vs gf yesT te env st = .ok (.ref s.length) (s ++ .lst (l.map f) :: j)) ∧ ∀ a ∈ l, ∃ x ∈ ds, T x a := by
  classical
  by_cases ha : Nonempty A
  · obtain ⟨a0⟩ := ha
    let g : D → A := fun x => if h : ∃ a, T x a ∧ ∀ S, Le s S → ∃ e j, gf x (wipeE env vs) S = .ok e S ∧ te e S = .ok (f a) (S ++ j) then h.choose else a0
    have hg : ∀ x ∈ ds, T x (g x) ∧ ∀ S, Le s S → ∃ e j, gf x (wipeE env vs) S = .ok e S ∧ te e S = .ok (f (g x)) (S ++ j) := by
      intro x hx
      show T x (dite _ _ _) ∧ ∀ S, Le s S → ∃ e j, _ ∧ te e S = .ok (f (dite _ _ _)) (S ++ j)
      rw [dif_pos (hb x hx)]
      exact (hb x hx).choose_spec
    refine ⟨ds.map g, List.length_map _, ?_, fun a ha => ?_⟩
    · obtain ⟨j, e⟩ := lcF_all (fun x => f (g x)) hit hc hl fun x hx => (hg x hx).2
      exact ⟨j, by rw [e, List.map_map]; rfl⟩
    · obtain ⟨x, hx, rfl⟩ := List.mem_map.mp ha
      exact ⟨x, hx, (hg x hx).1⟩
  · have : ds = [] := by
      cases ds with
      | nil => rfl
      | cons x r => obtain ⟨a, _⟩ := hb x List.mem_cons_self; exact absurd ⟨a⟩ ha
    subst this
    obtain ⟨j, e⟩ := lcF_all (vs := vs) (gf := gf) (te := te) (fun x => x) hit hc hl fun x hx => nomatch hx
    exact ⟨[], rfl, ⟨j, e⟩, fun a ha => nomatch ha⟩
theorem minD_ok {a b : Int} {st : Sto} : minD [.int a, .int b] st = .ok (.int (min a b)) st := by
  show R.ok (D.int (if b < a then b else a)) st = _
  congr 2
  rw [Int.min_def]
  split <;> split <;> omega
theorem maxD_ok {a b : Int} {st : Sto} : maxD [.int a, .int b] st = .ok (.int (max a b)) st := by
  show R.ok (D.int (if b > a then b else a)) st = _
  congr 2
  rw [Int.max_def]
  split <;> split <;> omega
def varK (st : Sto) (o : Option (Option D)) : R D := match o with
  | some (some d) => .ok d st
  | _ => .bad
theorem varK_ap {st : Sto} {d : D} : varK st (some (some d)) = .ok d st := rfl
def eqK (o : Option Bool) (st : Sto) : R D := match o with
  | some c => .ok (.bl c) st
  | none => .bad
def neK (o : Option Bool) (st : Sto) : R D := match o with
  | some c => .ok (.bl (!c)) st
  | none => .bad
/-! ### evaluation, step by step (no binder in sight) -/
section
variable {f fa fb fo : EF} {fr : AF} {t u : TF} {a b : SF} {i n : Nat} {d e : D} {env env' : EnvD} {st s : Sto}
theorem varF_ap : varF i env st = varK st env[i]? := rfl
theorem cF_ap : cF d env st = .ok d st := rfl
def opK (g : D → D → Sto → R D) (fb : EF) (env : EnvD) (x : D) (s : Sto) : R D := (fb env s).bind (g x)
theorem opF_ap {g : D → D → Sto → R D} : opF g fa fb env st = (fa env st).bind (opK g fb env) := rfl
theorem opK_ap {g : D → D → Sto → R D} : opK g fb env d s = (fb env s).bind (g d) := rfl
def boolK (d : D) (s : Sto) : R Bool := match d with
  | .bl b => .ok b s
  | _ => .bad
theorem bF_ap : bF f env st = (f env st).bind boolK := rfl
theorem boolK_ap {c : Bool} : boolK (.bl c) s = .ok c s := rfl
def andK (u : TF) (env : EnvD) (c : Bool) (s : Sto) : R Bool := if c = true then u env s else .ok false s
def orK (u : TF) (env : EnvD) (c : Bool) (s : Sto) : R Bool := if c = true then .ok true s else u env s
def notK (c : Bool) (s : Sto) : R Bool := .ok (!c) s
theorem andT_ap : andT t u env st = (t env st).bind (andK u env) := rfl
theorem andK_ap {c : Bool} : andK u env c s = if c = true then u env s else .ok false s := rfl
theorem orT_ap : orT t u env st = (t env st).bind (orK u env) := rfl
theorem orK_ap {c : Bool} : orK u env c s = if c = true then .ok true s else u env s := rfl
theorem notT_ap : notT t env st = (t env st).bind notK := rfl
theorem notK_ap {c : Bool} : notK c s = .ok (!c) s := rfl
theorem yesT_ap : yesT env st = .ok true st := rfl
def andVK (f : EF) (env : EnvD) (c : Bool) (s : Sto) : R D := if c = true then f env s else .ok (.bl false) s
def orVK (f : EF) (env : EnvD) (c : Bool) (s : Sto) : R D := if c = true then .ok (.bl true) s else f env s
def notVK (c : Bool) (s : Sto) : R D := .ok (.bl (!c)) s
theorem andV_ap : andV fa fb env st = (bF fa env st).bind (andVK fb env) := rfl
theorem andVK_ap {c : Bool} : andVK f env c s = if c = true then f env s else .ok (.bl false) s := rfl
theorem orV_ap : orV fa fb env st = (bF fa env st).bind (orVK fb env) := rfl
theorem orVK_ap {c : Bool} : orVK f env c s = if c = true then .ok (.bl true) s else f env s := rfl
theorem notV_ap : notV fa env st = (bF fa env st).bind notVK := rfl
theorem notVK_ap {c : Bool} : notVK c s = .ok (.bl (!c)) s := rfl
def ifFK (fa fb : EF) (env : EnvD) (c : Bool) (s : Sto) : R D := if c = true then fa env s else fb env s
theorem ifF_ap : ifF t fa fb env st = (t env st).bind (ifFK fa fb env) := rfl
theorem ifFK_ap {c : Bool} : ifFK fa fb env c s = if c = true then fa env s else fb env s := rfl
theorem nilA_ap : nilA env st = .ok [] st := rfl
def consK (fr : AF) (env : EnvD) (x : D) (s : Sto) : R (List D) := (fr env s).bind fun xs s' => .ok (x :: xs) s'
def consJ (x : D) (xs : List D) (s : Sto) : R (List D) := .ok (x :: xs) s
theorem consA_ap : consA f fr env st = (f env st).bind (consK fr env) := rfl
theorem consK_ap : consK fr env d s = (fr env s).bind (consJ d) := rfl
theorem consJ_ap {ds : List D} : consJ d ds s = .ok (d :: ds) s := rfl
def tupK (xs : List D) (s : Sto) : R D := if xs.length ≤ sizeLine then .ok (.tup xs) s else .bad
def lstK (xs : List D) (s : Sto) : R D := if xs.length ≤ sizeLine then newO (.lst xs) s else .bad
theorem tupA_ap : tupA fr env st = (fr env st).bind tupK := rfl
theorem tupK_ap {xs : List D} : tupK xs s = if xs.length ≤ sizeLine then .ok (.tup xs) s else .bad := rfl
theorem lstA_ap : lstA fr env st = (fr env st).bind lstK := rfl
theorem lstK_ap {xs : List D} : lstK xs s = if xs.length ≤ sizeLine then newO (.lst xs) s else .bad := rfl
theorem newO_ap {o : O} : newO o st = .ok (.ref st.length) (st ++ [o]) := rfl
theorem dicF_ap : dicF env st = .ok (.ref st.length) (st ++ [.dic []]) := rfl
theorem callF_ap {g : List D → Sto → R D} : callF g fr env st = (fr env st).bind g := rfl
theorem un1_ap {g : D → Sto → R D} : un1 g f env st = (f env st).bind g := rfl
open Classical in
noncomputable def methK (T : String) (g : D → List D → Sto → R D) (fr : AF) (env : EnvD) (d : D) (s : Sto) : R D := if tyD T d s then (fr env s).bind (g d) else .bad
open Classical in
theorem methF_ap {T : String} {g : D → List D → Sto → R D} : methF T g fo fr env st = (fo env st).bind (methK T g fr env) := rfl
open Classical in
theorem methK_ap {T : String} {g : D → List D → Sto → R D} : methK T g fr env d s = if tyD T d s then (fr env s).bind (g d) else .bad := rfl
theorem nonO_ap : nonO env st = .ok none st := rfl
def someK (d : D) (s : Sto) : R (Option Int) := match d with
  | .int i => .ok (some i) s
  | _ => .bad
theorem someO_ap : someO f env st = (f env st).bind someK := rfl
theorem someK_ap {k : Int} : someK (.int k) s = .ok (some k) s := rfl
def slK (fl fh : OF) (env : EnvD) (d : D) (s : Sto) : R D := (fl env s).bind fun lo s1 => (fh env s1).bind fun hi s2 => slD d lo hi s2
def slJ (fh : OF) (env : EnvD) (d : D) (lo : Option Int) (s : Sto) : R D := (fh env s).bind fun hi s2 => slD d lo hi s2
theorem slF_ap {fl fh : OF} : slF f fl fh env st = (f env st).bind (slK fl fh env) := rfl
theorem slK_ap {fl fh : OF} : slK fl fh env d s = (fl env s).bind (slJ fh env d) := rfl
theorem slJ_ap {fh : OF} {lo : Option Int} : slJ fh env d lo s = (fh env s).bind (slD d lo) := rfl
theorem itF_ap : itF f env st = (f env st).bind itD := rfl
theorem itA_ap {g : List D → Sto → R (List D × Chk)} : itA g fr env st = (fr env st).bind g := rfl
theorem nilS_ap : nilS env st = .ok (.nx env) st := rfl
theorem bkS_ap : bkS env st = .ok (.bk env) st := rfl
theorem ctS_ap : ctS env st = .ok (.ct env) st := rfl
def seqK (b : SF) (fl : Fl) (s : Sto) : R Fl := match fl with
  | .nx e => b e s
  | fl => .ok fl s
theorem seqS_ap : seqS a b env st = (a env st).bind (seqK b) := rfl
theorem seqK_nx : seqK b (.nx env) s = b env s := rfl
theorem seqK_rt : seqK b (.rt d) s = .ok (.rt d) s := rfl
theorem seqK_bk : seqK b (.bk env) s = .ok (.bk env) s := rfl
theorem seqK_ct : seqK b (.ct env) s = .ok (.ct env) s := rfl
def dropK (env : EnvD) (_ : D) (s : Sto) : R Fl := .ok (.nx env) s
theorem dropS_ap : dropS f env st = (f env st).bind (dropK env) := rfl
theorem dropK_ap : dropK env d s = .ok (.nx env) s := rfl
def retK (d : D) (s : Sto) : R Fl := .ok (.rt d) s
theorem retS_ap : retS f env st = (f env st).bind retK := rfl
theorem retK_ap : retK d s = .ok (.rt d) s := rfl
theorem retN_ap : retN env st = .ok (.rt .non) st := rfl
def ifK (a b : SF) (env : EnvD) (c : Bool) (s : Sto) : R Fl := if c = true then a env s else b env s
theorem ifS_ap : ifS t a b env st = (t env st).bind (ifK a b env) := rfl
theorem ifK_ap {c : Bool} : ifK a b env c s = if c = true then a env s else b env s := rfl
def setK (i : Nat) (env : EnvD) (d : D) (s : Sto) : R Fl := .ok (.nx (env.set i (some d))) s
theorem setS_ap : setS i f env st = (f env st).bind (setK i env) := rfl
theorem setK_ap : setK i env d s = .ok (.nx (env.set i (some d))) s := rfl
def asgK (gf : GF) (env : EnvD) (d : D) (s : Sto) : R Fl := (gf d env s).bind fun e s' => .ok (.nx e) s'
def asgJ (e : EnvD) (s : Sto) : R Fl := .ok (.nx e) s
theorem asgS_ap {gf : GF} : asgS f gf env st = (f env st).bind (asgK gf env) := rfl
theorem asgK_ap {gf : GF} : asgK gf env d s = (gf d env s).bind asgJ := rfl
theorem asgJ_ap : asgJ env s = .ok (.nx env) s := rfl
theorem nameG_ap : nameG i d env st = .ok (env.set i (some d)) st := rfl
theorem nilG_ap : nilG [] env st = .ok env st := rfl
def consGK (r : List D → EnvD → Sto → R EnvD) (ds : List D) (e : EnvD) (s : Sto) : R EnvD := r ds e s
theorem consG_ap {g : GF} {r : List D → EnvD → Sto → R EnvD} {ds : List D} : consG g r (d :: ds) env st = (g d env st).bind (consGK r ds) := rfl
theorem consGK_ap {r : List D → EnvD → Sto → R EnvD} {ds : List D} : consGK r ds env s = r ds env s := rfl
theorem tupG_ap {g : List D → EnvD → Sto → R EnvD} {ds : List D} : tupG n g (.tup ds) env st = if ds.length = n then g ds env st else .bad := rfl
def fnK (fl : Fl) (s : Sto) : R D := match fl with
  | .nx _ => .ok .non s
  | .rt d => .ok d s
  | _ => .bad
theorem fnF_ap {ds : List D} : fnF n a ds st = (a (startE n ds) st).bind fnK := rfl
theorem fnK_nx : fnK (.nx env) s = .ok .non s := rfl
theorem fnK_rt : fnK (.rt d) s = .ok d s := rfl
noncomputable def forK (gf : GF) (b : SF) (env : EnvD) (p : List D × Chk) (s : Sto) : R Fl := forL p.2 gf b p.1 env s
theorem forS_ap {it : ItF} {gf : GF} : forS it gf b env st = (it env st).bind (forK gf b env) := rfl
theorem forK_ap {gf : GF} {ds : List D} {c : Chk} : forK gf b env (ds, c) s = forL c gf b ds env s := rfl
theorem intD_ap {c : Int → Int → Bool} {g : Int → Int → D} {j k : Int} : intD c g (.int j) (.int k) st = if c j k = true then .ok (g j k) st else .bad := rfl
theorem negD_ap {k : Int} : negD (.int k) st = .ok (.int (-k)) st := rfl
theorem addI_ap {j k : Int} : addD (.int j) (.int k) st = .ok (.int (j + k)) st := rfl
theorem bind_ok_ {A B : Type} {x : A} {k : A → Sto → R B} : (R.ok x s).bind k = k x s := rfl
theorem bind_ex_ {A B : Type} {c : Str} {k : A → Sto → R B} : (R.ex c s : R A).bind k = .ex c s := rfl
theorem eqD_ap : eqD d e st = eqK (eqP d e) st := by unfold eqD eqK; rfl
theorem eqK_ap {c : Bool} : eqK (some c) st = .ok (.bl c) st := rfl
theorem neD_ap : neD d e st = neK (eqP d e) st := by unfold neD neK; rfl
theorem neK_ap {c : Bool} : neK (some c) st = .ok (.bl (!c)) st := rfl
theorem eqP_str {x y : Str} : eqP (.str x) (.str y) = some (decide (x = y)) := rfl
theorem eqP_int {x y : Int} : eqP (.int x) (.int y) = some (decide (x = y)) := rfl
theorem eqP_bl {x y : Bool} : eqP (.bl x) (.bl y) = some (decide (x = y)) := rfl
theorem eqP_non : eqP .non .non = some true := rfl
theorem eqP_ni {x : Int} : eqP .non (.int x) = some false := rfl
theorem eqP_in {x : Int} : eqP (.int x) .non = some false := rfl
theorem inS_tup {neg : Bool} {ds : List D} : inSq neg d (.tup ds) st = inL neg d ds st := by cases d <;> rfl
end
theorem subD_ap {a b : Int} {st : Sto} : subD (.int a) (.int b) st = .ok (.int (a - b)) st := rfl
theorem ltD_ap {a b : Int} {st : Sto} : ltD (.int a) (.int b) st = .ok (.bl (decide (a < b))) st := rfl
theorem leD_ap {a b : Int} {st : Sto} : leD (.int a) (.int b) st = .ok (.bl (decide (a ≤ b))) st := rfl
theorem gtD_ap {a b : Int} {st : Sto} : gtD (.int a) (.int b) st = .ok (.bl (decide (a > b))) st := rfl
theorem geD_ap {a b : Int} {st : Sto} : geD (.int a) (.int b) st = .ok (.bl (decide (a ≥ b))) st := rfl
theorem mulD_ap {a b : Int} {st : Sto} (h : MulOk a b) : mulD (.int a) (.int b) st = .ok (.int (a * b)) st := by
  show (if decide (MulOk a b) = true then _ else _) = _
  rw [if_pos (decide_eq_true h)]
theorem modD_ap {a b : Int} {st : Sto} (h : 0 < b) : modD (.int a) (.int b) st = .ok (.int (a % b)) st := by
  show (if decide (0 < b) = true then _ else _) = _
  rw [if_pos (decide_eq_true h)]
theorem divD_ap {a b : Int} {st : Sto} (h : 0 < b) (h2 : b.natAbs.log2 < 9000) : divD (.int a) (.int b) st = .ok (.int (a / b)) st := by
  show (if decide (0 < b ∧ b.natAbs.log2 < 9000) = true then _ else _) = _
  rw [if_pos (decide_eq_true ⟨h, h2⟩)]
theorem powD_ap {a b : Int} {st : Sto} (h : 0 ≤ b ∧ b ≤ 1000000 ∧ a.natAbs < 2 ^ 64) : powD (.int a) (.int b) st = .ok (.int (a ^ b.toNat)) st := by
  show (if decide (0 ≤ b ∧ b ≤ 1000000 ∧ a.natAbs < 2 ^ 64) = true then _ else _) = _
  rw [if_pos (decide_eq_true h)]
theorem tupK_ok {xs : List D} {st : Sto} (h : xs.length ≤ sizeLine) : tupK xs st = .ok (.tup xs) st := by rw [tupK_ap, if_pos h]
theorem lstK_ok {xs : List D} {st : Sto} (h : xs.length ≤ sizeLine) : lstK xs st = .ok (.ref st.length) (st ++ [.lst xs]) := by rw [lstK_ap, if_pos h]; rfl
theorem methK_ok {T : String} {g : D → List D → Sto → R D} {fr : AF} {env : EnvD} {d : D} {s : Sto} (h : tyD T d s) : methK T g fr env d s = (fr env s).bind (g d) := by rw [methK_ap, if_pos h]
theorem tupG_ok {n : Nat} {g : List D → EnvD → Sto → R EnvD} {ds : List D} {env : EnvD} {st : Sto} (h : ds.length = n) : tupG n g (.tup ds) env st = g ds env st := by rw [tupG_ap, if_pos h]
theorem eqS_t {x : Str} {st : Sto} : eqD (.str x) (.str x) st = .ok (.bl true) st := by rw [eqD_ap, eqP_str, decide_eq_true rfl]; rfl
theorem eqS_f {x y : Str} {st : Sto} (h : x ≠ y) : eqD (.str x) (.str y) st = .ok (.bl false) st := by rw [eqD_ap, eqP_str, decide_eq_false h]; rfl
theorem neS_t {x : Str} {st : Sto} : neD (.str x) (.str x) st = .ok (.bl false) st := by rw [neD_ap, eqP_str, decide_eq_true rfl]; rfl
theorem neS_f {x y : Str} {st : Sto} (h : x ≠ y) : neD (.str x) (.str y) st = .ok (.bl true) st := by rw [neD_ap, eqP_str, decide_eq_false h]; rfl
theorem eqI_ap {x y : Int} {st : Sto} : eqD (.int x) (.int y) st = .ok (.bl (decide (x = y))) st := rfl
theorem neI_ap {x y : Int} {st : Sto} : neD (.int x) (.int y) st = .ok (.bl (!decide (x = y))) st := rfl
/-- x among texts -/
def isTx : List D → Bool
  | [] => true
  | .str _ :: r => isTx r
  | _ => false
theorem isTx_flat : ∀ {ds : List D}, isTx ds = true → ds.all flatD = true
  | [], _ => rfl
  | .str x :: r, h => by rw [List.all_cons, isTx_flat (ds := r) h]; rfl
  | .non :: r, h => by cases h
  | .bl _ :: r, h => by cases h
  | .int _ :: r, h => by cases h
  | .tup _ :: r, h => by cases h
  | .ref _ :: r, h => by cases h
  | .glb _ :: r, h => by cases h
  | .ty _ :: r, h => by cases h
  | .clo _ _ :: r, h => by cases h
theorem inT_nil {neg : Bool} {x : Str} {st : Sto} : inSq neg (.str x) (.tup []) st = .ok (.bl neg) st := by
  show inL neg (.str x) [] st = _
  rw [inL_ok rfl rfl]; cases neg <;> rfl
theorem inT_hit {neg : Bool} {x : Str} {ds : List D} {st : Sto} (h : isTx ds = true) : inSq neg (.str x) (.tup (.str x :: ds)) st = .ok (.bl (!neg)) st := by
  show inL neg (.str x) (.str x :: ds) st = _
  rw [inL_ok rfl (by rw [List.all_cons, isTx_flat h]; rfl), List.any_cons, eqF_str, decide_eq_true rfl, Bool.true_or]
  cases neg <;> rfl
theorem inT_miss {neg : Bool} {x y : Str} {ds : List D} {st : Sto} (h : x ≠ y) : inSq neg (.str x) (.tup (.str y :: ds)) st = inSq neg (.str x) (.tup ds) st := by
  show inL neg (.str x) (.str y :: ds) st = inL neg (.str x) ds st
  unfold inL
  rw [List.all_cons, List.any_cons, eqF_str, decide_eq_false (fun e => h e.symm), Bool.false_or]
  rfl
end VL

namespace Law
open PySem PySem.Spec PyProof.Rows L2 VL RZ RT
/-! ### the functions -/
def kinds__law_fits : Str → Option (List Bool) := fun c => if c = "NoName" then some [true, false, false, false, false, true, false, false, false, false, false, false, false] else if c = "NoPlace" then some [false, true, false, false, false, true, false, false, false, false, false, false, false] else if c = "Unlike" then some [false, false, true, false, false, true, false, false, false, false, false, false, false] else if c = "Wide" then some [false, false, false, true, false, true, false, false, false, false, false, false, false] else if c = "Twice" then some [false, false, false, false, true, true, false, false, false, false, false, false, false] else none
noncomputable def l0_not_beyond : SF :=
    (ifS (bF (opF geD (varF 2) (varF 1))) (exS "NoPlace") nilS)
noncomputable def b_not_beyond : SF :=
    (forS (itF (varF 0)) (nameG 2) (l0_not_beyond))
noncomputable def f_not_beyond : Fn := fnF 3 b_not_beyond
noncomputable def b_not_wide : SF :=
    (seqS (ifS (bF (opF gtD (varF 0) (cF (.int 12)))) (exS "Wide") nilS)
    (retS (varF 0)))
noncomputable def f_not_wide : Fn := fnF 1 b_not_wide
noncomputable def b__law_cell_at : SF :=
    (seqS (ifS (bF (opF ltD (varF 1) (callF lenD (consA (varF 0) nilA)))) (retS (opF ixD (varF 0) (varF 1))) nilS)
    (retS (cF (.int 0))))
noncomputable def f__law_cell_at : Fn := fnF 2 b__law_cell_at
noncomputable def b__law_whole : SF :=
    (retS (andV (callF isiD (consA (varF 0) (consA (cF (.ty "int")) nilA))) (notV (callF isiD (consA (varF 0) (consA (cF (.ty "bool")) nilA))))))
noncomputable def f__law_whole : Fn := fnF 1 b__law_whole
noncomputable def b__law_mixed : SF :=
    (retS (opF addD (opF modD (opF mulD (varF 0) (cF (.int 69621))) (cF (.int 2147483629))) (opF mulD (cF (.int 2147483629)) (opF modD (varF 0) (opF powD (cF (.int 10)) (cF (.int 30)))))))
noncomputable def f__law_mixed : Fn := fnF 1 b__law_mixed
noncomputable def l0__law_digits : SF :=
    (seqS (dropS (methF "list" appD (varF 3) (consA (opF modD (varF 0) (varF 2)) nilA)))
    (setS 0 (opF divD (varF 0) (varF 2))))
noncomputable def b__law_digits : SF :=
    (seqS (setS 3 (lstA nilA))
    (seqS (forS (itA rng1D (consA (varF 1) nilA)) (nameG 4) (l0__law_digits))
    (retS (varF 3))))
noncomputable def f__law_digits : Fn := fnF 5 b__law_digits
noncomputable def b__law_fresh : SF :=
    (seqS (setS 2 (cF (.str "abcdefghijklmnopqrstuvwxyz")))
    (retS (opF addD (opF addD (opF ixD (varF 0) (cF (.int 0))) (opF ixD (varF 2) (opF modD (varF 1) (cF (.int 26))))) (opF ixD (varF 2) (opF modD (opF divD (varF 1) (cF (.int 26))) (cF (.int 26)))))))
noncomputable def f__law_fresh : Fn := fnF 3 b__law_fresh
noncomputable def l0__law_first_due : SF :=
    (ifS (bF (opF gtD (varF 1) (cF (.int 0)))) (retS (varF 1)) nilS)
noncomputable def b__law_first_due : SF :=
    (seqS (forS (itF (varF 0)) (nameG 1) (l0__law_first_due))
    (retS (cF (.int 0))))
noncomputable def f__law_first_due : Fn := fnF 2 b__law_first_due
noncomputable def b__law_beyond : SF :=
    (retS (opF mulD (cF (.int 4)) (callF int1D (consA (opF gtD (varF 0) (cF (.int 12))) nilA))))
noncomputable def f__law_beyond : Fn := fnF 1 b__law_beyond
noncomputable def b__law_asking : SF :=
    (seqS (setS 2 (lstA (consA (tupA (consA (cF (.str "below")) (consA (varF 1) (consA (tupA (consA (cF (.str "num")) (consA (cF (.int 3)) nilA))) nilA)))) (consA (tupA (consA (cF (.str "not")) (consA (tupA (consA (cF (.str "same")) (consA (varF 1) (consA (tupA (consA (cF (.str "gap")) nilA)) nilA)))) nilA))) (consA (tupA (consA (cF (.str "below")) (consA (tupA (consA (cF (.str "times")) (consA (cF (.int 3)) (consA (varF 1) nilA)))) (consA (tupA (consA (cF (.str "num")) (consA (cF (.int 0)) nilA))) nilA)))) nilA)))))
    (seqS (setS 2 (opF addD (varF 2) (lstA (consA (tupA (consA (cF (.str "and")) (consA (tupA (consA (cF (.str "same")) (consA (tupA (consA (cF (.str "gap")) nilA)) (consA (tupA (consA (cF (.str "gap")) nilA)) nilA)))) (consA (tupA (consA (cF (.str "below")) (consA (tupA (consA (cF (.str "num")) (consA (cF (.int 1)) nilA))) (consA (varF 1) nilA)))) nilA)))) nilA))))
    (seqS (setS 2 (opF addD (varF 2) (lstA (consA (tupA (consA (cF (.str "same")) (consA (tupA (consA (cF (.str "gap")) nilA)) (consA (tupA (consA (cF (.str "plus")) (consA (varF 1) (consA (tupA (consA (cF (.str "gap")) nilA)) nilA)))) nilA)))) nilA))))
    (seqS (setS 2 (opF addD (varF 2) (lstA (consA (tupA (consA (cF (.str "same")) (consA (tupA (consA (cF (.str "part")) (consA (cF (.int 2)) (consA (varF 1) nilA)))) (consA (tupA (consA (cF (.str "gap")) nilA)) nilA)))) (consA (tupA (consA (cF (.str "same")) (consA (tupA (consA (cF (.str "num")) (consA (cF (.int 5)) nilA))) (consA (tupA (consA (cF (.str "minus")) (consA (tupA (consA (cF (.str "num")) (consA (cF (.int 1)) nilA))) (consA (varF 1) nilA)))) nilA)))) nilA)))))
    (seqS (setS 2 (opF addD (varF 2) (lstA (consA (tupA (consA (cF (.str "below")) (consA (tupA (consA (cF (.str "if")) (consA (tupA (consA (cF (.str "below")) (consA (varF 1) (consA (tupA (consA (cF (.str "num")) (consA (cF (.int 0)) nilA))) nilA)))) (consA (tupA (consA (cF (.str "gap")) nilA)) (consA (tupA (consA (cF (.str "num")) (consA (cF (.int 1)) nilA))) nilA))))) (consA (tupA (consA (cF (.str "num")) (consA (cF (.int 2)) nilA))) nilA)))) nilA))))
    (retS (opF ixD (varF 2) (opF modD (varF 0) (cF (.int 8))))))))))
noncomputable def f__law_asking : Fn := fnF 3 b__law_asking
noncomputable def b__law_term : SF :=
    (seqS (setS 2 (tupA (consA (cF (.str "same")) (consA (tupA (consA (cF (.str "at")) (consA (cF (.int 0)) nilA))) (consA (tupA (consA (cF (.str "gap")) nilA)) nilA)))))
    (seqS (setS 3 (lstA (consA (tupA (consA (cF (.str "minus")) (consA (tupA (consA (cF (.str "num")) (consA (cF (.int 1)) nilA))) (consA (varF 1) nilA)))) (consA (tupA (consA (cF (.str "plus")) (consA (varF 1) (consA (tupA (consA (cF (.str "num")) (consA (cF (.int 1)) nilA))) nilA)))) (consA (tupA (consA (cF (.str "times")) (consA (cF (.int 2)) (consA (varF 1) nilA)))) (consA (tupA (consA (cF (.str "part")) (consA (cF (.int 3)) (consA (varF 1) nilA)))) (consA (tupA (consA (cF (.str "rest")) (consA (cF (.int 4)) (consA (varF 1) nilA)))) (consA (varF 1) nilA))))))))
    (seqS (setS 3 (opF addD (varF 3) (lstA (consA (tupA (consA (cF (.str "if")) (consA (tupA (consA (cF (.str "below")) (consA (varF 1) (consA (tupA (consA (cF (.str "num")) (consA (cF (.int 0)) nilA))) nilA)))) (consA (tupA (consA (cF (.str "gap")) nilA)) (consA (tupA (consA (cF (.str "num")) (consA (cF (.int 1)) nilA))) nilA))))) (consA (tupA (consA (cF (.str "if")) (consA (varF 2) (consA (varF 1) (consA (tupA (consA (cF (.str "gap")) nilA)) nilA))))) nilA)))))
    (seqS (setS 3 (opF addD (varF 3) (lstA (consA (tupA (consA (cF (.str "if")) (consA (varF 2) (consA (tupA (consA (cF (.str "gap")) nilA)) (consA (varF 1) nilA))))) (consA (tupA (consA (cF (.str "if")) (consA (tupA (consA (cF (.str "not")) (consA (tupA (consA (cF (.str "same")) (consA (tupA (consA (cF (.str "at")) (consA (cF (.int 0)) nilA))) (consA (varF 1) nilA)))) nilA))) (consA (tupA (consA (cF (.str "num")) (consA (cF (.int 1)) nilA))) (consA (tupA (consA (cF (.str "at")) (consA (cF (.int 0)) nilA))) nilA))))) nilA)))))
    (retS (opF ixD (varF 3) (opF modD (varF 0) (cF (.int 10)))))))))
noncomputable def f__law_term : Fn := fnF 4 b__law_term
noncomputable def q0_look_two : EF :=
    (lcF (itF (opF ixD (varF 0) (cF (.int 3)))) [4] (nameG 4) yesT (opF ixD (varF 4) (cF (.int 0))))
noncomputable def q1_look_two : EF :=
    (lcF (itF (opF ixD (varF 0) (cF (.int 3)))) [4] (nameG 4) yesT (opF ixD (varF 4) (cF (.int 1))))
noncomputable def b_look_two : SF :=
    (seqS (setS 3 (opF ixD (varF 0) (cF (.int 0))))
    (seqS (ifS (bF (opF (inSq false) (varF 3) (tupA (consA (cF (.str "pour")) (consA (cF (.str "both")) (consA (cF (.str "either")) (consA (cF (.str "less")) nilA))))))) (seqS (ifS (bF (opF neD (varF 1) (varF 2))) (exS "Unlike") nilS)
    (retS (varF 1))) nilS)
    (seqS (dropS (callF f_not_beyond (consA (q0_look_two) (consA (varF 1) nilA))))
    (seqS (dropS (callF f_not_beyond (consA (q1_look_two) (consA (varF 2) nilA))))
    (seqS (ifS (bF (opF eqD (varF 3) (cF (.str "notin")))) (retS (varF 1)) nilS)
    (retS (callF f_not_wide (consA (opF addD (varF 1) (varF 2)) nilA))))))))
noncomputable def f_look_two : Fn := fnF 5 b_look_two
noncomputable def q0__law_names : EF :=
    (lcF (itA rng1D (consA (callF lenD (consA (varF 3) nilA)) nilA)) [7] (nameG 7) yesT (opF ixD (varF 1) (opF modD (opF addD (opF ixD (varF 3) (varF 7)) (opF mulD (varF 6) (callF int1D (consA (opF eqD (varF 7) (varF 4)) nilA)))) (cF (.int 26)))))
noncomputable def l0__law_names : SF :=
    (dropS (methF "list" appD (varF 5) (consA (methF "str" joinD (cF (.str "")) (consA (q0__law_names) nilA)) nilA)))
noncomputable def b__law_names : SF :=
    (seqS (setS 1 (cF (.str "abcdefghijklmnopqrstuvwxyz")))
    (seqS (setS 2 (callF f__law_mixed (consA (varF 0) nilA)))
    (seqS (setS 3 (callF f__law_digits (consA (opF divD (varF 2) (cF (.int 25))) (consA (opF addD (cF (.int 1)) (opF modD (varF 2) (cF (.int 5)))) (consA (cF (.int 26)) nilA)))))
    (seqS (setS 4 (opF modD (opF modD (opF divD (varF 2) (cF (.int 5))) (cF (.int 5))) (callF lenD (consA (varF 3) nilA))))
    (seqS (setS 5 (lstA nilA))
    (seqS (forS (itA rng1D (consA (cF (.int 4)) nilA)) (nameG 6) (l0__law_names))
    (retS (varF 5))))))))
noncomputable def f__law_names : Fn := fnF 8 b__law_names
noncomputable def b__law_spots : SF :=
    (seqS (setS 3 (callF f__law_digits (consA (opF divD (varF 0) (cF (.int 3))) (consA (varF 1) (consA (varF 2) nilA)))))
    (seqS (ifS (andT (bF (opF eqD (opF modD (varF 0) (cF (.int 3))) (cF (.int 1)))) (andT (bF (opF gtD (varF 1) (cF (.int 0)))) (bF (opF ltD (varF 2) (cF (.int 12)))))) (seqS (asgS (opF addD (varF 2) (opF modD (opF divD (varF 0) (cF (.int 36))) (opF subD (cF (.int 12)) (varF 2)))) (subG (varF 3) (opF modD (opF divD (varF 0) (cF (.int 3))) (varF 1)) setIx))
    (retS (tupA (consA (varF 3) (consA (cF (.int 2)) nilA))))) nilS)
    (retS (tupA (consA (varF 3) (consA (cF (.int 0)) nilA))))))
noncomputable def f__law_spots : Fn := fnF 4 b__law_spots
noncomputable def q0__law_one : EF :=
    (lcF (itA rng1D (consA (callF lenD (consA (varF 4) nilA)) nilA)) [7] (nameG 7) yesT (callF f__law_term (consA (opF addD (opF divD (varF 0) (cF (.int 13))) (varF 7)) (consA (tupA (consA (cF (.str "at")) (consA (opF ixD (varF 4) (varF 7)) nilA))) nilA))))
noncomputable def q1__law_one : EF :=
    (lcF (itF (slF (varF 4) (someO (opF modD (opF divD (varF 0) (cF (.int 13))) (cF (.int 13)))) nonO)) [10] (nameG 10) yesT (tupA (consA (varF 10) (consA (opF eqD (opF modD (varF 10) (cF (.int 2))) (cF (.int 0))) nilA))))
noncomputable def l0__law_one : SF :=
    (setS 6 (tupA (consA (opF ixD (lstA (consA (cF (.str "or")) (consA (cF (.str "and")) nilA))) (opF modD (varF 7) (cF (.int 2)))) (consA (varF 6) (consA (callF f__law_asking (consA (opF divD (opF divD (varF 0) (cF (.int 91))) (varF 7)) (consA (tupA (consA (cF (.str "at")) (consA (opF ixD (varF 4) (varF 7)) nilA))) nilA))) nilA)))))
noncomputable def b__law_one : SF :=
    (seqS (setS 3 (opF ixD (varF 2) (cF (.int 1))))
    (seqS (asgS (callF f__law_spots (consA (opF divD (varF 0) (cF (.int 25))) (consA (opF addD (cF (.int 1)) (opF modD (varF 0) (cF (.int 13)))) (consA (varF 3) nilA)))) (tupG 2 (consG (nameG 4) (consG (nameG 5) nilG))))
    (seqS (ifS (bF (opF eqD (varF 1) (cF (.str "sieve")))) (seqS (setS 4 (slF (varF 4) nonO (someO (cF (.int 3)))))
    (seqS (setS 5 (opF mulD (cF (.int 2)) (callF int1D (consA (opF geD (callF maxLD (consA (varF 4) nilA)) (varF 3)) nilA))))
    (seqS (setS 6 (callF f__law_asking (consA (opF divD (varF 0) (cF (.int 13))) (consA (tupA (consA (cF (.str "at")) (consA (opF ixD (varF 4) (cF (.int 0))) nilA))) nilA))))
    (seqS (forS (itA rng2D (consA (cF (.int 1)) (consA (callF lenD (consA (varF 4) nilA)) nilA))) (nameG 7) (l0__law_one))
    (setS 8 (tupA (consA (varF 1) (consA (opF ixD (varF 2) (cF (.int 0))) (consA (varF 6) nilA))))))))) (ifS (bF (opF eqD (varF 1) (cF (.str "cols")))) (seqS (setS 4 (slF (varF 4) nonO (someO (cF (.int 12)))))
    (seqS (setS 5 (opF mulD (cF (.int 2)) (callF int1D (consA (opF geD (callF maxLD (consA (varF 4) nilA)) (varF 3)) nilA))))
    (seqS (setS 8 (tupA (consA (varF 1) (consA (opF ixD (varF 2) (cF (.int 0))) (consA (callF tupleD (consA (q0__law_one) nilA)) nilA)))))
    (setS 3 (callF lenD (consA (varF 4) nilA)))))) (ifS (bF (opF eqD (varF 1) (cF (.str "once")))) (seqS (setS 5 (cF (.int 0)))
    (setS 8 (tupA (consA (varF 1) (consA (opF ixD (varF 2) (cF (.int 0))) nilA))))) (ifS (bF (opF eqD (varF 1) (cF (.str "count")))) (seqS (setS 4 (slF (varF 4) nonO (someO (cF (.int 12)))))
    (seqS (setS 5 (opF mulD (cF (.int 2)) (callF int1D (consA (opF geD (callF maxLD (consA (varF 4) nilA)) (varF 3)) nilA))))
    (seqS (setS 3 (opF addD (callF lenD (consA (varF 4) nilA)) (cF (.int 1))))
    (setS 8 (tupA (consA (varF 1) (consA (opF ixD (varF 2) (cF (.int 0))) (consA (callF tupleD (consA (varF 4) nilA)) nilA)))))))) (ifS (bF (opF eqD (varF 1) (cF (.str "first")))) (seqS (setS 9 (callF tupleD (consA (slF (q1__law_one) nonO (someO (cF (.int 12)))) nilA)))
    (seqS (setS 11 (callF tupleD (consA (slF (varF 4) nonO (someO (opF modD (opF divD (varF 0) (cF (.int 13))) (cF (.int 13))))) nilA)))
    (seqS (setS 5 (opF mulD (cF (.int 2)) (callF int1D (consA (opF geD (callF maxLD (consA (slF (varF 4) nonO (someO (opF addD (callF lenD (consA (varF 11) nilA)) (callF lenD (consA (varF 9) nilA))))) nilA)) (varF 3)) nilA))))
    (setS 8 (tupA (consA (varF 1) (consA (opF ixD (varF 2) (cF (.int 0))) (consA (opF modD (varF 0) (cF (.int 61))) (consA (varF 11) (consA (varF 9) nilA)))))))))) (seqS (setS 3 (callF lenD (consA (varF 4) nilA)))
    (setS 8 (tupA (consA (varF 1) (consA (opF ixD (varF 2) (cF (.int 0))) (consA (opF ixD (varF 4) (cF (.int 0))) (consA (callF tupleD (consA (slF (varF 4) (someO (cF (.int 1))) nonO) nilA)) nilA))))))))))))
    (seqS (setS 5 (callF f__law_first_due (consA (lstA (consA (opF ixD (varF 2) (cF (.int 2))) (consA (varF 5) (consA (callF f__law_beyond (consA (varF 3) nilA)) nilA)))) nilA)))
    (retS (tupA (consA (varF 8) (consA (callF minD (consA (varF 3) (consA (cF (.int 12)) nilA))) (consA (varF 5) (consA (opF addD (opF addD (cF (.int 24)) (opF mulD (cF (.int 40)) (callF lenD (consA (varF 4) nilA)))) (opF ixD (varF 2) (cF (.int 3)))) (consA (opF addD (cF (.int 1)) (opF ixD (varF 2) (cF (.int 4)))) nilA)))))))))))
noncomputable def f__law_one : Fn := fnF 12 b__law_one
noncomputable def b__law_two : SF :=
    (seqS (setS 4 (opF ixD (varF 2) (cF (.int 1))))
    (seqS (setS 5 (lstA (consA (opF ixD (varF 2) (cF (.int 2))) (consA (opF ixD (varF 3) (cF (.int 2))) nilA))))
    (seqS (setS 6 (cF (.int 0)))
    (seqS (ifS (bF (opF (inSq false) (varF 1) (tupA (consA (cF (.str "pour")) (consA (cF (.str "both")) (consA (cF (.str "either")) (consA (cF (.str "less")) nilA))))))) (seqS (dropS (methF "list" appD (varF 5) (consA (opF mulD (cF (.int 3)) (callF int1D (consA (opF neD (varF 4) (opF ixD (varF 3) (cF (.int 1)))) nilA))) nilA)))
    (setS 7 (tupA (consA (varF 1) (consA (opF ixD (varF 2) (cF (.int 0))) (consA (opF ixD (varF 3) (cF (.int 0))) nilA)))))) (seqS (setS 6 (opF modD (varF 0) (cF (.int 13))))
    (seqS (asgS (callF f__law_spots (consA (opF addD (opF divD (varF 0) (cF (.int 13))) (opF mulD (cF (.int 2)) (opF modD (varF 0) (cF (.int 2))))) (consA (varF 6) (consA (varF 4) nilA)))) (tupG 2 (consG (nameG 8) (consG (nameG 9) nilG))))
    (seqS (asgS (callF f__law_spots (consA (opF addD (opF divD (varF 0) (cF (.int 26))) (opF mulD (cF (.int 2)) (opF subD (cF (.int 1)) (opF modD (varF 0) (cF (.int 2)))))) (consA (varF 6) (consA (opF ixD (varF 3) (cF (.int 1))) nilA)))) (tupG 2 (consG (nameG 10) (consG (nameG 11) nilG))))
    (seqS (setS 5 (opF addD (varF 5) (lstA (consA (varF 9) (consA (varF 11) nilA)))))
    (seqS (setS 7 (tupA (consA (varF 1) (consA (opF ixD (varF 2) (cF (.int 0))) (consA (opF ixD (varF 3) (cF (.int 0))) (consA (callF tupleD (consA (lzF (consA (varF 8) (consA (varF 10) nilA))) nilA)) nilA))))))
    (ifS (bF (opF neD (varF 1) (cF (.str "notin")))) (seqS (setS 4 (opF addD (varF 4) (opF ixD (varF 3) (cF (.int 1)))))
    (dropS (methF "list" appD (varF 5) (consA (callF f__law_beyond (consA (varF 4) nilA)) nilA)))) nilS)))))))
    (seqS (setS 9 (callF f__law_first_due (consA (varF 5) nilA)))
    (retS (tupA (consA (varF 7) (consA (callF minD (consA (varF 4) (consA (cF (.int 12)) nilA))) (consA (varF 9) (consA (opF addD (opF addD (opF addD (cF (.int 24)) (opF mulD (cF (.int 8)) (varF 6))) (opF ixD (varF 2) (cF (.int 3)))) (opF ixD (varF 3) (cF (.int 3)))) (consA (opF addD (cF (.int 1)) (callF maxD (consA (opF ixD (varF 2) (cF (.int 4))) (consA (opF ixD (varF 3) (cF (.int 4))) nilA)))) nilA))))))))))))
noncomputable def f__law_two : Fn := fnF 12 b__law_two
noncomputable def b__law_rounds : SF :=
    (seqS (setS 5 (opF modD (varF 0) (cF (.int 9))))
    (seqS (setS 6 (tupA (consA (tupA (consA (cF (.str "name")) (consA (varF 3) nilA))) (consA (opF ixD (varF 1) (cF (.int 1))) (consA (cF (.int 0)) (consA (cF (.int 9)) (consA (cF (.int 0)) nilA)))))))
    (seqS (setS 7 (varF 6))
    (seqS (setS 8 (cF (.int 0)))
    (seqS (ifS (bF (opF eqD (varF 5) (cF (.int 1)))) (seqS (setS 3 (varF 4))
    (setS 8 (cF (.int 5)))) nilS)
    (seqS (ifS (bF (opF eqD (varF 5) (cF (.int 2)))) (setS 1 (tupA (consA (tupA (consA (cF (.str "name")) (consA (varF 3) nilA))) (consA (opF ixD (varF 1) (cF (.int 1))) (consA (cF (.int 1)) (consA (cF (.int 9)) (consA (cF (.int 0)) nilA))))))) nilS)
    (seqS (ifS (bF (opF eqD (varF 5) (cF (.int 3)))) (setS 7 (varF 2)) nilS)
    (seqS (ifS (bF (opF eqD (varF 5) (cF (.int 4)))) (setS 7 (tupA (consA (tupA (consA (cF (.str "rounds")) (consA (varF 3) (consA (cF (.int 2)) (consA (opF ixD (varF 6) (cF (.int 0))) (consA (opF ixD (varF 6) (cF (.int 0))) nilA)))))) (consA (opF ixD (varF 1) (cF (.int 1))) (consA (cF (.int 5)) (consA (cF (.int 42)) (consA (cF (.int 1)) nilA))))))) nilS)
    (seqS (ifS (bF (opF eqD (varF 5) (cF (.int 8)))) (setS 1 (tupA (consA (tupA (consA (cF (.str "rounds")) (consA (varF 3) (consA (cF (.int 2)) (consA (opF ixD (varF 1) (cF (.int 0))) (consA (opF ixD (varF 6) (cF (.int 0))) nilA)))))) (consA (opF ixD (varF 1) (cF (.int 1))) (consA (opF ixD (varF 1) (cF (.int 2))) (consA (opF addD (cF (.int 42)) (opF ixD (varF 1) (cF (.int 3)))) (consA (opF addD (cF (.int 1)) (opF ixD (varF 1) (cF (.int 4)))) nilA))))))) nilS)
    (seqS (ifS (bF (chainF ltD ltD (cF (.int 4)) (varF 5) (cF (.int 8)))) (setS 7 (callF f__law_two (consA (opF divD (varF 0) (cF (.int 8))) (consA (opF ixD (lstA (consA (cF (.str "less")) (consA (cF (.str "pour")) (consA (cF (.str "notin")) (consA (cF (.str "join")) nilA))))) (opF modD (opF divD (varF 0) (cF (.int 8))) (cF (.int 4)))) (consA (varF 6) (consA (varF 2) nilA)))))) nilS)
    (seqS (setS 9 (tupA (consA (cF (.str "rounds")) (consA (varF 3) (consA (opF addD (cF (.int 1)) (opF modD (opF divD (varF 0) (cF (.int 28))) (cF (.int 6)))) (consA (opF ixD (varF 1) (cF (.int 0))) (consA (opF ixD (varF 7) (cF (.int 0))) nilA)))))))
    (seqS (setS 10 (callF f__law_first_due (consA (lstA (consA (varF 8) (consA (opF ixD (varF 1) (cF (.int 2))) (consA (opF ixD (varF 7) (cF (.int 2))) (consA (opF mulD (cF (.int 3)) (callF int1D (consA (opF neD (opF ixD (varF 1) (cF (.int 1))) (opF ixD (varF 7) (cF (.int 1)))) nilA))) nilA))))) nilA)))
    (seqS (setS 11 (tupA (consA (varF 9) (consA (opF ixD (varF 1) (cF (.int 1))) (consA (varF 10) (consA (opF addD (opF addD (cF (.int 24)) (opF ixD (varF 1) (cF (.int 3)))) (opF ixD (varF 7) (cF (.int 3)))) (consA (opF addD (cF (.int 1)) (callF maxD (consA (opF ixD (varF 1) (cF (.int 4))) (consA (opF ixD (varF 7) (cF (.int 4))) nilA)))) nilA)))))))
    (seqS (ifS (bF (opF eqD (varF 5) (cF (.int 7)))) (retS (tupA (consA (tupA (consA (cF (.str "both")) (consA (varF 9) (consA (opF ixD (varF 6) (cF (.int 0))) nilA)))) (consA (opF ixD (varF 1) (cF (.int 1))) (consA (callF f__law_first_due (consA (lstA (consA (varF 10) (consA (cF (.int 1)) nilA))) nilA)) (consA (opF addD (cF (.int 33)) (opF ixD (varF 11) (cF (.int 3)))) (consA (opF addD (cF (.int 1)) (opF ixD (varF 11) (cF (.int 4)))) nilA))))))) nilS)
    (retS (varF 11))))))))))))))))
noncomputable def f__law_rounds : Fn := fnF 12 b__law_rounds
noncomputable def b__law_next : SF :=
    (seqS (setS 6 (opF ixD (lstA (consA (cF (.str "sieve")) (consA (cF (.str "cols")) (consA (cF (.str "once")) (consA (cF (.str "count")) (consA (cF (.str "sum")) (consA (cF (.str "least")) (consA (cF (.str "most")) (consA (cF (.str "first")) (consA (cF (.str "join")) (consA (cF (.str "left")) (consA (cF (.str "notin")) (consA (cF (.str "pour")) (consA (cF (.str "both")) (consA (cF (.str "either")) (consA (cF (.str "less")) (consA (cF (.str "rounds")) nilA))))))))))))))))) (opF subD (opF modD (varF 0) (cF (.int 19))) (cF (.int 3)))))
    (seqS (ifS (bF (opF eqD (opF modD (opF divD (varF 0) (cF (.int 19))) (cF (.int 2))) (cF (.int 1)))) (parS 2 3 (consA (varF 3) (consA (varF 2) nilA))) nilS)
    (seqS (ifS (bF (opF eqD (varF 6) (cF (.str "rounds")))) (retS (callF f__law_rounds (consA (varF 1) (consA (varF 2) (consA (varF 3) (consA (varF 4) (consA (varF 5) nilA))))))) nilS)
    (seqS (ifS (bF (opF (inSq false) (varF 6) (tupA (consA (cF (.str "join")) (consA (cF (.str "left")) (consA (cF (.str "notin")) (consA (cF (.str "pour")) (consA (cF (.str "both")) (consA (cF (.str "either")) (consA (cF (.str "less")) nilA)))))))))) (retS (callF f__law_two (consA (varF 1) (consA (varF 6) (consA (varF 2) (consA (varF 3) nilA)))))) nilS)
    (retS (callF f__law_one (consA (varF 1) (consA (varF 6) (consA (varF 2) nilA)))))))))
noncomputable def f__law_next : Fn := fnF 7 b__law_next
noncomputable def l0_places_in (r_places_in : Fn) : SF :=
    (ifS (bF (callF isiD (consA (varF 2) (consA (cF (.ty "tuple")) nilA)))) (dropS (methF "list" extD (varF 1) (consA (callF r_places_in (consA (varF 2) nilA)) nilA))) nilS)
noncomputable def b_places_in (r_places_in : Fn) : SF :=
    (seqS (ifS (bF (opF eqD (opF ixD (varF 0) (cF (.int 0))) (cF (.str "at")))) (retS (lstA (consA (opF ixD (varF 0) (cF (.int 1))) nilA))) nilS)
    (seqS (setS 1 (lstA nilA))
    (seqS (forS (itF (slF (varF 0) (someO (cF (.int 1))) nonO)) (nameG 2) (l0_places_in r_places_in))
    (retS (varF 1)))))
noncomputable def f_places_in : Nat → Fn
  | 0 => fun _ _ => .bad
  | d + 1 => fnF 3 (b_places_in (f_places_in d))
noncomputable def q0_places_of : EF :=
    (lcF (itF (opF ixD (varF 0) (cF (.int 4)))) [4] (nameG 4) yesT (opF ixD (varF 4) (cF (.int 0))))
noncomputable def l0_places_of : SF :=
    (dropS (methF "list" extD (varF 2) (consA (callF (f_places_in 10) (consA (varF 3) nilA)) nilA)))
noncomputable def b_places_of : SF :=
    (seqS (setS 1 (opF ixD (varF 0) (cF (.int 0))))
    (seqS (ifS (bF (opF eqD (varF 1) (cF (.str "sieve")))) (retS (callF (f_places_in 10) (consA (opF ixD (varF 0) (cF (.int 2))) nilA))) nilS)
    (seqS (ifS (bF (opF eqD (varF 1) (cF (.str "cols")))) (seqS (setS 2 (lstA nilA))
    (seqS (forS (itF (opF ixD (varF 0) (cF (.int 2)))) (nameG 3) (l0_places_of))
    (retS (varF 2)))) nilS)
    (seqS (ifS (bF (opF eqD (varF 1) (cF (.str "once")))) (retS (lstA nilA)) nilS)
    (seqS (ifS (bF (opF eqD (varF 1) (cF (.str "count")))) (retS (callF listD (consA (opF ixD (varF 0) (cF (.int 2))) nilA))) nilS)
    (seqS (ifS (bF (opF eqD (varF 1) (cF (.str "first")))) (retS (opF addD (callF listD (consA (opF ixD (varF 0) (cF (.int 3))) nilA)) (q0_places_of))) nilS)
    (retS (opF addD (callF listD (consA (opF ixD (varF 0) (cF (.int 3))) nilA)) (lstA (consA (opF ixD (varF 0) (cF (.int 2))) nilA))))))))))
noncomputable def f_places_of : Fn := fnF 5 b_places_of
noncomputable def b_look_rounds (r_look_rounds r_look : Fn) : SF :=
    (seqS (ifS (bF (opF (dinD false) (opF ixD (varF 0) (cF (.int 1))) (varF 1))) (exS "Twice") nilS)
    (seqS (setS 2 (callF r_look (consA (opF ixD (varF 0) (cF (.int 3))) (consA (varF 1) nilA))))
    (seqS (setS 3 (callF dictD (consA (varF 1) nilA)))
    (seqS (dputS (varF 2) (varF 3) (opF ixD (varF 0) (cF (.int 1))))
    (seqS (ifS (bF (opF neD (callF r_look (consA (opF ixD (varF 0) (cF (.int 4))) (consA (varF 3) nilA))) (varF 2))) (exS "Unlike") nilS)
    (retS (varF 2)))))))
noncomputable def b_look (r_look_rounds r_look : Fn) : SF :=
    (seqS (setS 2 (opF ixD (varF 0) (cF (.int 0))))
    (seqS (ifS (bF (opF eqD (varF 2) (cF (.str "name")))) (seqS (ifS (bF (opF (dinD true) (opF ixD (varF 0) (cF (.int 1))) (varF 1))) (exS "NoName") nilS)
    (retS (opF dixD (varF 1) (opF ixD (varF 0) (cF (.int 1)))))) nilS)
    (seqS (ifS (bF (opF eqD (varF 2) (cF (.str "rounds")))) (retS (callF r_look_rounds (consA (varF 0) (consA (varF 1) nilA)))) nilS)
    (seqS (setS 3 (callF r_look (consA (opF ixD (varF 0) (cF (.int 1))) (consA (varF 1) nilA))))
    (seqS (ifS (bF (opF (inSq false) (varF 2) (tupA (consA (cF (.str "join")) (consA (cF (.str "left")) (consA (cF (.str "notin")) (consA (cF (.str "pour")) (consA (cF (.str "both")) (consA (cF (.str "either")) (consA (cF (.str "less")) nilA)))))))))) (retS (callF f_look_two (consA (varF 0) (consA (varF 3) (consA (callF r_look (consA (opF ixD (varF 0) (cF (.int 2))) (consA (varF 1) nilA))) nilA))))) nilS)
    (seqS (dropS (callF f_not_beyond (consA (callN f_places_of (consA (varF 0) nilA)) (consA (varF 3) nilA))))
    (seqS (ifS (bF (opF eqD (varF 2) (cF (.str "cols")))) (retS (callF lenD (consA (opF ixD (varF 0) (cF (.int 2))) nilA))) nilS)
    (seqS (ifS (bF (opF eqD (varF 2) (cF (.str "count")))) (retS (callF f_not_wide (consA (opF addD (callF lenD (consA (opF ixD (varF 0) (cF (.int 2))) nilA)) (cF (.int 1))) nilA))) nilS)
    (seqS (ifS (bF (opF (inSq false) (varF 2) (tupA (consA (cF (.str "sum")) (consA (cF (.str "least")) (consA (cF (.str "most")) nilA)))))) (retS (callF f_not_wide (consA (opF addD (callF lenD (consA (opF ixD (varF 0) (cF (.int 3))) nilA)) (cF (.int 1))) nilA))) nilS)
    (retS (varF 3)))))))))))
noncomputable def F_look_rounds : Nat → Fn × Fn
  | 0 => (fun _ _ => .bad, fun _ _ => .bad)
  | d + 1 => (fnF 4 (b_look_rounds ((F_look_rounds d).1) ((F_look_rounds d).2)), fnF 4 (b_look ((F_look_rounds d).1) ((F_look_rounds d).2)))
noncomputable def f_look_rounds (d : Nat) : Fn := (F_look_rounds d).1
noncomputable def f_look (d : Nat) : Fn := (F_look_rounds d).2
theorem f_look_rounds_s (d : Nat) : f_look_rounds (d + 1) = fnF 4 (b_look_rounds (f_look_rounds d) (f_look d)) := rfl
theorem f_look_s (d : Nat) : f_look (d + 1) = fnF 4 (b_look (f_look_rounds d) (f_look d)) := rfl
noncomputable def q0__law_fits : EF :=
    (lcF (itA rng2D (consA (cF (.int 1)) (consA (cF (.int 6)) nilA))) [8] (nameG 8) yesT (opF eqD (varF 3) (varF 8)))
noncomputable def b__law_fits : SF :=
    (seqS (setS 4 (callF dictD (consA (varF 1) nilA)))
    (seqS (setS 5 (cF .non))
    (seqS (setS 6 (lstA nilA))
    (seqS (tryKS 5 7 6 (f_look 80) (consA (varF 0) (consA (varF 4) nilA)) kinds__law_fits)
    (seqS (ifS (bF (opF neDC (varF 4) (varF 1))) (retS (cF (.bl false))) nilS)
    (seqS (ifS (bF (opF eqD (varF 3) (cF (.int 0)))) (retS (andV (opF eqBL (varF 6) (lstA nilA)) (andV (callF f__law_whole (consA (varF 5) nilA)) (opF eqD (varF 5) (varF 2))))) nilS)
    (retS (opF eqBL (varF 6) (opF addD (opF addD (q0__law_fits) (lstA (consA (cF (.bl true)) nilA))) (opF repD (lstA (consA (cF (.bl false)) nilA)) (cF (.int 7))))))))))))
noncomputable def f__law_fits : Fn := fnF 9 b__law_fits
noncomputable def q0_law : EF :=
    (lcF (itF (varF 1)) [5] (nameG 5) yesT (tupA (consA (tupA (consA (cF (.str "name")) (consA (varF 5) nilA))) (consA (opF dixD (varF 2) (varF 5)) (consA (cF (.int 0)) (consA (cF (.int 9)) (consA (cF (.int 0)) nilA)))))))
noncomputable def l1_law : SF :=
    (seqS (setS 9 (opF ixD (varF 0) (varF 8)))
    (seqS (setS 10 (varF 6))
    (seqS (ifS (bF (opF ltD (opF modD (varF 9) (cF (.int 19))) (cF (.int 3)))) (seqS (setS 7 (varF 6))
    (setS 6 (opF ixD (varF 4) (opF ixD (lstA (consA (opF modD (opF divD (varF 9) (cF (.int 19))) (cF (.int 4))) (consA (cF (.int 4)) nilA))) (callF int1D (consA (opF eqD (opF modD (varF 9) (cF (.int 19))) (cF (.int 2))) nilA)))))) (setS 6 (callF f__law_next (consA (varF 9) (consA (callF f__law_mixed (consA (opF addD (opF mulD (cF (.int 64)) (varF 9)) (varF 8)) nilA)) (consA (varF 6) (consA (varF 7) (consA (callF f__law_fresh (consA (varF 1) (consA (varF 8) nilA))) (consA (opF ixD (varF 1) (opF modD (opF divD (varF 9) (cF (.int 38))) (cF (.int 4)))) nilA)))))))))
    (ifS (orT (bF (opF gtD (opF ixD (varF 6) (cF (.int 3))) (cF (.int 1900)))) (bF (opF gtD (opF ixD (varF 6) (cF (.int 4))) (cF (.int 25))))) (seqS (ifS (notT (bF (callF f__law_fits (consA (opF ixD (varF 10) (cF (.int 0))) (consA (varF 2) (consA (opF ixD (varF 10) (cF (.int 1))) (consA (opF ixD (varF 10) (cF (.int 2))) nilA))))))) (retS (cF (.bl false))) nilS)
    (setS 6 (opF ixD (varF 4) (opF modD (opF divD (varF 9) (cF (.int 19))) (cF (.int 4)))))) nilS))))
noncomputable def l0_law : SF :=
    (dputS (opF addD (cF (.int 1)) (opF modD (callF f__law_cell_at (consA (varF 0) (consA (opF addD (cF (.int 1)) (varF 3)) nilA))) (cF (.int 12)))) (varF 2) (opF ixD (varF 1) (varF 3)))
noncomputable def b_law : SF :=
    (seqS (setS 1 (callF f__law_names (consA (callF f__law_cell_at (consA (varF 0) (consA (cF (.int 0)) nilA))) nilA)))
    (seqS (setS 2 dicF)
    (seqS (forS (itA rng1D (consA (cF (.int 4)) nilA)) (nameG 3) (l0_law))
    (seqS (setS 4 (q0_law))
    (seqS (dropS (methF "list" appD (varF 4) (consA (tupA (consA (tupA (consA (cF (.str "name")) (consA (opF addD (opF ixD (varF 1) (cF (.int 0))) (cF (.str "q"))) nilA))) (consA (cF (.int 2)) (consA (cF (.int 1)) (consA (cF (.int 9)) (consA (cF (.int 0)) nilA)))))) nilA)))
    (seqS (setS 6 (opF ixD (varF 4) (opF modD (callF f__law_cell_at (consA (varF 0) (consA (cF (.int 5)) nilA))) (cF (.int 4)))))
    (seqS (setS 7 (opF ixD (varF 4) (opF modD (opF divD (callF f__law_cell_at (consA (varF 0) (consA (cF (.int 5)) nilA))) (cF (.int 4))) (cF (.int 5)))))
    (seqS (forS (itA rng2D (consA (cF (.int 6)) (consA (callF minD (consA (callF lenD (consA (varF 0) nilA)) (consA (cF (.int 63)) nilA))) nilA))) (nameG 8) (l1_law))
    (retS (andV (callF f__law_fits (consA (opF ixD (varF 6) (cF (.int 0))) (consA (varF 2) (consA (opF ixD (varF 6) (cF (.int 1))) (consA (opF ixD (varF 6) (cF (.int 2))) nilA))))) (callF f__law_fits (consA (opF ixD (varF 7) (cF (.int 0))) (consA (varF 2) (consA (opF ixD (varF 7) (cF (.int 1))) (consA (opF ixD (varF 7) (cF (.int 2))) nilA)))))))))))))))
noncomputable def f_law : Fn := fnF 11 b_law
end Law
namespace Law
open PySem L2 VL
/-! what the laws' own helpers tell: cell_at, truth, mixed, cell, row -/
theorem cell_at_ok {st : Sto} {n : Nat} {ns : List Int} {k : Nat} (h : listAt st n = some (ns.map VL.D.int)) : f__law_cell_at [.ref n, .int k] st = .ok (.int (ns.getD k 0)) st := by
  have hl : lenD [VL.D.ref n] st = .ok (.int ns.length) st := by
    show (match listAt st n with | some xs => R.ok (VL.D.int xs.length) st | none => .bad) = _
    rw [h]; simp
  by_cases hk : k < ns.length
  · have e1 : decide ((k : Int) < (ns.length : Int)) = true := decide_eq_true (by omega)
    have e2 : (ns.map VL.D.int)[k]? = some (.int ns[k]) := by rw [List.getElem?_map, List.getElem?_eq_getElem hk]; rfl
    have hi : ixD (.ref n) (.int (k : Int)) st = .ok (.int ns[k]) st := by
      show (match (listAt st n).bind fun xs => atI xs (k : Int) with | some d => R.ok d st | none => .bad) = _
      rw [h, Option.bind_some, atI_nat e2]
    simp -implicitDefEqProofs only [varF_ap, cF_ap, opF_ap, opK_ap, bF_ap, boolK_ap, andT_ap, andK_ap, orT_ap, orK_ap, notT_ap, notK_ap, yesT_ap, andV_ap, andVK_ap, orV_ap, orVK_ap, notV_ap, notVK_ap, ifF_ap, ifFK_ap, nilA_ap, consA_ap, consK_ap, consJ_ap, tupA_ap, tupK_ap, lstA_ap, lstK_ap, newO_ap, dicF_ap, callF_ap, un1_ap, methF_ap, methK_ap, nonO_ap, someO_ap, someK_ap, slF_ap, slK_ap, slJ_ap, itF_ap, itA_ap, nilS_ap, bkS_ap, ctS_ap, seqS_ap, seqK_nx, seqK_rt, seqK_bk, seqK_ct, dropS_ap, dropK_ap, retS_ap, retK_ap, retN_ap, ifS_ap, ifK_ap, setS_ap, setK_ap, asgS_ap, asgK_ap, asgJ_ap, nameG_ap, nilG_ap, consG_ap, consGK_ap, tupG_ap, fnF_ap, fnK_nx, fnK_rt, forS_ap, forK_ap, intD_ap, negD_ap, addI_ap, varK_ap, startE, yes2, isN, List.map_cons, List.map_nil, List.length_cons, List.length_nil, List.replicate, List.append_nil, List.cons_append, List.nil_append, List.getElem?_cons_zero, List.getElem?_cons_succ, List.set_cons_zero, List.set_cons_succ, R.bind_ok, R.bind_ex, R.bind_bad, R.noex_ok, if_true, if_false, Bool.false_eq_true, Bool.true_eq_false, ite_true, ite_false, reduceIte, Nat.reduceAdd, Nat.reduceSub, Nat.zero_add, Nat.sub_self, Nat.sub_zero, decide_true, decide_false, Bool.not_true, Bool.not_false, f__law_cell_at, b__law_cell_at, hl, e1, hi]
    rw [List.getD_eq_getElem?_getD, List.getElem?_eq_getElem hk]; rfl
  · have e1 : decide ((k : Int) < (ns.length : Int)) = false := decide_eq_false (by omega)
    simp -implicitDefEqProofs only [varF_ap, cF_ap, opF_ap, opK_ap, bF_ap, boolK_ap, andT_ap, andK_ap, orT_ap, orK_ap, notT_ap, notK_ap, yesT_ap, andV_ap, andVK_ap, orV_ap, orVK_ap, notV_ap, notVK_ap, ifF_ap, ifFK_ap, nilA_ap, consA_ap, consK_ap, consJ_ap, tupA_ap, tupK_ap, lstA_ap, lstK_ap, newO_ap, dicF_ap, callF_ap, un1_ap, methF_ap, methK_ap, nonO_ap, someO_ap, someK_ap, slF_ap, slK_ap, slJ_ap, itF_ap, itA_ap, nilS_ap, bkS_ap, ctS_ap, seqS_ap, seqK_nx, seqK_rt, seqK_bk, seqK_ct, dropS_ap, dropK_ap, retS_ap, retK_ap, retN_ap, ifS_ap, ifK_ap, setS_ap, setK_ap, asgS_ap, asgK_ap, asgJ_ap, nameG_ap, nilG_ap, consG_ap, consGK_ap, tupG_ap, fnF_ap, fnK_nx, fnK_rt, forS_ap, forK_ap, intD_ap, negD_ap, addI_ap, varK_ap, startE, yes2, isN, List.map_cons, List.map_nil, List.length_cons, List.length_nil, List.replicate, List.append_nil, List.cons_append, List.nil_append, List.getElem?_cons_zero, List.getElem?_cons_succ, List.set_cons_zero, List.set_cons_succ, R.bind_ok, R.bind_ex, R.bind_bad, R.noex_ok, if_true, if_false, Bool.false_eq_true, Bool.true_eq_false, ite_true, ite_false, reduceIte, Nat.reduceAdd, Nat.reduceSub, Nat.zero_add, Nat.sub_self, Nat.sub_zero, decide_true, decide_false, Bool.not_true, Bool.not_false, f__law_cell_at, b__law_cell_at, hl, e1]
    rw [List.getD_eq_getElem?_getD, List.getElem?_eq_none (by omega)]; rfl
end Law

namespace Law
open PySem L2 VL
/-! columns and tests looked through: their places, their sizes -/
theorem sz {n : Nat} (h : n ≤ 100) : (n ≤ sizeLine) = True := eq_true (by rw [sizeLine_eq']; omega)
theorem jx0 {a : VL.D} {xs : List VL.D} {st : Sto} : ixD (.tup (a :: xs)) (.int 0) st = .ok a st := ixD_tup (k := 0) rfl
theorem jx1 {a b : VL.D} {xs : List VL.D} {st : Sto} : ixD (.tup (a :: b :: xs)) (.int 1) st = .ok b st := ixD_tup (k := 1) rfl
theorem jx2 {a b c : VL.D} {xs : List VL.D} {st : Sto} : ixD (.tup (a :: b :: c :: xs)) (.int 2) st = .ok c st := ixD_tup (k := 2) rfl
theorem jx3 {a b c d : VL.D} {xs : List VL.D} {st : Sto} : ixD (.tup (a :: b :: c :: d :: xs)) (.int 3) st = .ok d st := ixD_tup (k := 3) rfl
theorem jx4 {a b c d e : VL.D} {xs : List VL.D} {st : Sto} : ixD (.tup (a :: b :: c :: d :: e :: xs)) (.int 4) st = .ok e st := ixD_tup (k := 4) rfl
mutual
/-- the places of a column or test -/
def plc : VL.D → List Int
  | .tup xs => plcH xs
  | _ => []
def plcH : List VL.D → List Int
  | .str w :: xs => if w = "at" then (match xs with | .int p :: _ => [p] | _ => []) else plcs xs
  | _ => []
def plcs : List VL.D → List Int
  | [] => []
  | x :: xs => plc x ++ plcs xs
end
/-- a column or test, less deep than n -/
def Ex : Nat → VL.D → Prop
  | 0, _ => False
  | n + 1, e => (∃ p, e = .tup [.str "at", .int p]) ∨ ∃ w xs, e = .tup (.str w :: xs) ∧ w ≠ "at" ∧ xs.length ≤ 8 ∧ ∀ x ∈ xs, (∃ i, x = .int i) ∨ Ex n x
theorem Ex.tup {n : Nat} {e : VL.D} (h : Ex n e) : ∃ xs, e = .tup xs := by
  cases n with
  | zero => cases h
  | succ n => rcases h with ⟨p, rfl⟩ | ⟨w, xs, rfl, _⟩ <;> exact ⟨_, rfl⟩
def PlOk (n : Nat) (e : VL.D) : Prop := (plc e).length ≤ 8 ^ n ∧ ∀ d, n ≤ d → ∀ st : Sto, ∃ r S, f_places_in d [e] st = .ok (.ref r) S ∧ Le st S ∧ st.length ≤ r ∧ S[r]? = some (.lst ((plc e).map .int))
def isTp : VL.D → Bool
  | .tup _ => true
  | _ => false
theorem isT_piece {x : VL.D} {st : Sto} (h : (∃ i, x = .int i) ∨ ∃ xs, x = .tup xs) : isiD [x, .ty "tuple"] st = .ok (.bl (isTp x)) st := by
  rcases h with ⟨i, rfl⟩ | ⟨xs, rfl⟩
  · rw [isi_ok (d := .int i) (st := st) (T := "tuple") rfl (by decide)]; simp [isT, tyOfD, isTp]
  · rw [isi_ok (d := .tup xs) (st := st) (T := "tuple") rfl (by decide)]; simp [isT, tyOfD, isTp]
theorem slTail {w : VL.D} {xs : List VL.D} {st : Sto} : slD (.tup (w :: xs)) (some 1) none st = .ok (.tup xs) st := by
  show R.ok (VL.D.tup (cutD (w :: xs) (some ((1 : Nat) : Int)) none)) st = _
  rw [cutD_from]; rfl
theorem extD_ok {st : Sto} {n m : Nat} {xs ys : List VL.D} (h1 : st[n]? = some (.lst xs)) (h2 : st[m]? = some (.lst ys)) (hz : xs.length + ys.length ≤ sizeLine) : extD (.ref n) [.ref m] st = .ok .non (st.set n (.lst (xs ++ ys))) := by
  simp only [extD, h1, h2]
  rw [if_pos hz]
theorem pow8 {n : Nat} (h : n ≤ 6) : 8 ^ n ≤ 262144 := by
  have : 8 ^ n ≤ 8 ^ 6 := Nat.pow_le_pow_right (by decide) h
  exact this
theorem plcs_app : ∀ {xs ys : List VL.D}, plcs (xs ++ ys) = plcs xs ++ plcs ys
  | [], ys => rfl
  | x :: xs, ys => by
    show plc x ++ plcs (xs ++ ys) = (plc x ++ plcs xs) ++ plcs ys
    rw [plcs_app, List.append_assoc]
theorem plcs_one {x : VL.D} : plcs [x] = plc x := by
  show plc x ++ [] = plc x
  rw [List.append_nil]
theorem plc_node {w : Str} {xs : List VL.D} (h : w ≠ "at") : plc (.tup (.str w :: xs)) = plcs xs := by
  show (if w = "at" then _ else plcs xs) = _
  rw [if_neg h]
theorem take_more {xs : List VL.D} {i : Nat} {x : VL.D} (h : xs[i]? = some x) : xs.take (i + 1) = xs.take i ++ [x] := by
  rw [List.take_add_one, h]; rfl
theorem places_ok : ∀ (n : Nat) (e : VL.D), n ≤ 6 → Ex n e → PlOk n e
  | 0, _, _, h => by cases h
  | n + 1, e, hn, h => by
    rcases h with ⟨p, rfl⟩ | ⟨w, xs, rfl, hw, hl, hx⟩
    · refine ⟨Nat.one_le_pow _ _ (by decide), fun d hd st => ?_⟩
      obtain ⟨d, rfl⟩ : ∃ k, d = k + 1 := ⟨d - 1, by omega⟩
      refine ⟨st.length, st ++ [.lst [.int p]], ?_, Le.app _ _, Nat.le_refl _, get_last⟩
      have q : eqD (.str "at") (.str "at") st = .ok (.bl true) st := eqS_t
      simp -implicitDefEqProofs only [varF_ap, cF_ap, opF_ap, opK_ap, bF_ap, boolK_ap, andT_ap, andK_ap, orT_ap, orK_ap, notT_ap, notK_ap, yesT_ap, andV_ap, andVK_ap, orV_ap, orVK_ap, notV_ap, notVK_ap, ifF_ap, ifFK_ap, nilA_ap, consA_ap, consK_ap, consJ_ap, tupA_ap, tupK_ap, lstA_ap, lstK_ap, newO_ap, dicF_ap, callF_ap, un1_ap, methF_ap, methK_ap, nonO_ap, someO_ap, someK_ap, slF_ap, slK_ap, slJ_ap, itF_ap, itA_ap, nilS_ap, bkS_ap, ctS_ap, seqS_ap, seqK_nx, seqK_rt, seqK_bk, seqK_ct, dropS_ap, dropK_ap, retS_ap, retK_ap, retN_ap, ifS_ap, ifK_ap, setS_ap, setK_ap, asgS_ap, asgK_ap, asgJ_ap, nameG_ap, nilG_ap, consG_ap, consGK_ap, tupG_ap, fnF_ap, fnK_nx, fnK_rt, forS_ap, forK_ap, intD_ap, negD_ap, addI_ap, varK_ap, startE, yes2, isN, List.map_cons, List.map_nil, List.length_cons, List.length_nil, List.replicate, List.append_nil, List.cons_append, List.nil_append, List.getElem?_cons_zero, List.getElem?_cons_succ, List.set_cons_zero, List.set_cons_succ, R.bind_ok, R.bind_ex, R.bind_bad, R.noex_ok, if_true, if_false, Bool.false_eq_true, Bool.true_eq_false, ite_true, ite_false, reduceIte, Nat.reduceAdd, Nat.reduceSub, Nat.zero_add, Nat.sub_self, Nat.sub_zero, decide_true, decide_false, Bool.not_true, Bool.not_false, f_places_in, b_places_in, jx0, jx1, q, sz (by decide : 1 ≤ 100)]
    · have lens : ∀ i, i ≤ xs.length → (plcs (xs.take i)).length ≤ i * 8 ^ n := by
        intro i
        induction i with
        | zero => intro _; show 0 ≤ _; exact Nat.zero_le _
        | succ i ih =>
          intro hi
          have hx' : xs[i]? = some xs[i] := List.getElem?_eq_getElem (by omega)
          rw [take_more hx', plcs_app, plcs_one, List.length_append, Nat.succ_mul]
          have h1 := ih (by omega)
          have h2 : (plc xs[i]).length ≤ 8 ^ n := by
            rcases hx xs[i] (List.getElem_mem _) with ⟨k, e⟩ | hE
            · rw [e]; exact Nat.zero_le _
            · exact (places_ok n _ (by omega) hE).1
          omega
      have big : ∀ i, i ≤ 9 → i * 8 ^ n ≤ 9 * 262144 := fun i hi => Nat.mul_le_mul hi (pow8 (by omega))
      have lw := lens xs.length (Nat.le_refl _)
      rw [List.take_length] at lw
      refine ⟨?_, fun d hd st => ?_⟩
      · rw [plc_node hw]
        have : xs.length * 8 ^ n ≤ 8 * 8 ^ n := Nat.mul_le_mul_right _ hl
        rw [Nat.pow_succ]; omega
      obtain ⟨d, rfl⟩ : ∃ k, d = k + 1 := ⟨d - 1, by omega⟩
      have q : eqD (.str w) (.str "at") st = .ok (.bl false) st := eqS_f hw
      obtain ⟨e', S, hf, z, he, hS, hp⟩ := forL_inv (c := []) (gf := nameG 2) (b := l0_places_in (f_places_in d)) (ds := xs) (env := [some (.tup (.str w :: xs)), some (.ref st.length), none]) (st := st ++ [.lst []])
        (fun i env S => ∃ z, env = [some (.tup (.str w :: xs)), some (.ref st.length), z] ∧ Le st S ∧ S[st.length]? = some (.lst ((plcs (xs.take i)).map .int)))
        ⟨none, rfl, Le.app _ _, get_last⟩ (fun _ _ _ _ => ChkOk.nil) fun i x env S hi ⟨z, he, hS, hp⟩ => by
          subst he
          have hil := (List.getElem?_eq_some_iff.mp hi).1
          have hxm := List.mem_of_getElem? hi
          rw [take_more hi, plcs_app, plcs_one]
          rcases hx x hxm with ⟨k, rfl⟩ | hE
          · have t := isT_piece (x := .int k) (st := S) (.inl ⟨k, rfl⟩)
            exact ⟨_, _, [some (.tup (.str w :: xs)), some (.ref st.length), some (.int k)], S, rfl, by simp -implicitDefEqProofs only [varF_ap, cF_ap, opF_ap, opK_ap, bF_ap, boolK_ap, andT_ap, andK_ap, orT_ap, orK_ap, notT_ap, notK_ap, yesT_ap, andV_ap, andVK_ap, orV_ap, orVK_ap, notV_ap, notVK_ap, ifF_ap, ifFK_ap, nilA_ap, consA_ap, consK_ap, consJ_ap, tupA_ap, tupK_ap, lstA_ap, lstK_ap, newO_ap, dicF_ap, callF_ap, un1_ap, methF_ap, methK_ap, nonO_ap, someO_ap, someK_ap, slF_ap, slK_ap, slJ_ap, itF_ap, itA_ap, nilS_ap, bkS_ap, ctS_ap, seqS_ap, seqK_nx, seqK_rt, seqK_bk, seqK_ct, dropS_ap, dropK_ap, retS_ap, retK_ap, retN_ap, ifS_ap, ifK_ap, setS_ap, setK_ap, asgS_ap, asgK_ap, asgJ_ap, nameG_ap, nilG_ap, consG_ap, consGK_ap, tupG_ap, fnF_ap, fnK_nx, fnK_rt, forS_ap, forK_ap, intD_ap, negD_ap, addI_ap, varK_ap, startE, yes2, isN, List.map_cons, List.map_nil, List.length_cons, List.length_nil, List.replicate, List.append_nil, List.cons_append, List.nil_append, List.getElem?_cons_zero, List.getElem?_cons_succ, List.set_cons_zero, List.set_cons_succ, R.bind_ok, R.bind_ex, R.bind_bad, R.noex_ok, if_true, if_false, Bool.false_eq_true, Bool.true_eq_false, ite_true, ite_false, reduceIte, Nat.reduceAdd, Nat.reduceSub, Nat.zero_add, Nat.sub_self, Nat.sub_zero, decide_true, decide_false, Bool.not_true, Bool.not_false, l0_places_in, t, isTp], some (.int k), rfl, hS, by show S[st.length]? = some (.lst ((plcs (xs.take i) ++ []).map .int)); rw [List.append_nil]; exact hp⟩
          · obtain ⟨ys, rfl⟩ := hE.tup
            have t := isT_piece (x := .tup ys) (st := S) (.inr ⟨ys, rfl⟩)
            obtain ⟨lp, pl⟩ := places_ok n _ (by omega) hE
            obtain ⟨r, S2, h1, h2, h3, h4⟩ := pl d (by omega) S
            have hp2 := h2.get hp
            have ex := extD_ok hp2 h4 (by
              rw [List.length_map, List.length_map, sizeLine_eq']
              have l1 := lens i (by omega)
              have l2 := big i (by omega)
              have l3 := big 1 (by omega)
              omega)
            have ty : tyD "list" (VL.D.ref st.length) S := tyD_list (by unfold listAt; rw [hp])
            have hl2 : st.length < S2.length := (List.getElem?_eq_some_iff.mp hp2).1
            refine ⟨_, _, [some (.tup (.str w :: xs)), some (.ref st.length), some (.tup ys)], S2.set st.length (.lst ((plcs (xs.take i)).map .int ++ (plc (.tup ys)).map .int)), rfl, by simp -implicitDefEqProofs +decide only [varF_ap, cF_ap, opF_ap, opK_ap, bF_ap, boolK_ap, andT_ap, andK_ap, orT_ap, orK_ap, notT_ap, notK_ap, yesT_ap, andV_ap, andVK_ap, orV_ap, orVK_ap, notV_ap, notVK_ap, ifF_ap, ifFK_ap, nilA_ap, consA_ap, consK_ap, consJ_ap, tupA_ap, lstA_ap, newO_ap, dicF_ap, callF_ap, un1_ap, methF_ap, nonO_ap, someO_ap, someK_ap, slF_ap, slK_ap, slJ_ap, itF_ap, itA_ap, nilS_ap, bkS_ap, ctS_ap, seqS_ap, seqK_nx, seqK_rt, seqK_bk, seqK_ct, dropS_ap, dropK_ap, retS_ap, retK_ap, retN_ap, ifS_ap, ifK_ap, setS_ap, setK_ap, asgS_ap, asgK_ap, asgJ_ap, nameG_ap, nilG_ap, consG_ap, consGK_ap, fnF_ap, fnK_nx, fnK_rt, forS_ap, forK_ap, negD_ap, addI_ap, varK_ap, startE, yes2, isN, List.map_cons, List.map_nil, List.length_cons, List.length_nil, List.replicate, List.append_nil, List.cons_append, List.nil_append, List.getElem?_cons_zero, List.getElem?_cons_succ, List.set_cons_zero, List.set_cons_succ, R.bind_ok, R.bind_ex, R.bind_bad, R.noex_ok, if_true, if_false, Bool.false_eq_true, Bool.true_eq_false, ite_true, ite_false, reduceIte, Nat.reduceAdd, Nat.reduceSub, Nat.zero_add, Nat.sub_self, Nat.sub_zero, decide_true, decide_false, Bool.not_true, Bool.not_false, subD_ap, ltD_ap, leD_ap, gtD_ap, geD_ap, mulD_ap, modD_ap, divD_ap, powD_ap, tupK_ok, lstK_ok, methK_ok, tupG_ok, eqS_t, eqS_f, neS_t, neS_f, eqI_ap, neI_ap, inT_nil, inT_hit, inT_miss, ne_eq, not_false_eq_true, l0_places_in, t, isTp, ty, h1, ex], some (.tup ys), rfl, (hS.trans h2).set (Nat.le_refl _), ?_⟩
            rw [List.getElem?_set_self hl2, List.map_append]
      rw [List.take_length] at hp
      refine ⟨st.length, S, ?_, hS, Nat.le_refl _, by rw [plc_node hw]; exact hp⟩
      have f : forL [] (nameG 2) (l0_places_in (f_places_in d)) xs [some (.tup (.str w :: xs)), some (.ref st.length), none] (st ++ [.lst []]) = _ := hf
      subst he
      simp -implicitDefEqProofs +decide only [varF_ap, cF_ap, opF_ap, opK_ap, bF_ap, boolK_ap, andT_ap, andK_ap, orT_ap, orK_ap, notT_ap, notK_ap, yesT_ap, andV_ap, andVK_ap, orV_ap, orVK_ap, notV_ap, notVK_ap, ifF_ap, ifFK_ap, nilA_ap, consA_ap, consK_ap, consJ_ap, tupA_ap, lstA_ap, newO_ap, dicF_ap, callF_ap, un1_ap, methF_ap, nonO_ap, someO_ap, someK_ap, slF_ap, slK_ap, slJ_ap, itF_ap, itA_ap, nilS_ap, bkS_ap, ctS_ap, seqS_ap, seqK_nx, seqK_rt, seqK_bk, seqK_ct, dropS_ap, dropK_ap, retS_ap, retK_ap, retN_ap, ifS_ap, ifK_ap, setS_ap, setK_ap, asgS_ap, asgK_ap, asgJ_ap, nameG_ap, nilG_ap, consG_ap, consGK_ap, fnF_ap, fnK_nx, fnK_rt, forS_ap, forK_ap, negD_ap, addI_ap, varK_ap, startE, yes2, isN, List.map_cons, List.map_nil, List.length_cons, List.length_nil, List.replicate, List.append_nil, List.cons_append, List.nil_append, List.getElem?_cons_zero, List.getElem?_cons_succ, List.set_cons_zero, List.set_cons_succ, R.bind_ok, R.bind_ex, R.bind_bad, R.noex_ok, if_true, if_false, Bool.false_eq_true, Bool.true_eq_false, ite_true, ite_false, reduceIte, Nat.reduceAdd, Nat.reduceSub, Nat.zero_add, Nat.sub_self, Nat.sub_zero, decide_true, decide_false, Bool.not_true, Bool.not_false, subD_ap, ltD_ap, leD_ap, gtD_ap, geD_ap, mulD_ap, modD_ap, divD_ap, powD_ap, tupK_ok, lstK_ok, methK_ok, tupG_ok, eqS_t, eqS_f, neS_t, neS_f, eqI_ap, neI_ap, inT_nil, inT_hit, inT_miss, ne_eq, not_false_eq_true, f_places_in, b_places_in, jx0, q, sz (by decide : 0 ≤ 100), slTail, itD_tup, f]
end Law

namespace Law
open PySem L2 VL
/-! views looked through, with what is refused -/
def clsN (q : Int) : Str := if q = 1 then "NoName" else if q = 2 then "NoPlace" else if q = 3 then "Unlike" else if q = 4 then "Wide" else "Twice"
def outD (q w : Int) (S : Sto) : R VL.D := if q = 0 then .ok (.int w) S else .ex (clsN q) S
theorem out0 {w : Int} {S : Sto} : outD 0 w S = .ok (.int w) S := rfl
theorem outN {q w : Int} {S : Sto} (h : q ≠ 0) : outD q w S = .ex (clsN q) S := if_neg h
def fd : List Int → Int
  | [] => 0
  | x :: r => if x > 0 then x else fd r
theorem fd_pos {x : Int} {r : List Int} (h : 0 < x) : fd (x :: r) = x := if_pos h
theorem fd_0 {r : List Int} : fd (0 :: r) = fd r := rfl
theorem fd_nil : fd [] = 0 := rfl
def bey (ps : List Int) (w : Int) : Int := if (ps.any fun p => decide (p ≥ w)) = true then 2 else 0
theorem exS_ap {c : Str} {env : EnvD} {st : Sto} : exS c env st = .ex c st := rfl
def callNK (fn : Fn) (ds : List VL.D) (s : Sto) : R VL.D := (fn ds s).noex
theorem callN_ap {fn : Fn} {fa : AF} {env : EnvD} {st : Sto} : callN fn fa env st = (fa env st).bind (callNK fn) := rfl
theorem callNK_ap {fn : Fn} {ds : List VL.D} {s : Sto} : callNK fn ds s = (fn ds s).noex := rfl
def LookR (P : List (VL.D × VL.D) → Prop) (v : VL.D) (w q : Int) (dp : Nat) : Prop := ∀ d, 2 * dp + 1 ≤ d → ∀ (W : List (VL.D × VL.D)) (m : Nat) (st : Sto), st[m]? = some (.dic W) → keysOk W = true → W.length + dp ≤ 1000 → P W → ∃ S, f_look d [v, .ref m] st = outD q w S ∧ Le st S
theorem LookR.mono {P Q : List (VL.D × VL.D) → Prop} {v : VL.D} {w q : Int} {dp : Nat} (h : LookR P v w q dp) (k : ∀ W, keysOk W = true → Q W → P W) : LookR Q v w q dp := fun d hd W m st hm hk hl p => h d hd W m st hm hk hl (k W hk p)
theorem LookR.up {P : List (VL.D × VL.D) → Prop} {v : VL.D} {w q : Int} {dp dp' : Nat} (h : LookR P v w q dp) (k : dp ≤ dp') : LookR P v w q dp' := fun d hd W m st hm hk hl p => h d (by omega) W m st hm hk (by omega) p
theorem LookR.any {P : List (VL.D × VL.D) → Prop} {v : VL.D} {w w' q : Int} {dp : Nat} (h : LookR P v w q dp) (k : q = 0 → w = w') : LookR P v w' q dp := fun d hd W m st hm hk hl p => by
  obtain ⟨S, h1, h2⟩ := h d hd W m st hm hk hl p
  refine ⟨S, ?_, h2⟩
  rw [h1]
  by_cases h0 : q = 0
  · rw [k h0]
  · rw [outN h0, outN h0]
theorem nb_loop {r : Nat} {w : Int} {st : Sto} {c : Chk} (hc : ChkOk c st) : ∀ (ps : List Int) (z : Option VL.D), ∃ z', forL c (nameG 2) l0_not_beyond (ps.map .int) [some (.ref r), some (.int w), z] st = if (ps.any fun p => decide (p ≥ w)) = true then .ex "NoPlace" st else .ok (.nx [some (.ref r), some (.int w), z']) st
  | [], z => ⟨z, by rw [List.map_nil, forL_nil hc]; rfl⟩
  | p :: ps, z => by
    by_cases h : p ≥ w
    · have d : decide (p ≥ w) = true := decide_eq_true h
      have hb : l0_not_beyond [some (.ref r), some (.int w), some (.int p)] st = .ex "NoPlace" st := by simp -implicitDefEqProofs +decide only [varF_ap, cF_ap, opF_ap, opK_ap, bF_ap, boolK_ap, andT_ap, andK_ap, orT_ap, orK_ap, notT_ap, notK_ap, yesT_ap, andV_ap, andVK_ap, orV_ap, orVK_ap, notV_ap, notVK_ap, ifF_ap, ifFK_ap, nilA_ap, consA_ap, consK_ap, consJ_ap, tupA_ap, lstA_ap, newO_ap, dicF_ap, callF_ap, un1_ap, methF_ap, nonO_ap, someO_ap, someK_ap, slF_ap, slK_ap, slJ_ap, itF_ap, itA_ap, nilS_ap, bkS_ap, ctS_ap, seqS_ap, seqK_nx, seqK_rt, seqK_bk, seqK_ct, dropS_ap, dropK_ap, retS_ap, retK_ap, retN_ap, ifS_ap, ifK_ap, setS_ap, setK_ap, asgS_ap, asgK_ap, asgJ_ap, nameG_ap, nilG_ap, consG_ap, consGK_ap, fnF_ap, fnK_nx, fnK_rt, forS_ap, forK_ap, negD_ap, addI_ap, varK_ap, startE, yes2, isN, List.map_cons, List.map_nil, List.length_cons, List.length_nil, List.replicate, List.append_nil, List.cons_append, List.nil_append, List.getElem?_cons_zero, List.getElem?_cons_succ, List.set_cons_zero, List.set_cons_succ, R.bind_ok, R.bind_ex, R.bind_bad, R.noex_ok, if_true, if_false, Bool.false_eq_true, Bool.true_eq_false, ite_true, ite_false, reduceIte, Nat.reduceAdd, Nat.reduceSub, Nat.zero_add, Nat.sub_self, Nat.sub_zero, decide_true, decide_false, Bool.not_true, Bool.not_false, subD_ap, ltD_ap, leD_ap, gtD_ap, geD_ap, mulD_ap, modD_ap, divD_ap, powD_ap, tupK_ok, lstK_ok, methK_ok, tupG_ok, eqS_t, eqS_f, neS_t, neS_f, eqI_ap, neI_ap, inT_nil, inT_hit, inT_miss, ne_eq, not_false_eq_true, l0_not_beyond, d, exS_ap]
      refine ⟨z, ?_⟩
      rw [List.map_cons, forL_cons hc, List.any_cons, d, Bool.true_or, if_pos rfl]
      show ((l0_not_beyond [some (.ref r), some (.int w), some (.int p)] st).bind _) = _
      rw [hb]; rfl
    · have d : decide (p ≥ w) = false := decide_eq_false h
      have hb : l0_not_beyond [some (.ref r), some (.int w), some (.int p)] st = .ok (.nx [some (.ref r), some (.int w), some (.int p)]) st := by simp -implicitDefEqProofs +decide only [varF_ap, cF_ap, opF_ap, opK_ap, bF_ap, boolK_ap, andT_ap, andK_ap, orT_ap, orK_ap, notT_ap, notK_ap, yesT_ap, andV_ap, andVK_ap, orV_ap, orVK_ap, notV_ap, notVK_ap, ifF_ap, ifFK_ap, nilA_ap, consA_ap, consK_ap, consJ_ap, tupA_ap, lstA_ap, newO_ap, dicF_ap, callF_ap, un1_ap, methF_ap, nonO_ap, someO_ap, someK_ap, slF_ap, slK_ap, slJ_ap, itF_ap, itA_ap, nilS_ap, bkS_ap, ctS_ap, seqS_ap, seqK_nx, seqK_rt, seqK_bk, seqK_ct, dropS_ap, dropK_ap, retS_ap, retK_ap, retN_ap, ifS_ap, ifK_ap, setS_ap, setK_ap, asgS_ap, asgK_ap, asgJ_ap, nameG_ap, nilG_ap, consG_ap, consGK_ap, fnF_ap, fnK_nx, fnK_rt, forS_ap, forK_ap, negD_ap, addI_ap, varK_ap, startE, yes2, isN, List.map_cons, List.map_nil, List.length_cons, List.length_nil, List.replicate, List.append_nil, List.cons_append, List.nil_append, List.getElem?_cons_zero, List.getElem?_cons_succ, List.set_cons_zero, List.set_cons_succ, R.bind_ok, R.bind_ex, R.bind_bad, R.noex_ok, if_true, if_false, Bool.false_eq_true, Bool.true_eq_false, ite_true, ite_false, reduceIte, Nat.reduceAdd, Nat.reduceSub, Nat.zero_add, Nat.sub_self, Nat.sub_zero, decide_true, decide_false, Bool.not_true, Bool.not_false, subD_ap, ltD_ap, leD_ap, gtD_ap, geD_ap, mulD_ap, modD_ap, divD_ap, powD_ap, tupK_ok, lstK_ok, methK_ok, tupG_ok, eqS_t, eqS_f, neS_t, neS_f, eqI_ap, neI_ap, inT_nil, inT_hit, inT_miss, ne_eq, not_false_eq_true, l0_not_beyond, d]
      obtain ⟨z', ih⟩ := nb_loop hc ps (some (.int p))
      refine ⟨z', ?_⟩
      rw [List.map_cons, forL_cons hc, List.any_cons, d, Bool.false_or, ← ih]
      show ((l0_not_beyond [some (.ref r), some (.int w), some (.int p)] st).bind _) = _
      rw [hb]; rfl
theorem nb_yes {r : Nat} {ps : List Int} {w : Int} {st : Sto} (h : st[r]? = some (.lst (ps.map .int))) (hb : (ps.any fun p => decide (p ≥ w)) = true) : f_not_beyond [.ref r, .int w] st = .ex "NoPlace" st := by
  obtain ⟨z', h1⟩ := nb_loop (r := r) (w := w) (st := st) (c := chkAt st r) (chk_at _ (Le.refl _)) ps none
  rw [if_pos hb] at h1
  have it : itD (.ref r) st = .ok (ps.map .int, chkAt st r) st := itD_list (listAt_lst h)
  simp -implicitDefEqProofs +decide only [varF_ap, cF_ap, opF_ap, opK_ap, bF_ap, boolK_ap, andT_ap, andK_ap, orT_ap, orK_ap, notT_ap, notK_ap, yesT_ap, andV_ap, andVK_ap, orV_ap, orVK_ap, notV_ap, notVK_ap, ifF_ap, ifFK_ap, nilA_ap, consA_ap, consK_ap, consJ_ap, tupA_ap, lstA_ap, newO_ap, dicF_ap, callF_ap, un1_ap, methF_ap, nonO_ap, someO_ap, someK_ap, slF_ap, slK_ap, slJ_ap, itF_ap, itA_ap, nilS_ap, bkS_ap, ctS_ap, seqS_ap, seqK_nx, seqK_rt, seqK_bk, seqK_ct, dropS_ap, dropK_ap, retS_ap, retK_ap, retN_ap, ifS_ap, ifK_ap, setS_ap, setK_ap, asgS_ap, asgK_ap, asgJ_ap, nameG_ap, nilG_ap, consG_ap, consGK_ap, fnF_ap, fnK_nx, fnK_rt, forS_ap, forK_ap, negD_ap, addI_ap, varK_ap, startE, yes2, isN, List.map_cons, List.map_nil, List.length_cons, List.length_nil, List.replicate, List.append_nil, List.cons_append, List.nil_append, List.getElem?_cons_zero, List.getElem?_cons_succ, List.set_cons_zero, List.set_cons_succ, R.bind_ok, R.bind_ex, R.bind_bad, R.noex_ok, if_true, if_false, Bool.false_eq_true, Bool.true_eq_false, ite_true, ite_false, reduceIte, Nat.reduceAdd, Nat.reduceSub, Nat.zero_add, Nat.sub_self, Nat.sub_zero, decide_true, decide_false, Bool.not_true, Bool.not_false, subD_ap, ltD_ap, leD_ap, gtD_ap, geD_ap, mulD_ap, modD_ap, divD_ap, powD_ap, tupK_ok, lstK_ok, methK_ok, tupG_ok, eqS_t, eqS_f, neS_t, neS_f, eqI_ap, neI_ap, inT_nil, inT_hit, inT_miss, ne_eq, not_false_eq_true, f_not_beyond, b_not_beyond, it, h1]
theorem nb_no {r : Nat} {ps : List Int} {w : Int} {st : Sto} (h : st[r]? = some (.lst (ps.map .int))) (hb : (ps.any fun p => decide (p ≥ w)) = false) : f_not_beyond [.ref r, .int w] st = .ok .non st := by
  obtain ⟨z', h1⟩ := nb_loop (r := r) (w := w) (st := st) (c := chkAt st r) (chk_at _ (Le.refl _)) ps none
  rw [hb, if_neg Bool.false_ne_true] at h1
  have it : itD (.ref r) st = .ok (ps.map .int, chkAt st r) st := itD_list (listAt_lst h)
  simp -implicitDefEqProofs +decide only [varF_ap, cF_ap, opF_ap, opK_ap, bF_ap, boolK_ap, andT_ap, andK_ap, orT_ap, orK_ap, notT_ap, notK_ap, yesT_ap, andV_ap, andVK_ap, orV_ap, orVK_ap, notV_ap, notVK_ap, ifF_ap, ifFK_ap, nilA_ap, consA_ap, consK_ap, consJ_ap, tupA_ap, lstA_ap, newO_ap, dicF_ap, callF_ap, un1_ap, methF_ap, nonO_ap, someO_ap, someK_ap, slF_ap, slK_ap, slJ_ap, itF_ap, itA_ap, nilS_ap, bkS_ap, ctS_ap, seqS_ap, seqK_nx, seqK_rt, seqK_bk, seqK_ct, dropS_ap, dropK_ap, retS_ap, retK_ap, retN_ap, ifS_ap, ifK_ap, setS_ap, setK_ap, asgS_ap, asgK_ap, asgJ_ap, nameG_ap, nilG_ap, consG_ap, consGK_ap, fnF_ap, fnK_nx, fnK_rt, forS_ap, forK_ap, negD_ap, addI_ap, varK_ap, startE, yes2, isN, List.map_cons, List.map_nil, List.length_cons, List.length_nil, List.replicate, List.append_nil, List.cons_append, List.nil_append, List.getElem?_cons_zero, List.getElem?_cons_succ, List.set_cons_zero, List.set_cons_succ, R.bind_ok, R.bind_ex, R.bind_bad, R.noex_ok, if_true, if_false, Bool.false_eq_true, Bool.true_eq_false, ite_true, ite_false, reduceIte, Nat.reduceAdd, Nat.reduceSub, Nat.zero_add, Nat.sub_self, Nat.sub_zero, decide_true, decide_false, Bool.not_true, Bool.not_false, subD_ap, ltD_ap, leD_ap, gtD_ap, geD_ap, mulD_ap, modD_ap, divD_ap, powD_ap, tupK_ok, lstK_ok, methK_ok, tupG_ok, eqS_t, eqS_f, neS_t, neS_f, eqI_ap, neI_ap, inT_nil, inT_hit, inT_miss, ne_eq, not_false_eq_true, f_not_beyond, b_not_beyond, it, h1]
theorem nw_yes {w : Int} {st : Sto} (h : w > 12) : f_not_wide [.int w] st = .ex "Wide" st := by
  have q : decide (w > 12) = true := decide_eq_true h
  simp -implicitDefEqProofs +decide only [varF_ap, cF_ap, opF_ap, opK_ap, bF_ap, boolK_ap, andT_ap, andK_ap, orT_ap, orK_ap, notT_ap, notK_ap, yesT_ap, andV_ap, andVK_ap, orV_ap, orVK_ap, notV_ap, notVK_ap, ifF_ap, ifFK_ap, nilA_ap, consA_ap, consK_ap, consJ_ap, tupA_ap, lstA_ap, newO_ap, dicF_ap, callF_ap, un1_ap, methF_ap, nonO_ap, someO_ap, someK_ap, slF_ap, slK_ap, slJ_ap, itF_ap, itA_ap, nilS_ap, bkS_ap, ctS_ap, seqS_ap, seqK_nx, seqK_rt, seqK_bk, seqK_ct, dropS_ap, dropK_ap, retS_ap, retK_ap, retN_ap, ifS_ap, ifK_ap, setS_ap, setK_ap, asgS_ap, asgK_ap, asgJ_ap, nameG_ap, nilG_ap, consG_ap, consGK_ap, fnF_ap, fnK_nx, fnK_rt, forS_ap, forK_ap, negD_ap, addI_ap, varK_ap, startE, yes2, isN, List.map_cons, List.map_nil, List.length_cons, List.length_nil, List.replicate, List.append_nil, List.cons_append, List.nil_append, List.getElem?_cons_zero, List.getElem?_cons_succ, List.set_cons_zero, List.set_cons_succ, R.bind_ok, R.bind_ex, R.bind_bad, R.noex_ok, if_true, if_false, Bool.false_eq_true, Bool.true_eq_false, ite_true, ite_false, reduceIte, Nat.reduceAdd, Nat.reduceSub, Nat.zero_add, Nat.sub_self, Nat.sub_zero, decide_true, decide_false, Bool.not_true, Bool.not_false, subD_ap, ltD_ap, leD_ap, gtD_ap, geD_ap, mulD_ap, modD_ap, divD_ap, powD_ap, tupK_ok, lstK_ok, methK_ok, tupG_ok, eqS_t, eqS_f, neS_t, neS_f, eqI_ap, neI_ap, inT_nil, inT_hit, inT_miss, ne_eq, not_false_eq_true, f_not_wide, b_not_wide, q, exS_ap]
theorem nw_no {w : Int} {st : Sto} (h : ¬ w > 12) : f_not_wide [.int w] st = .ok (.int w) st := by
  have q : decide (w > 12) = false := decide_eq_false h
  simp -implicitDefEqProofs +decide only [varF_ap, cF_ap, opF_ap, opK_ap, bF_ap, boolK_ap, andT_ap, andK_ap, orT_ap, orK_ap, notT_ap, notK_ap, yesT_ap, andV_ap, andVK_ap, orV_ap, orVK_ap, notV_ap, notVK_ap, ifF_ap, ifFK_ap, nilA_ap, consA_ap, consK_ap, consJ_ap, tupA_ap, lstA_ap, newO_ap, dicF_ap, callF_ap, un1_ap, methF_ap, nonO_ap, someO_ap, someK_ap, slF_ap, slK_ap, slJ_ap, itF_ap, itA_ap, nilS_ap, bkS_ap, ctS_ap, seqS_ap, seqK_nx, seqK_rt, seqK_bk, seqK_ct, dropS_ap, dropK_ap, retS_ap, retK_ap, retN_ap, ifS_ap, ifK_ap, setS_ap, setK_ap, asgS_ap, asgK_ap, asgJ_ap, nameG_ap, nilG_ap, consG_ap, consGK_ap, fnF_ap, fnK_nx, fnK_rt, forS_ap, forK_ap, negD_ap, addI_ap, varK_ap, startE, yes2, isN, List.map_cons, List.map_nil, List.length_cons, List.length_nil, List.replicate, List.append_nil, List.cons_append, List.nil_append, List.getElem?_cons_zero, List.getElem?_cons_succ, List.set_cons_zero, List.set_cons_succ, R.bind_ok, R.bind_ex, R.bind_bad, R.noex_ok, if_true, if_false, Bool.false_eq_true, Bool.true_eq_false, ite_true, ite_false, reduceIte, Nat.reduceAdd, Nat.reduceSub, Nat.zero_add, Nat.sub_self, Nat.sub_zero, decide_true, decide_false, Bool.not_true, Bool.not_false, subD_ap, ltD_ap, leD_ap, gtD_ap, geD_ap, mulD_ap, modD_ap, divD_ap, powD_ap, tupK_ok, lstK_ok, methK_ok, tupG_ok, eqS_t, eqS_f, neS_t, neS_f, eqI_ap, neI_ap, inT_nil, inT_hit, inT_miss, ne_eq, not_false_eq_true, f_not_wide, b_not_wide, q]
def wd (w : Int) : Int := if w > 12 then 4 else 0
def four : List Str := ["pour", "both", "either", "less"]
def tri : List Str := ["join", "left", "notin"]
def sums : List Str := ["sum", "least", "most"]
def prD (p : Int × Int) : VL.D := .tup [.int p.1, .int p.2]
def orD (p : Int × Bool) : VL.D := .tup [.int p.1, .bl p.2]
theorem two_same {w : Str} {a b : VL.D} {x y : Int} {st : Sto} (hw : w ∈ four) : f_look_two [.tup [.str w, a, b], .int x, .int y] st = outD (if x ≠ y then 3 else 0) x st := by
  by_cases h : x = y
  · have q : neD (.int x) (.int y) st = .ok (.bl false) st := by rw [neI_ap, decide_eq_true h]; rfl
    rw [if_neg (fun k => k h), out0]
    simp only [four, List.mem_cons, List.not_mem_nil, or_false] at hw
    rcases hw with rfl | rfl | rfl | rfl <;> simp -implicitDefEqProofs +decide only [varF_ap, cF_ap, opF_ap, opK_ap, bF_ap, boolK_ap, andT_ap, andK_ap, orT_ap, orK_ap, notT_ap, notK_ap, yesT_ap, andV_ap, andVK_ap, orV_ap, orVK_ap, notV_ap, notVK_ap, ifF_ap, ifFK_ap, nilA_ap, consA_ap, consK_ap, consJ_ap, tupA_ap, lstA_ap, newO_ap, dicF_ap, callF_ap, un1_ap, methF_ap, nonO_ap, someO_ap, someK_ap, slF_ap, slK_ap, slJ_ap, itF_ap, itA_ap, nilS_ap, bkS_ap, ctS_ap, seqS_ap, seqK_nx, seqK_rt, seqK_bk, seqK_ct, dropS_ap, dropK_ap, retS_ap, retK_ap, retN_ap, ifS_ap, ifK_ap, setS_ap, setK_ap, asgS_ap, asgK_ap, asgJ_ap, nameG_ap, nilG_ap, consG_ap, consGK_ap, fnF_ap, fnK_nx, fnK_rt, forS_ap, forK_ap, negD_ap, addI_ap, varK_ap, startE, yes2, isN, List.map_cons, List.map_nil, List.length_cons, List.length_nil, List.replicate, List.append_nil, List.cons_append, List.nil_append, List.getElem?_cons_zero, List.getElem?_cons_succ, List.set_cons_zero, List.set_cons_succ, R.bind_ok, R.bind_ex, R.bind_bad, R.noex_ok, if_true, if_false, Bool.false_eq_true, Bool.true_eq_false, ite_true, ite_false, reduceIte, Nat.reduceAdd, Nat.reduceSub, Nat.zero_add, Nat.sub_self, Nat.sub_zero, decide_true, decide_false, Bool.not_true, Bool.not_false, subD_ap, ltD_ap, leD_ap, gtD_ap, geD_ap, mulD_ap, modD_ap, divD_ap, powD_ap, tupK_ok, lstK_ok, methK_ok, tupG_ok, eqS_t, eqS_f, neS_t, neS_f, eqI_ap, neI_ap, inT_nil, inT_hit, inT_miss, ne_eq, not_false_eq_true, f_look_two, b_look_two, jx0, q, sz (by decide : 4 ≤ 100)]
  · have q : neD (.int x) (.int y) st = .ok (.bl true) st := by rw [neI_ap, decide_eq_false h]; rfl
    rw [if_pos h, outN (by decide)]
    simp only [four, List.mem_cons, List.not_mem_nil, or_false] at hw
    rcases hw with rfl | rfl | rfl | rfl <;> simp -implicitDefEqProofs +decide only [varF_ap, cF_ap, opF_ap, opK_ap, bF_ap, boolK_ap, andT_ap, andK_ap, orT_ap, orK_ap, notT_ap, notK_ap, yesT_ap, andV_ap, andVK_ap, orV_ap, orVK_ap, notV_ap, notVK_ap, ifF_ap, ifFK_ap, nilA_ap, consA_ap, consK_ap, consJ_ap, tupA_ap, lstA_ap, newO_ap, dicF_ap, callF_ap, un1_ap, methF_ap, nonO_ap, someO_ap, someK_ap, slF_ap, slK_ap, slJ_ap, itF_ap, itA_ap, nilS_ap, bkS_ap, ctS_ap, seqS_ap, seqK_nx, seqK_rt, seqK_bk, seqK_ct, dropS_ap, dropK_ap, retS_ap, retK_ap, retN_ap, ifS_ap, ifK_ap, setS_ap, setK_ap, asgS_ap, asgK_ap, asgJ_ap, nameG_ap, nilG_ap, consG_ap, consGK_ap, fnF_ap, fnK_nx, fnK_rt, forS_ap, forK_ap, negD_ap, addI_ap, varK_ap, startE, yes2, isN, List.map_cons, List.map_nil, List.length_cons, List.length_nil, List.replicate, List.append_nil, List.cons_append, List.nil_append, List.getElem?_cons_zero, List.getElem?_cons_succ, List.set_cons_zero, List.set_cons_succ, R.bind_ok, R.bind_ex, R.bind_bad, R.noex_ok, if_true, if_false, Bool.false_eq_true, Bool.true_eq_false, ite_true, ite_false, reduceIte, Nat.reduceAdd, Nat.reduceSub, Nat.zero_add, Nat.sub_self, Nat.sub_zero, decide_true, decide_false, Bool.not_true, Bool.not_false, subD_ap, ltD_ap, leD_ap, gtD_ap, geD_ap, mulD_ap, modD_ap, divD_ap, powD_ap, tupK_ok, lstK_ok, methK_ok, tupG_ok, eqS_t, eqS_f, neS_t, neS_f, eqI_ap, neI_ap, inT_nil, inT_hit, inT_miss, ne_eq, not_false_eq_true, f_look_two, b_look_two, jx0, q, exS_ap, sz (by decide : 4 ≤ 100)] <;> rfl
theorem two_pairs {w : Str} {a b : VL.D} {x y : Int} {ps : List (Int × Int)} {st : Sto} (hw : w ∈ tri) (hl : ps.length ≤ 100) :
    ∃ S, f_look_two [.tup [.str w, a, b, .tup (ps.map prD)], .int x, .int y] st = outD (fd [bey (ps.map (·.1)) x, bey (ps.map (·.2)) y, if w = "notin" then 0 else wd (x + y)]) (if w = "notin" then x else x + y) S ∧ Le st S := by
  obtain ⟨j, e1⟩ := lcF_all (st := st) (s := st) (c := []) (ds := ps.map prD) (it := itF (opF ixD (varF 0) (cF (.int 3)))) (vs := [4]) (gf := nameG 4) (te := opF ixD (varF 4) (cF (.int 0))) (env := [some (.tup [.str w, a, b, .tup (ps.map prD)]), some (.int x), some (.int y), some (.str w), none])
    (fun d => match d with | .tup [.int i, _] => .int i | _ => .non) (by simp -implicitDefEqProofs only [varF_ap, cF_ap, opF_ap, opK_ap, bF_ap, boolK_ap, andT_ap, andK_ap, orT_ap, orK_ap, notT_ap, notK_ap, yesT_ap, andV_ap, andVK_ap, orV_ap, orVK_ap, notV_ap, notVK_ap, ifF_ap, ifFK_ap, nilA_ap, consA_ap, consK_ap, consJ_ap, tupA_ap, tupK_ap, lstA_ap, lstK_ap, newO_ap, dicF_ap, callF_ap, un1_ap, methF_ap, methK_ap, nonO_ap, someO_ap, someK_ap, slF_ap, slK_ap, slJ_ap, itF_ap, itA_ap, nilS_ap, bkS_ap, ctS_ap, seqS_ap, seqK_nx, seqK_rt, seqK_bk, seqK_ct, dropS_ap, dropK_ap, retS_ap, retK_ap, retN_ap, ifS_ap, ifK_ap, setS_ap, setK_ap, asgS_ap, asgK_ap, asgJ_ap, nameG_ap, nilG_ap, consG_ap, consGK_ap, tupG_ap, fnF_ap, fnK_nx, fnK_rt, forS_ap, forK_ap, intD_ap, negD_ap, addI_ap, varK_ap, startE, yes2, isN, List.map_cons, List.map_nil, List.length_cons, List.length_nil, List.replicate, List.append_nil, List.cons_append, List.nil_append, List.getElem?_cons_zero, List.getElem?_cons_succ, List.set_cons_zero, List.set_cons_succ, R.bind_ok, R.bind_ex, R.bind_bad, R.noex_ok, if_true, if_false, Bool.false_eq_true, Bool.true_eq_false, ite_true, ite_false, reduceIte, Nat.reduceAdd, Nat.reduceSub, Nat.zero_add, Nat.sub_self, Nat.sub_zero, decide_true, decide_false, Bool.not_true, Bool.not_false, jx3, itD_tup]) chk_nil (by rw [List.length_map, sizeLine_eq']; omega) fun d hd S hS => by
      obtain ⟨p, hp, rfl⟩ := List.mem_map.mp hd
      exact ⟨_, [], rfl, by rw [List.append_nil]; simp -implicitDefEqProofs only [varF_ap, cF_ap, opF_ap, opK_ap, bF_ap, boolK_ap, andT_ap, andK_ap, orT_ap, orK_ap, notT_ap, notK_ap, yesT_ap, andV_ap, andVK_ap, orV_ap, orVK_ap, notV_ap, notVK_ap, ifF_ap, ifFK_ap, nilA_ap, consA_ap, consK_ap, consJ_ap, tupA_ap, tupK_ap, lstA_ap, lstK_ap, newO_ap, dicF_ap, callF_ap, un1_ap, methF_ap, methK_ap, nonO_ap, someO_ap, someK_ap, slF_ap, slK_ap, slJ_ap, itF_ap, itA_ap, nilS_ap, bkS_ap, ctS_ap, seqS_ap, seqK_nx, seqK_rt, seqK_bk, seqK_ct, dropS_ap, dropK_ap, retS_ap, retK_ap, retN_ap, ifS_ap, ifK_ap, setS_ap, setK_ap, asgS_ap, asgK_ap, asgJ_ap, nameG_ap, nilG_ap, consG_ap, consGK_ap, tupG_ap, fnF_ap, fnK_nx, fnK_rt, forS_ap, forK_ap, intD_ap, negD_ap, addI_ap, varK_ap, startE, yes2, isN, List.map_cons, List.map_nil, List.length_cons, List.length_nil, List.replicate, List.append_nil, List.cons_append, List.nil_append, List.getElem?_cons_zero, List.getElem?_cons_succ, List.set_cons_zero, List.set_cons_succ, R.bind_ok, R.bind_ex, R.bind_bad, R.noex_ok, if_true, if_false, Bool.false_eq_true, Bool.true_eq_false, ite_true, ite_false, reduceIte, Nat.reduceAdd, Nat.reduceSub, Nat.zero_add, Nat.sub_self, Nat.sub_zero, decide_true, decide_false, Bool.not_true, Bool.not_false, wipeE, prD, jx0]⟩
  have m1 : (ps.map prD).map (fun d => match d with | .tup [.int i, _] => VL.D.int i | _ => .non) = (ps.map (·.1)).map .int := by
    rw [List.map_map, List.map_map]; rfl
  rw [m1] at e1
  obtain ⟨S1, hS1⟩ : ∃ S, S = st ++ VL.O.lst ((ps.map (·.1)).map .int) :: j := ⟨_, rfl⟩
  rw [← hS1] at e1
  have g1 : S1[st.length]? = some (.lst ((ps.map (·.1)).map .int)) := hS1 ▸ get_at
  obtain ⟨j2, e2⟩ := lcF_all (st := S1) (s := S1) (c := []) (ds := ps.map prD) (it := itF (opF ixD (varF 0) (cF (.int 3)))) (vs := [4]) (gf := nameG 4) (te := opF ixD (varF 4) (cF (.int 1))) (env := [some (.tup [.str w, a, b, .tup (ps.map prD)]), some (.int x), some (.int y), some (.str w), none])
    (fun d => match d with | .tup [_, .int i] => .int i | _ => .non) (by simp -implicitDefEqProofs only [varF_ap, cF_ap, opF_ap, opK_ap, bF_ap, boolK_ap, andT_ap, andK_ap, orT_ap, orK_ap, notT_ap, notK_ap, yesT_ap, andV_ap, andVK_ap, orV_ap, orVK_ap, notV_ap, notVK_ap, ifF_ap, ifFK_ap, nilA_ap, consA_ap, consK_ap, consJ_ap, tupA_ap, tupK_ap, lstA_ap, lstK_ap, newO_ap, dicF_ap, callF_ap, un1_ap, methF_ap, methK_ap, nonO_ap, someO_ap, someK_ap, slF_ap, slK_ap, slJ_ap, itF_ap, itA_ap, nilS_ap, bkS_ap, ctS_ap, seqS_ap, seqK_nx, seqK_rt, seqK_bk, seqK_ct, dropS_ap, dropK_ap, retS_ap, retK_ap, retN_ap, ifS_ap, ifK_ap, setS_ap, setK_ap, asgS_ap, asgK_ap, asgJ_ap, nameG_ap, nilG_ap, consG_ap, consGK_ap, tupG_ap, fnF_ap, fnK_nx, fnK_rt, forS_ap, forK_ap, intD_ap, negD_ap, addI_ap, varK_ap, startE, yes2, isN, List.map_cons, List.map_nil, List.length_cons, List.length_nil, List.replicate, List.append_nil, List.cons_append, List.nil_append, List.getElem?_cons_zero, List.getElem?_cons_succ, List.set_cons_zero, List.set_cons_succ, R.bind_ok, R.bind_ex, R.bind_bad, R.noex_ok, if_true, if_false, Bool.false_eq_true, Bool.true_eq_false, ite_true, ite_false, reduceIte, Nat.reduceAdd, Nat.reduceSub, Nat.zero_add, Nat.sub_self, Nat.sub_zero, decide_true, decide_false, Bool.not_true, Bool.not_false, jx3, itD_tup]) chk_nil (by rw [List.length_map, sizeLine_eq']; omega) fun d hd S hS => by
      obtain ⟨p, hp, rfl⟩ := List.mem_map.mp hd
      exact ⟨_, [], rfl, by rw [List.append_nil]; simp -implicitDefEqProofs only [varF_ap, cF_ap, opF_ap, opK_ap, bF_ap, boolK_ap, andT_ap, andK_ap, orT_ap, orK_ap, notT_ap, notK_ap, yesT_ap, andV_ap, andVK_ap, orV_ap, orVK_ap, notV_ap, notVK_ap, ifF_ap, ifFK_ap, nilA_ap, consA_ap, consK_ap, consJ_ap, tupA_ap, tupK_ap, lstA_ap, lstK_ap, newO_ap, dicF_ap, callF_ap, un1_ap, methF_ap, methK_ap, nonO_ap, someO_ap, someK_ap, slF_ap, slK_ap, slJ_ap, itF_ap, itA_ap, nilS_ap, bkS_ap, ctS_ap, seqS_ap, seqK_nx, seqK_rt, seqK_bk, seqK_ct, dropS_ap, dropK_ap, retS_ap, retK_ap, retN_ap, ifS_ap, ifK_ap, setS_ap, setK_ap, asgS_ap, asgK_ap, asgJ_ap, nameG_ap, nilG_ap, consG_ap, consGK_ap, tupG_ap, fnF_ap, fnK_nx, fnK_rt, forS_ap, forK_ap, intD_ap, negD_ap, addI_ap, varK_ap, startE, yes2, isN, List.map_cons, List.map_nil, List.length_cons, List.length_nil, List.replicate, List.append_nil, List.cons_append, List.nil_append, List.getElem?_cons_zero, List.getElem?_cons_succ, List.set_cons_zero, List.set_cons_succ, R.bind_ok, R.bind_ex, R.bind_bad, R.noex_ok, if_true, if_false, Bool.false_eq_true, Bool.true_eq_false, ite_true, ite_false, reduceIte, Nat.reduceAdd, Nat.reduceSub, Nat.zero_add, Nat.sub_self, Nat.sub_zero, decide_true, decide_false, Bool.not_true, Bool.not_false, wipeE, prD, jx1]⟩
  have m2 : (ps.map prD).map (fun d => match d with | .tup [_, .int i] => VL.D.int i | _ => .non) = (ps.map (·.2)).map .int := by
    rw [List.map_map, List.map_map]; rfl
  rw [m2] at e2
  obtain ⟨S2, hS2⟩ : ∃ S, S = S1 ++ VL.O.lst ((ps.map (·.2)).map .int) :: j2 := ⟨_, rfl⟩
  rw [← hS2] at e2
  have g2 : S2[S1.length]? = some (.lst ((ps.map (·.2)).map .int)) := hS2 ▸ get_at
  have q0 : q0_look_two [some (.tup [.str w, a, b, .tup (ps.map prD)]), some (.int x), some (.int y), some (.str w), none] st = _ := e1
  have q1 : q1_look_two [some (.tup [.str w, a, b, .tup (ps.map prD)]), some (.int x), some (.int y), some (.str w), none] S1 = _ := e2
  have l1 : Le st S1 := hS1 ▸ Le.app _ _
  have l2 : Le S1 S2 := hS2 ▸ Le.app _ _
  cases h1 : (ps.map (·.1)).any fun p => decide (p ≥ x) with
  | true =>
    have nb := nb_yes g1 h1
    have bv : bey (ps.map (·.1)) x = 2 := if_pos h1
    refine ⟨S1, ?_, l1⟩
    rw [bv, fd_pos (by decide), outN (by decide)]
    simp only [tri, List.mem_cons, List.not_mem_nil, or_false] at hw
    rcases hw with rfl | rfl | rfl <;> simp -implicitDefEqProofs +decide only [varF_ap, cF_ap, opF_ap, opK_ap, bF_ap, boolK_ap, andT_ap, andK_ap, orT_ap, orK_ap, notT_ap, notK_ap, yesT_ap, andV_ap, andVK_ap, orV_ap, orVK_ap, notV_ap, notVK_ap, ifF_ap, ifFK_ap, nilA_ap, consA_ap, consK_ap, consJ_ap, tupA_ap, lstA_ap, newO_ap, dicF_ap, callF_ap, un1_ap, methF_ap, nonO_ap, someO_ap, someK_ap, slF_ap, slK_ap, slJ_ap, itF_ap, itA_ap, nilS_ap, bkS_ap, ctS_ap, seqS_ap, seqK_nx, seqK_rt, seqK_bk, seqK_ct, dropS_ap, dropK_ap, retS_ap, retK_ap, retN_ap, ifS_ap, ifK_ap, setS_ap, setK_ap, asgS_ap, asgK_ap, asgJ_ap, nameG_ap, nilG_ap, consG_ap, consGK_ap, fnF_ap, fnK_nx, fnK_rt, forS_ap, forK_ap, negD_ap, addI_ap, varK_ap, startE, yes2, isN, List.map_cons, List.map_nil, List.length_cons, List.length_nil, List.replicate, List.append_nil, List.cons_append, List.nil_append, List.getElem?_cons_zero, List.getElem?_cons_succ, List.set_cons_zero, List.set_cons_succ, R.bind_ok, R.bind_ex, R.bind_bad, R.noex_ok, if_true, if_false, Bool.false_eq_true, Bool.true_eq_false, ite_true, ite_false, reduceIte, Nat.reduceAdd, Nat.reduceSub, Nat.zero_add, Nat.sub_self, Nat.sub_zero, decide_true, decide_false, Bool.not_true, Bool.not_false, subD_ap, ltD_ap, leD_ap, gtD_ap, geD_ap, mulD_ap, modD_ap, divD_ap, powD_ap, tupK_ok, lstK_ok, methK_ok, tupG_ok, eqS_t, eqS_f, neS_t, neS_f, eqI_ap, neI_ap, inT_nil, inT_hit, inT_miss, ne_eq, not_false_eq_true, f_look_two, b_look_two, jx0, q0, nb, sz (by decide : 4 ≤ 100)] <;> rfl
  | false =>
    have nb := nb_no g1 h1
    have bv : bey (ps.map (·.1)) x = 0 := if_neg (by rw [h1]; exact Bool.false_ne_true)
    rw [bv, fd_0]
    cases h2 : (ps.map (·.2)).any fun p => decide (p ≥ y) with
    | true =>
      have nb2 := nb_yes g2 h2
      have bv2 : bey (ps.map (·.2)) y = 2 := if_pos h2
      refine ⟨S2, ?_, l1.trans l2⟩
      rw [bv2, fd_pos (by decide), outN (by decide)]
      simp only [tri, List.mem_cons, List.not_mem_nil, or_false] at hw
      rcases hw with rfl | rfl | rfl <;> simp -implicitDefEqProofs +decide only [varF_ap, cF_ap, opF_ap, opK_ap, bF_ap, boolK_ap, andT_ap, andK_ap, orT_ap, orK_ap, notT_ap, notK_ap, yesT_ap, andV_ap, andVK_ap, orV_ap, orVK_ap, notV_ap, notVK_ap, ifF_ap, ifFK_ap, nilA_ap, consA_ap, consK_ap, consJ_ap, tupA_ap, lstA_ap, newO_ap, dicF_ap, callF_ap, un1_ap, methF_ap, nonO_ap, someO_ap, someK_ap, slF_ap, slK_ap, slJ_ap, itF_ap, itA_ap, nilS_ap, bkS_ap, ctS_ap, seqS_ap, seqK_nx, seqK_rt, seqK_bk, seqK_ct, dropS_ap, dropK_ap, retS_ap, retK_ap, retN_ap, ifS_ap, ifK_ap, setS_ap, setK_ap, asgS_ap, asgK_ap, asgJ_ap, nameG_ap, nilG_ap, consG_ap, consGK_ap, fnF_ap, fnK_nx, fnK_rt, forS_ap, forK_ap, negD_ap, addI_ap, varK_ap, startE, yes2, isN, List.map_cons, List.map_nil, List.length_cons, List.length_nil, List.replicate, List.append_nil, List.cons_append, List.nil_append, List.getElem?_cons_zero, List.getElem?_cons_succ, List.set_cons_zero, List.set_cons_succ, R.bind_ok, R.bind_ex, R.bind_bad, R.noex_ok, if_true, if_false, Bool.false_eq_true, Bool.true_eq_false, ite_true, ite_false, reduceIte, Nat.reduceAdd, Nat.reduceSub, Nat.zero_add, Nat.sub_self, Nat.sub_zero, decide_true, decide_false, Bool.not_true, Bool.not_false, subD_ap, ltD_ap, leD_ap, gtD_ap, geD_ap, mulD_ap, modD_ap, divD_ap, powD_ap, tupK_ok, lstK_ok, methK_ok, tupG_ok, eqS_t, eqS_f, neS_t, neS_f, eqI_ap, neI_ap, inT_nil, inT_hit, inT_miss, ne_eq, not_false_eq_true, f_look_two, b_look_two, jx0, q0, q1, nb, nb2, sz (by decide : 4 ≤ 100)] <;> rfl
    | false =>
      have nb2 := nb_no g2 h2
      have bv2 : bey (ps.map (·.2)) y = 0 := if_neg (by rw [h2]; exact Bool.false_ne_true)
      rw [bv2, fd_0]
      refine ⟨S2, ?_, l1.trans l2⟩
      by_cases hn : w = "notin"
      · subst hn
        rw [if_pos rfl, if_pos rfl, fd_0, fd_nil, out0]
        simp -implicitDefEqProofs +decide only [varF_ap, cF_ap, opF_ap, opK_ap, bF_ap, boolK_ap, andT_ap, andK_ap, orT_ap, orK_ap, notT_ap, notK_ap, yesT_ap, andV_ap, andVK_ap, orV_ap, orVK_ap, notV_ap, notVK_ap, ifF_ap, ifFK_ap, nilA_ap, consA_ap, consK_ap, consJ_ap, tupA_ap, lstA_ap, newO_ap, dicF_ap, callF_ap, un1_ap, methF_ap, nonO_ap, someO_ap, someK_ap, slF_ap, slK_ap, slJ_ap, itF_ap, itA_ap, nilS_ap, bkS_ap, ctS_ap, seqS_ap, seqK_nx, seqK_rt, seqK_bk, seqK_ct, dropS_ap, dropK_ap, retS_ap, retK_ap, retN_ap, ifS_ap, ifK_ap, setS_ap, setK_ap, asgS_ap, asgK_ap, asgJ_ap, nameG_ap, nilG_ap, consG_ap, consGK_ap, fnF_ap, fnK_nx, fnK_rt, forS_ap, forK_ap, negD_ap, addI_ap, varK_ap, startE, yes2, isN, List.map_cons, List.map_nil, List.length_cons, List.length_nil, List.replicate, List.append_nil, List.cons_append, List.nil_append, List.getElem?_cons_zero, List.getElem?_cons_succ, List.set_cons_zero, List.set_cons_succ, R.bind_ok, R.bind_ex, R.bind_bad, R.noex_ok, if_true, if_false, Bool.false_eq_true, Bool.true_eq_false, ite_true, ite_false, reduceIte, Nat.reduceAdd, Nat.reduceSub, Nat.zero_add, Nat.sub_self, Nat.sub_zero, decide_true, decide_false, Bool.not_true, Bool.not_false, subD_ap, ltD_ap, leD_ap, gtD_ap, geD_ap, mulD_ap, modD_ap, divD_ap, powD_ap, tupK_ok, lstK_ok, methK_ok, tupG_ok, eqS_t, eqS_f, neS_t, neS_f, eqI_ap, neI_ap, inT_nil, inT_hit, inT_miss, ne_eq, not_false_eq_true, f_look_two, b_look_two, jx0, q0, q1, nb, nb2, sz (by decide : 4 ≤ 100)]
      · rw [if_neg hn, if_neg hn]
        have en : eqD (.str w) (.str "notin") S2 = .ok (.bl false) S2 := eqS_f hn
        by_cases h12 : x + y > 12
        · have nw := nw_yes (st := S2) h12
          have wv : wd (x + y) = 4 := if_pos h12
          rw [wv, fd_pos (by decide), outN (by decide)]
          simp only [tri, List.mem_cons, List.not_mem_nil, or_false] at hw
          rcases hw with rfl | rfl | rfl <;> first | exact absurd rfl hn | (simp -implicitDefEqProofs +decide only [varF_ap, cF_ap, opF_ap, opK_ap, bF_ap, boolK_ap, andT_ap, andK_ap, orT_ap, orK_ap, notT_ap, notK_ap, yesT_ap, andV_ap, andVK_ap, orV_ap, orVK_ap, notV_ap, notVK_ap, ifF_ap, ifFK_ap, nilA_ap, consA_ap, consK_ap, consJ_ap, tupA_ap, lstA_ap, newO_ap, dicF_ap, callF_ap, un1_ap, methF_ap, nonO_ap, someO_ap, someK_ap, slF_ap, slK_ap, slJ_ap, itF_ap, itA_ap, nilS_ap, bkS_ap, ctS_ap, seqS_ap, seqK_nx, seqK_rt, seqK_bk, seqK_ct, dropS_ap, dropK_ap, retS_ap, retK_ap, retN_ap, ifS_ap, ifK_ap, setS_ap, setK_ap, asgS_ap, asgK_ap, asgJ_ap, nameG_ap, nilG_ap, consG_ap, consGK_ap, fnF_ap, fnK_nx, fnK_rt, forS_ap, forK_ap, negD_ap, addI_ap, varK_ap, startE, yes2, isN, List.map_cons, List.map_nil, List.length_cons, List.length_nil, List.replicate, List.append_nil, List.cons_append, List.nil_append, List.getElem?_cons_zero, List.getElem?_cons_succ, List.set_cons_zero, List.set_cons_succ, R.bind_ok, R.bind_ex, R.bind_bad, R.noex_ok, if_true, if_false, Bool.false_eq_true, Bool.true_eq_false, ite_true, ite_false, reduceIte, Nat.reduceAdd, Nat.reduceSub, Nat.zero_add, Nat.sub_self, Nat.sub_zero, decide_true, decide_false, Bool.not_true, Bool.not_false, subD_ap, ltD_ap, leD_ap, gtD_ap, geD_ap, mulD_ap, modD_ap, divD_ap, powD_ap, tupK_ok, lstK_ok, methK_ok, tupG_ok, eqS_t, eqS_f, neS_t, neS_f, eqI_ap, neI_ap, inT_nil, inT_hit, inT_miss, ne_eq, not_false_eq_true, f_look_two, b_look_two, jx0, q0, q1, nb, nb2, nw, sz (by decide : 4 ≤ 100)]; rfl)
        · have nw := nw_no (st := S2) h12
          have wv : wd (x + y) = 0 := if_neg h12
          rw [wv, fd_0, fd_nil, out0]
          simp only [tri, List.mem_cons, List.not_mem_nil, or_false] at hw
          rcases hw with rfl | rfl | rfl <;> first | exact absurd rfl hn | simp -implicitDefEqProofs +decide only [varF_ap, cF_ap, opF_ap, opK_ap, bF_ap, boolK_ap, andT_ap, andK_ap, orT_ap, orK_ap, notT_ap, notK_ap, yesT_ap, andV_ap, andVK_ap, orV_ap, orVK_ap, notV_ap, notVK_ap, ifF_ap, ifFK_ap, nilA_ap, consA_ap, consK_ap, consJ_ap, tupA_ap, lstA_ap, newO_ap, dicF_ap, callF_ap, un1_ap, methF_ap, nonO_ap, someO_ap, someK_ap, slF_ap, slK_ap, slJ_ap, itF_ap, itA_ap, nilS_ap, bkS_ap, ctS_ap, seqS_ap, seqK_nx, seqK_rt, seqK_bk, seqK_ct, dropS_ap, dropK_ap, retS_ap, retK_ap, retN_ap, ifS_ap, ifK_ap, setS_ap, setK_ap, asgS_ap, asgK_ap, asgJ_ap, nameG_ap, nilG_ap, consG_ap, consGK_ap, fnF_ap, fnK_nx, fnK_rt, forS_ap, forK_ap, negD_ap, addI_ap, varK_ap, startE, yes2, isN, List.map_cons, List.map_nil, List.length_cons, List.length_nil, List.replicate, List.append_nil, List.cons_append, List.nil_append, List.getElem?_cons_zero, List.getElem?_cons_succ, List.set_cons_zero, List.set_cons_succ, R.bind_ok, R.bind_ex, R.bind_bad, R.noex_ok, if_true, if_false, Bool.false_eq_true, Bool.true_eq_false, ite_true, ite_false, reduceIte, Nat.reduceAdd, Nat.reduceSub, Nat.zero_add, Nat.sub_self, Nat.sub_zero, decide_true, decide_false, Bool.not_true, Bool.not_false, subD_ap, ltD_ap, leD_ap, gtD_ap, geD_ap, mulD_ap, modD_ap, divD_ap, powD_ap, tupK_ok, lstK_ok, methK_ok, tupG_ok, eqS_t, eqS_f, neS_t, neS_f, eqI_ap, neI_ap, inT_nil, inT_hit, inT_miss, ne_eq, not_false_eq_true, f_look_two, b_look_two, jx0, q0, q1, nb, nb2, nw, sz (by decide : 4 ≤ 100)]
section
variable {P : List (VL.D × VL.D) → Prop} {a b e : VL.D} {x y qa qb : Int} {da db : Nat} {w : Str}
theorem look_name {n : Str} : LookR (fun W => dget W (.str n) = some (.int x)) (.tup [.str "name", .str n]) x 0 0 := fun d hd W m st hm hk hl hP => by
  obtain ⟨d, rfl⟩ : ∃ k, d = k + 1 := ⟨d - 1, by omega⟩
  have g1 : dinD true (.str n) (.ref m) st = .ok (.bl false) st := by
    simp only [dinD, hm, hk, isKD, Bool.and_self, if_true, hP]; rfl
  have g2 : dixD (.ref m) (.str n) st = .ok (.int x) st := by
    simp only [dixD, hm, hk, isKD, Bool.and_self, if_true, hP]
  exact ⟨st, by rw [f_look_s, out0]; simp -implicitDefEqProofs +decide only [varF_ap, cF_ap, opF_ap, opK_ap, bF_ap, boolK_ap, andT_ap, andK_ap, orT_ap, orK_ap, notT_ap, notK_ap, yesT_ap, andV_ap, andVK_ap, orV_ap, orVK_ap, notV_ap, notVK_ap, ifF_ap, ifFK_ap, nilA_ap, consA_ap, consK_ap, consJ_ap, tupA_ap, lstA_ap, newO_ap, dicF_ap, callF_ap, un1_ap, methF_ap, nonO_ap, someO_ap, someK_ap, slF_ap, slK_ap, slJ_ap, itF_ap, itA_ap, nilS_ap, bkS_ap, ctS_ap, seqS_ap, seqK_nx, seqK_rt, seqK_bk, seqK_ct, dropS_ap, dropK_ap, retS_ap, retK_ap, retN_ap, ifS_ap, ifK_ap, setS_ap, setK_ap, asgS_ap, asgK_ap, asgJ_ap, nameG_ap, nilG_ap, consG_ap, consGK_ap, fnF_ap, fnK_nx, fnK_rt, forS_ap, forK_ap, negD_ap, addI_ap, varK_ap, startE, yes2, isN, List.map_cons, List.map_nil, List.length_cons, List.length_nil, List.replicate, List.append_nil, List.cons_append, List.nil_append, List.getElem?_cons_zero, List.getElem?_cons_succ, List.set_cons_zero, List.set_cons_succ, R.bind_ok, R.bind_ex, R.bind_bad, R.noex_ok, if_true, if_false, Bool.false_eq_true, Bool.true_eq_false, ite_true, ite_false, reduceIte, Nat.reduceAdd, Nat.reduceSub, Nat.zero_add, Nat.sub_self, Nat.sub_zero, decide_true, decide_false, Bool.not_true, Bool.not_false, subD_ap, ltD_ap, leD_ap, gtD_ap, geD_ap, mulD_ap, modD_ap, divD_ap, powD_ap, tupK_ok, lstK_ok, methK_ok, tupG_ok, eqS_t, eqS_f, neS_t, neS_f, eqI_ap, neI_ap, inT_nil, inT_hit, inT_miss, ne_eq, not_false_eq_true, b_look, jx0, jx1, g1, g2], Le.refl _⟩
theorem look_noname {n : Str} : LookR (fun W => dget W (.str n) = none) (.tup [.str "name", .str n]) x 1 0 := fun d hd W m st hm hk hl hP => by
  obtain ⟨d, rfl⟩ : ∃ k, d = k + 1 := ⟨d - 1, by omega⟩
  have g1 : dinD true (.str n) (.ref m) st = .ok (.bl true) st := by
    simp only [dinD, hm, hk, isKD, Bool.and_self, if_true, hP]; rfl
  exact ⟨st, by rw [f_look_s, outN (by decide)]; simp -implicitDefEqProofs +decide only [varF_ap, cF_ap, opF_ap, opK_ap, bF_ap, boolK_ap, andT_ap, andK_ap, orT_ap, orK_ap, notT_ap, notK_ap, yesT_ap, andV_ap, andVK_ap, orV_ap, orVK_ap, notV_ap, notVK_ap, ifF_ap, ifFK_ap, nilA_ap, consA_ap, consK_ap, consJ_ap, tupA_ap, lstA_ap, newO_ap, dicF_ap, callF_ap, un1_ap, methF_ap, nonO_ap, someO_ap, someK_ap, slF_ap, slK_ap, slJ_ap, itF_ap, itA_ap, nilS_ap, bkS_ap, ctS_ap, seqS_ap, seqK_nx, seqK_rt, seqK_bk, seqK_ct, dropS_ap, dropK_ap, retS_ap, retK_ap, retN_ap, ifS_ap, ifK_ap, setS_ap, setK_ap, asgS_ap, asgK_ap, asgJ_ap, nameG_ap, nilG_ap, consG_ap, consGK_ap, fnF_ap, fnK_nx, fnK_rt, forS_ap, forK_ap, negD_ap, addI_ap, varK_ap, startE, yes2, isN, List.map_cons, List.map_nil, List.length_cons, List.length_nil, List.replicate, List.append_nil, List.cons_append, List.nil_append, List.getElem?_cons_zero, List.getElem?_cons_succ, List.set_cons_zero, List.set_cons_succ, R.bind_ok, R.bind_ex, R.bind_bad, R.noex_ok, if_true, if_false, Bool.false_eq_true, Bool.true_eq_false, ite_true, ite_false, reduceIte, Nat.reduceAdd, Nat.reduceSub, Nat.zero_add, Nat.sub_self, Nat.sub_zero, decide_true, decide_false, Bool.not_true, Bool.not_false, subD_ap, ltD_ap, leD_ap, gtD_ap, geD_ap, mulD_ap, modD_ap, divD_ap, powD_ap, tupK_ok, lstK_ok, methK_ok, tupG_ok, eqS_t, eqS_f, neS_t, neS_f, eqI_ap, neI_ap, inT_nil, inT_hit, inT_miss, ne_eq, not_false_eq_true, b_look, jx0, jx1, g1, exS_ap]; rfl, Le.refl _⟩
theorem look_same (hw : w ∈ four) (hqa : 0 ≤ qa) (hqb : 0 ≤ qb) (ha : LookR P a x qa da) (hb : LookR P b y qb db) : LookR P (.tup [.str w, a, b]) x (fd [qa, qb, if x ≠ y then 3 else 0]) (1 + max da db) := fun d hd W m st hm hk hl hP => by
  obtain ⟨d, rfl⟩ : ∃ k, d = k + 1 := ⟨d - 1, by omega⟩
  obtain ⟨S1, h1, l1⟩ := ha d (by omega) W m st hm hk (by omega) hP
  by_cases z1 : qa = 0
  · subst z1
    rw [out0] at h1
    rw [fd_0]
    obtain ⟨S2, h2, l2⟩ := hb d (by omega) W m S1 (l1.get hm) hk (by omega) hP
    refine ⟨S2, ?_, l1.trans l2⟩
    by_cases z2 : qb = 0
    · subst z2
      rw [out0] at h2
      have t := two_same (w := w) (a := a) (b := b) (x := x) (y := y) (st := S2) hw
      rw [fd_0]
      by_cases hxy : x = y
      · rw [if_neg (fun k => k hxy), out0] at t
        rw [if_neg (fun k => k hxy), fd_0, fd_nil, out0, f_look_s]
        simp only [four, List.mem_cons, List.not_mem_nil, or_false] at hw
        rcases hw with rfl | rfl | rfl | rfl <;> simp -implicitDefEqProofs +decide only [varF_ap, cF_ap, opF_ap, opK_ap, bF_ap, boolK_ap, andT_ap, andK_ap, orT_ap, orK_ap, notT_ap, notK_ap, yesT_ap, andV_ap, andVK_ap, orV_ap, orVK_ap, notV_ap, notVK_ap, ifF_ap, ifFK_ap, nilA_ap, consA_ap, consK_ap, consJ_ap, tupA_ap, lstA_ap, newO_ap, dicF_ap, callF_ap, un1_ap, methF_ap, nonO_ap, someO_ap, someK_ap, slF_ap, slK_ap, slJ_ap, itF_ap, itA_ap, nilS_ap, bkS_ap, ctS_ap, seqS_ap, seqK_nx, seqK_rt, seqK_bk, seqK_ct, dropS_ap, dropK_ap, retS_ap, retK_ap, retN_ap, ifS_ap, ifK_ap, setS_ap, setK_ap, asgS_ap, asgK_ap, asgJ_ap, nameG_ap, nilG_ap, consG_ap, consGK_ap, fnF_ap, fnK_nx, fnK_rt, forS_ap, forK_ap, negD_ap, addI_ap, varK_ap, startE, yes2, isN, List.map_cons, List.map_nil, List.length_cons, List.length_nil, List.replicate, List.append_nil, List.cons_append, List.nil_append, List.getElem?_cons_zero, List.getElem?_cons_succ, List.set_cons_zero, List.set_cons_succ, R.bind_ok, R.bind_ex, R.bind_bad, R.noex_ok, if_true, if_false, Bool.false_eq_true, Bool.true_eq_false, ite_true, ite_false, reduceIte, Nat.reduceAdd, Nat.reduceSub, Nat.zero_add, Nat.sub_self, Nat.sub_zero, decide_true, decide_false, Bool.not_true, Bool.not_false, subD_ap, ltD_ap, leD_ap, gtD_ap, geD_ap, mulD_ap, modD_ap, divD_ap, powD_ap, tupK_ok, lstK_ok, methK_ok, tupG_ok, eqS_t, eqS_f, neS_t, neS_f, eqI_ap, neI_ap, inT_nil, inT_hit, inT_miss, ne_eq, not_false_eq_true, b_look, jx0, jx1, jx2, h1, h2, t, sz (by decide : 7 ≤ 100)]
      · rw [if_pos hxy, outN (by decide)] at t
        rw [if_pos hxy, fd_pos (by decide), outN (by decide), f_look_s]
        simp only [four, List.mem_cons, List.not_mem_nil, or_false] at hw
        rcases hw with rfl | rfl | rfl | rfl <;> simp -implicitDefEqProofs +decide only [varF_ap, cF_ap, opF_ap, opK_ap, bF_ap, boolK_ap, andT_ap, andK_ap, orT_ap, orK_ap, notT_ap, notK_ap, yesT_ap, andV_ap, andVK_ap, orV_ap, orVK_ap, notV_ap, notVK_ap, ifF_ap, ifFK_ap, nilA_ap, consA_ap, consK_ap, consJ_ap, tupA_ap, lstA_ap, newO_ap, dicF_ap, callF_ap, un1_ap, methF_ap, nonO_ap, someO_ap, someK_ap, slF_ap, slK_ap, slJ_ap, itF_ap, itA_ap, nilS_ap, bkS_ap, ctS_ap, seqS_ap, seqK_nx, seqK_rt, seqK_bk, seqK_ct, dropS_ap, dropK_ap, retS_ap, retK_ap, retN_ap, ifS_ap, ifK_ap, setS_ap, setK_ap, asgS_ap, asgK_ap, asgJ_ap, nameG_ap, nilG_ap, consG_ap, consGK_ap, fnF_ap, fnK_nx, fnK_rt, forS_ap, forK_ap, negD_ap, addI_ap, varK_ap, startE, yes2, isN, List.map_cons, List.map_nil, List.length_cons, List.length_nil, List.replicate, List.append_nil, List.cons_append, List.nil_append, List.getElem?_cons_zero, List.getElem?_cons_succ, List.set_cons_zero, List.set_cons_succ, R.bind_ok, R.bind_ex, R.bind_bad, R.noex_ok, if_true, if_false, Bool.false_eq_true, Bool.true_eq_false, ite_true, ite_false, reduceIte, Nat.reduceAdd, Nat.reduceSub, Nat.zero_add, Nat.sub_self, Nat.sub_zero, decide_true, decide_false, Bool.not_true, Bool.not_false, subD_ap, ltD_ap, leD_ap, gtD_ap, geD_ap, mulD_ap, modD_ap, divD_ap, powD_ap, tupK_ok, lstK_ok, methK_ok, tupG_ok, eqS_t, eqS_f, neS_t, neS_f, eqI_ap, neI_ap, inT_nil, inT_hit, inT_miss, ne_eq, not_false_eq_true, b_look, jx0, jx1, jx2, h1, h2, t, sz (by decide : 7 ≤ 100)]
    · rw [outN z2] at h2
      rw [fd_pos (by omega), outN z2, f_look_s]
      simp only [four, List.mem_cons, List.not_mem_nil, or_false] at hw
      rcases hw with rfl | rfl | rfl | rfl <;> simp -implicitDefEqProofs +decide only [varF_ap, cF_ap, opF_ap, opK_ap, bF_ap, boolK_ap, andT_ap, andK_ap, orT_ap, orK_ap, notT_ap, notK_ap, yesT_ap, andV_ap, andVK_ap, orV_ap, orVK_ap, notV_ap, notVK_ap, ifF_ap, ifFK_ap, nilA_ap, consA_ap, consK_ap, consJ_ap, tupA_ap, lstA_ap, newO_ap, dicF_ap, callF_ap, un1_ap, methF_ap, nonO_ap, someO_ap, someK_ap, slF_ap, slK_ap, slJ_ap, itF_ap, itA_ap, nilS_ap, bkS_ap, ctS_ap, seqS_ap, seqK_nx, seqK_rt, seqK_bk, seqK_ct, dropS_ap, dropK_ap, retS_ap, retK_ap, retN_ap, ifS_ap, ifK_ap, setS_ap, setK_ap, asgS_ap, asgK_ap, asgJ_ap, nameG_ap, nilG_ap, consG_ap, consGK_ap, fnF_ap, fnK_nx, fnK_rt, forS_ap, forK_ap, negD_ap, addI_ap, varK_ap, startE, yes2, isN, List.map_cons, List.map_nil, List.length_cons, List.length_nil, List.replicate, List.append_nil, List.cons_append, List.nil_append, List.getElem?_cons_zero, List.getElem?_cons_succ, List.set_cons_zero, List.set_cons_succ, R.bind_ok, R.bind_ex, R.bind_bad, R.noex_ok, if_true, if_false, Bool.false_eq_true, Bool.true_eq_false, ite_true, ite_false, reduceIte, Nat.reduceAdd, Nat.reduceSub, Nat.zero_add, Nat.sub_self, Nat.sub_zero, decide_true, decide_false, Bool.not_true, Bool.not_false, subD_ap, ltD_ap, leD_ap, gtD_ap, geD_ap, mulD_ap, modD_ap, divD_ap, powD_ap, tupK_ok, lstK_ok, methK_ok, tupG_ok, eqS_t, eqS_f, neS_t, neS_f, eqI_ap, neI_ap, inT_nil, inT_hit, inT_miss, ne_eq, not_false_eq_true, b_look, jx0, jx1, jx2, h1, h2, sz (by decide : 7 ≤ 100)]
  · rw [outN z1] at h1
    refine ⟨S1, ?_, l1⟩
    rw [fd_pos (by omega), outN z1, f_look_s]
    simp only [four, List.mem_cons, List.not_mem_nil, or_false] at hw
    rcases hw with rfl | rfl | rfl | rfl <;> simp -implicitDefEqProofs +decide only [varF_ap, cF_ap, opF_ap, opK_ap, bF_ap, boolK_ap, andT_ap, andK_ap, orT_ap, orK_ap, notT_ap, notK_ap, yesT_ap, andV_ap, andVK_ap, orV_ap, orVK_ap, notV_ap, notVK_ap, ifF_ap, ifFK_ap, nilA_ap, consA_ap, consK_ap, consJ_ap, tupA_ap, lstA_ap, newO_ap, dicF_ap, callF_ap, un1_ap, methF_ap, nonO_ap, someO_ap, someK_ap, slF_ap, slK_ap, slJ_ap, itF_ap, itA_ap, nilS_ap, bkS_ap, ctS_ap, seqS_ap, seqK_nx, seqK_rt, seqK_bk, seqK_ct, dropS_ap, dropK_ap, retS_ap, retK_ap, retN_ap, ifS_ap, ifK_ap, setS_ap, setK_ap, asgS_ap, asgK_ap, asgJ_ap, nameG_ap, nilG_ap, consG_ap, consGK_ap, fnF_ap, fnK_nx, fnK_rt, forS_ap, forK_ap, negD_ap, addI_ap, varK_ap, startE, yes2, isN, List.map_cons, List.map_nil, List.length_cons, List.length_nil, List.replicate, List.append_nil, List.cons_append, List.nil_append, List.getElem?_cons_zero, List.getElem?_cons_succ, List.set_cons_zero, List.set_cons_succ, R.bind_ok, R.bind_ex, R.bind_bad, R.noex_ok, if_true, if_false, Bool.false_eq_true, Bool.true_eq_false, ite_true, ite_false, reduceIte, Nat.reduceAdd, Nat.reduceSub, Nat.zero_add, Nat.sub_self, Nat.sub_zero, decide_true, decide_false, Bool.not_true, Bool.not_false, subD_ap, ltD_ap, leD_ap, gtD_ap, geD_ap, mulD_ap, modD_ap, divD_ap, powD_ap, tupK_ok, lstK_ok, methK_ok, tupG_ok, eqS_t, eqS_f, neS_t, neS_f, eqI_ap, neI_ap, inT_nil, inT_hit, inT_miss, ne_eq, not_false_eq_true, b_look, jx0, jx1, jx2, h1, sz (by decide : 7 ≤ 100)]
theorem look_pairs {ps : List (Int × Int)} (hw : w ∈ tri) (hqa : 0 ≤ qa) (hqb : 0 ≤ qb) (ha : LookR P a x qa da) (hb : LookR P b y qb db) (hl : ps.length ≤ 100) : LookR P (.tup [.str w, a, b, .tup (ps.map prD)]) (if w = "notin" then x else x + y) (fd [qa, qb, bey (ps.map (·.1)) x, bey (ps.map (·.2)) y, if w = "notin" then 0 else wd (x + y)]) (1 + max da db) := fun d hd W m st hm hk hl' hP => by
  obtain ⟨d, rfl⟩ : ∃ k, d = k + 1 := ⟨d - 1, by omega⟩
  obtain ⟨S1, h1, l1⟩ := ha d (by omega) W m st hm hk (by omega) hP
  by_cases z1 : qa = 0
  · subst z1
    rw [out0] at h1
    rw [fd_0]
    obtain ⟨S2, h2, l2⟩ := hb d (by omega) W m S1 (l1.get hm) hk (by omega) hP
    by_cases z2 : qb = 0
    · subst z2
      rw [out0] at h2
      rw [fd_0]
      obtain ⟨S3, t, l3⟩ := two_pairs (w := w) (a := a) (b := b) (x := x) (y := y) (st := S2) hw hl
      refine ⟨S3, ?_, (l1.trans l2).trans l3⟩
      rw [f_look_s]
      generalize fd [bey (ps.map (·.1)) x, bey (ps.map (·.2)) y, if w = "notin" then 0 else wd (x + y)] = q3 at t ⊢
      generalize (if w = "notin" then x else x + y) = wv at t ⊢
      unfold outD at t ⊢
      split at t
      · rename_i hc
        rw [if_pos hc]
        simp only [tri, List.mem_cons, List.not_mem_nil, or_false] at hw
        rcases hw with rfl | rfl | rfl <;> simp -implicitDefEqProofs +decide only [varF_ap, cF_ap, opF_ap, opK_ap, bF_ap, boolK_ap, andT_ap, andK_ap, orT_ap, orK_ap, notT_ap, notK_ap, yesT_ap, andV_ap, andVK_ap, orV_ap, orVK_ap, notV_ap, notVK_ap, ifF_ap, ifFK_ap, nilA_ap, consA_ap, consK_ap, consJ_ap, tupA_ap, lstA_ap, newO_ap, dicF_ap, callF_ap, un1_ap, methF_ap, nonO_ap, someO_ap, someK_ap, slF_ap, slK_ap, slJ_ap, itF_ap, itA_ap, nilS_ap, bkS_ap, ctS_ap, seqS_ap, seqK_nx, seqK_rt, seqK_bk, seqK_ct, dropS_ap, dropK_ap, retS_ap, retK_ap, retN_ap, ifS_ap, ifK_ap, setS_ap, setK_ap, asgS_ap, asgK_ap, asgJ_ap, nameG_ap, nilG_ap, consG_ap, consGK_ap, fnF_ap, fnK_nx, fnK_rt, forS_ap, forK_ap, negD_ap, addI_ap, varK_ap, startE, yes2, isN, List.map_cons, List.map_nil, List.length_cons, List.length_nil, List.replicate, List.append_nil, List.cons_append, List.nil_append, List.getElem?_cons_zero, List.getElem?_cons_succ, List.set_cons_zero, List.set_cons_succ, R.bind_ok, R.bind_ex, R.bind_bad, R.noex_ok, if_true, if_false, Bool.false_eq_true, Bool.true_eq_false, ite_true, ite_false, reduceIte, Nat.reduceAdd, Nat.reduceSub, Nat.zero_add, Nat.sub_self, Nat.sub_zero, decide_true, decide_false, Bool.not_true, Bool.not_false, subD_ap, ltD_ap, leD_ap, gtD_ap, geD_ap, mulD_ap, modD_ap, divD_ap, powD_ap, tupK_ok, lstK_ok, methK_ok, tupG_ok, eqS_t, eqS_f, neS_t, neS_f, eqI_ap, neI_ap, inT_nil, inT_hit, inT_miss, ne_eq, not_false_eq_true, b_look, jx0, jx1, jx2, h1, h2, t, sz (by decide : 7 ≤ 100)]
      · rename_i hc
        rw [if_neg hc]
        simp only [tri, List.mem_cons, List.not_mem_nil, or_false] at hw
        rcases hw with rfl | rfl | rfl <;> simp -implicitDefEqProofs +decide only [varF_ap, cF_ap, opF_ap, opK_ap, bF_ap, boolK_ap, andT_ap, andK_ap, orT_ap, orK_ap, notT_ap, notK_ap, yesT_ap, andV_ap, andVK_ap, orV_ap, orVK_ap, notV_ap, notVK_ap, ifF_ap, ifFK_ap, nilA_ap, consA_ap, consK_ap, consJ_ap, tupA_ap, lstA_ap, newO_ap, dicF_ap, callF_ap, un1_ap, methF_ap, nonO_ap, someO_ap, someK_ap, slF_ap, slK_ap, slJ_ap, itF_ap, itA_ap, nilS_ap, bkS_ap, ctS_ap, seqS_ap, seqK_nx, seqK_rt, seqK_bk, seqK_ct, dropS_ap, dropK_ap, retS_ap, retK_ap, retN_ap, ifS_ap, ifK_ap, setS_ap, setK_ap, asgS_ap, asgK_ap, asgJ_ap, nameG_ap, nilG_ap, consG_ap, consGK_ap, fnF_ap, fnK_nx, fnK_rt, forS_ap, forK_ap, negD_ap, addI_ap, varK_ap, startE, yes2, isN, List.map_cons, List.map_nil, List.length_cons, List.length_nil, List.replicate, List.append_nil, List.cons_append, List.nil_append, List.getElem?_cons_zero, List.getElem?_cons_succ, List.set_cons_zero, List.set_cons_succ, R.bind_ok, R.bind_ex, R.bind_bad, R.noex_ok, if_true, if_false, Bool.false_eq_true, Bool.true_eq_false, ite_true, ite_false, reduceIte, Nat.reduceAdd, Nat.reduceSub, Nat.zero_add, Nat.sub_self, Nat.sub_zero, decide_true, decide_false, Bool.not_true, Bool.not_false, subD_ap, ltD_ap, leD_ap, gtD_ap, geD_ap, mulD_ap, modD_ap, divD_ap, powD_ap, tupK_ok, lstK_ok, methK_ok, tupG_ok, eqS_t, eqS_f, neS_t, neS_f, eqI_ap, neI_ap, inT_nil, inT_hit, inT_miss, ne_eq, not_false_eq_true, b_look, jx0, jx1, jx2, h1, h2, t, sz (by decide : 7 ≤ 100)]
    · rw [outN z2] at h2
      refine ⟨S2, ?_, l1.trans l2⟩
      rw [fd_pos (by omega), outN z2, f_look_s]
      simp only [tri, List.mem_cons, List.not_mem_nil, or_false] at hw
      rcases hw with rfl | rfl | rfl <;> simp -implicitDefEqProofs +decide only [varF_ap, cF_ap, opF_ap, opK_ap, bF_ap, boolK_ap, andT_ap, andK_ap, orT_ap, orK_ap, notT_ap, notK_ap, yesT_ap, andV_ap, andVK_ap, orV_ap, orVK_ap, notV_ap, notVK_ap, ifF_ap, ifFK_ap, nilA_ap, consA_ap, consK_ap, consJ_ap, tupA_ap, lstA_ap, newO_ap, dicF_ap, callF_ap, un1_ap, methF_ap, nonO_ap, someO_ap, someK_ap, slF_ap, slK_ap, slJ_ap, itF_ap, itA_ap, nilS_ap, bkS_ap, ctS_ap, seqS_ap, seqK_nx, seqK_rt, seqK_bk, seqK_ct, dropS_ap, dropK_ap, retS_ap, retK_ap, retN_ap, ifS_ap, ifK_ap, setS_ap, setK_ap, asgS_ap, asgK_ap, asgJ_ap, nameG_ap, nilG_ap, consG_ap, consGK_ap, fnF_ap, fnK_nx, fnK_rt, forS_ap, forK_ap, negD_ap, addI_ap, varK_ap, startE, yes2, isN, List.map_cons, List.map_nil, List.length_cons, List.length_nil, List.replicate, List.append_nil, List.cons_append, List.nil_append, List.getElem?_cons_zero, List.getElem?_cons_succ, List.set_cons_zero, List.set_cons_succ, R.bind_ok, R.bind_ex, R.bind_bad, R.noex_ok, if_true, if_false, Bool.false_eq_true, Bool.true_eq_false, ite_true, ite_false, reduceIte, Nat.reduceAdd, Nat.reduceSub, Nat.zero_add, Nat.sub_self, Nat.sub_zero, decide_true, decide_false, Bool.not_true, Bool.not_false, subD_ap, ltD_ap, leD_ap, gtD_ap, geD_ap, mulD_ap, modD_ap, divD_ap, powD_ap, tupK_ok, lstK_ok, methK_ok, tupG_ok, eqS_t, eqS_f, neS_t, neS_f, eqI_ap, neI_ap, inT_nil, inT_hit, inT_miss, ne_eq, not_false_eq_true, b_look, jx0, jx1, jx2, h1, h2, sz (by decide : 7 ≤ 100)]
  · rw [outN z1] at h1
    refine ⟨S1, ?_, l1⟩
    rw [fd_pos (by omega), outN z1, f_look_s]
    simp only [tri, List.mem_cons, List.not_mem_nil, or_false] at hw
    rcases hw with rfl | rfl | rfl <;> simp -implicitDefEqProofs +decide only [varF_ap, cF_ap, opF_ap, opK_ap, bF_ap, boolK_ap, andT_ap, andK_ap, orT_ap, orK_ap, notT_ap, notK_ap, yesT_ap, andV_ap, andVK_ap, orV_ap, orVK_ap, notV_ap, notVK_ap, ifF_ap, ifFK_ap, nilA_ap, consA_ap, consK_ap, consJ_ap, tupA_ap, lstA_ap, newO_ap, dicF_ap, callF_ap, un1_ap, methF_ap, nonO_ap, someO_ap, someK_ap, slF_ap, slK_ap, slJ_ap, itF_ap, itA_ap, nilS_ap, bkS_ap, ctS_ap, seqS_ap, seqK_nx, seqK_rt, seqK_bk, seqK_ct, dropS_ap, dropK_ap, retS_ap, retK_ap, retN_ap, ifS_ap, ifK_ap, setS_ap, setK_ap, asgS_ap, asgK_ap, asgJ_ap, nameG_ap, nilG_ap, consG_ap, consGK_ap, fnF_ap, fnK_nx, fnK_rt, forS_ap, forK_ap, negD_ap, addI_ap, varK_ap, startE, yes2, isN, List.map_cons, List.map_nil, List.length_cons, List.length_nil, List.replicate, List.append_nil, List.cons_append, List.nil_append, List.getElem?_cons_zero, List.getElem?_cons_succ, List.set_cons_zero, List.set_cons_succ, R.bind_ok, R.bind_ex, R.bind_bad, R.noex_ok, if_true, if_false, Bool.false_eq_true, Bool.true_eq_false, ite_true, ite_false, reduceIte, Nat.reduceAdd, Nat.reduceSub, Nat.zero_add, Nat.sub_self, Nat.sub_zero, decide_true, decide_false, Bool.not_true, Bool.not_false, subD_ap, ltD_ap, leD_ap, gtD_ap, geD_ap, mulD_ap, modD_ap, divD_ap, powD_ap, tupK_ok, lstK_ok, methK_ok, tupG_ok, eqS_t, eqS_f, neS_t, neS_f, eqI_ap, neI_ap, inT_nil, inT_hit, inT_miss, ne_eq, not_false_eq_true, b_look, jx0, jx1, jx2, h1, sz (by decide : 7 ≤ 100)]
def PlV (v : VL.D) (ps : List Int) : Prop := ∀ st : Sto, ∃ r S, f_places_of [v] st = .ok (.ref r) S ∧ Le st S ∧ S[r]? = some (.lst (ps.map .int))
theorem pl_sieve {n : Nat} (h : PlOk n e) (hn : n ≤ 10) : PlV (.tup [.str "sieve", a, e]) (plc e) := fun st => by
  obtain ⟨r, S, h1, h2, _, h3⟩ := h.2 10 hn st
  exact ⟨r, S, by simp -implicitDefEqProofs +decide only [varF_ap, cF_ap, opF_ap, opK_ap, bF_ap, boolK_ap, andT_ap, andK_ap, orT_ap, orK_ap, notT_ap, notK_ap, yesT_ap, andV_ap, andVK_ap, orV_ap, orVK_ap, notV_ap, notVK_ap, ifF_ap, ifFK_ap, nilA_ap, consA_ap, consK_ap, consJ_ap, tupA_ap, lstA_ap, newO_ap, dicF_ap, callF_ap, un1_ap, methF_ap, nonO_ap, someO_ap, someK_ap, slF_ap, slK_ap, slJ_ap, itF_ap, itA_ap, nilS_ap, bkS_ap, ctS_ap, seqS_ap, seqK_nx, seqK_rt, seqK_bk, seqK_ct, dropS_ap, dropK_ap, retS_ap, retK_ap, retN_ap, ifS_ap, ifK_ap, setS_ap, setK_ap, asgS_ap, asgK_ap, asgJ_ap, nameG_ap, nilG_ap, consG_ap, consGK_ap, fnF_ap, fnK_nx, fnK_rt, forS_ap, forK_ap, negD_ap, addI_ap, varK_ap, startE, yes2, isN, List.map_cons, List.map_nil, List.length_cons, List.length_nil, List.replicate, List.append_nil, List.cons_append, List.nil_append, List.getElem?_cons_zero, List.getElem?_cons_succ, List.set_cons_zero, List.set_cons_succ, R.bind_ok, R.bind_ex, R.bind_bad, R.noex_ok, if_true, if_false, Bool.false_eq_true, Bool.true_eq_false, ite_true, ite_false, reduceIte, Nat.reduceAdd, Nat.reduceSub, Nat.zero_add, Nat.sub_self, Nat.sub_zero, decide_true, decide_false, Bool.not_true, Bool.not_false, subD_ap, ltD_ap, leD_ap, gtD_ap, geD_ap, mulD_ap, modD_ap, divD_ap, powD_ap, tupK_ok, lstK_ok, methK_ok, tupG_ok, eqS_t, eqS_f, neS_t, neS_f, eqI_ap, neI_ap, inT_nil, inT_hit, inT_miss, ne_eq, not_false_eq_true, f_places_of, b_places_of, jx0, jx2, h1], h2, h3⟩
theorem pl_once : PlV (.tup [.str "once", a]) [] := fun st => ⟨st.length, st ++ [.lst []], by simp -implicitDefEqProofs +decide only [varF_ap, cF_ap, opF_ap, opK_ap, bF_ap, boolK_ap, andT_ap, andK_ap, orT_ap, orK_ap, notT_ap, notK_ap, yesT_ap, andV_ap, andVK_ap, orV_ap, orVK_ap, notV_ap, notVK_ap, ifF_ap, ifFK_ap, nilA_ap, consA_ap, consK_ap, consJ_ap, tupA_ap, lstA_ap, newO_ap, dicF_ap, callF_ap, un1_ap, methF_ap, nonO_ap, someO_ap, someK_ap, slF_ap, slK_ap, slJ_ap, itF_ap, itA_ap, nilS_ap, bkS_ap, ctS_ap, seqS_ap, seqK_nx, seqK_rt, seqK_bk, seqK_ct, dropS_ap, dropK_ap, retS_ap, retK_ap, retN_ap, ifS_ap, ifK_ap, setS_ap, setK_ap, asgS_ap, asgK_ap, asgJ_ap, nameG_ap, nilG_ap, consG_ap, consGK_ap, fnF_ap, fnK_nx, fnK_rt, forS_ap, forK_ap, negD_ap, addI_ap, varK_ap, startE, yes2, isN, List.map_cons, List.map_nil, List.length_cons, List.length_nil, List.replicate, List.append_nil, List.cons_append, List.nil_append, List.getElem?_cons_zero, List.getElem?_cons_succ, List.set_cons_zero, List.set_cons_succ, R.bind_ok, R.bind_ex, R.bind_bad, R.noex_ok, if_true, if_false, Bool.false_eq_true, Bool.true_eq_false, ite_true, ite_false, reduceIte, Nat.reduceAdd, Nat.reduceSub, Nat.zero_add, Nat.sub_self, Nat.sub_zero, decide_true, decide_false, Bool.not_true, Bool.not_false, subD_ap, ltD_ap, leD_ap, gtD_ap, geD_ap, mulD_ap, modD_ap, divD_ap, powD_ap, tupK_ok, lstK_ok, methK_ok, tupG_ok, eqS_t, eqS_f, neS_t, neS_f, eqI_ap, neI_ap, inT_nil, inT_hit, inT_miss, ne_eq, not_false_eq_true, f_places_of, b_places_of, jx0, sz (by decide : 0 ≤ 100)], Le.app _ _, get_last⟩
theorem lst_tup {xs : List VL.D} {st : Sto} : listD [.tup xs] st = .ok (.ref st.length) (st ++ [.lst xs]) := rfl
theorem pl_count {by_ : List Int} : PlV (.tup [.str "count", a, .tup (by_.map .int)]) by_ := fun st => ⟨st.length, st ++ [.lst (by_.map .int)], by simp -implicitDefEqProofs +decide only [varF_ap, cF_ap, opF_ap, opK_ap, bF_ap, boolK_ap, andT_ap, andK_ap, orT_ap, orK_ap, notT_ap, notK_ap, yesT_ap, andV_ap, andVK_ap, orV_ap, orVK_ap, notV_ap, notVK_ap, ifF_ap, ifFK_ap, nilA_ap, consA_ap, consK_ap, consJ_ap, tupA_ap, lstA_ap, newO_ap, dicF_ap, callF_ap, un1_ap, methF_ap, nonO_ap, someO_ap, someK_ap, slF_ap, slK_ap, slJ_ap, itF_ap, itA_ap, nilS_ap, bkS_ap, ctS_ap, seqS_ap, seqK_nx, seqK_rt, seqK_bk, seqK_ct, dropS_ap, dropK_ap, retS_ap, retK_ap, retN_ap, ifS_ap, ifK_ap, setS_ap, setK_ap, asgS_ap, asgK_ap, asgJ_ap, nameG_ap, nilG_ap, consG_ap, consGK_ap, fnF_ap, fnK_nx, fnK_rt, forS_ap, forK_ap, negD_ap, addI_ap, varK_ap, startE, yes2, isN, List.map_cons, List.map_nil, List.length_cons, List.length_nil, List.replicate, List.append_nil, List.cons_append, List.nil_append, List.getElem?_cons_zero, List.getElem?_cons_succ, List.set_cons_zero, List.set_cons_succ, R.bind_ok, R.bind_ex, R.bind_bad, R.noex_ok, if_true, if_false, Bool.false_eq_true, Bool.true_eq_false, ite_true, ite_false, reduceIte, Nat.reduceAdd, Nat.reduceSub, Nat.zero_add, Nat.sub_self, Nat.sub_zero, decide_true, decide_false, Bool.not_true, Bool.not_false, subD_ap, ltD_ap, leD_ap, gtD_ap, geD_ap, mulD_ap, modD_ap, divD_ap, powD_ap, tupK_ok, lstK_ok, methK_ok, tupG_ok, eqS_t, eqS_f, neS_t, neS_f, eqI_ap, neI_ap, inT_nil, inT_hit, inT_miss, ne_eq, not_false_eq_true, f_places_of, b_places_of, jx0, jx2, lst_tup], Le.app _ _, get_last⟩
theorem pl_sums {by_ : List Int} {p : Int} (hw : w ∈ sums) (hl : by_.length ≤ 100) : PlV (.tup [.str w, a, .int p, .tup (by_.map .int)]) (by_ ++ [p]) := fun st => by
  have ad : addD (.ref st.length) (.ref (st ++ [VL.O.lst (by_.map .int)]).length) ((st ++ [VL.O.lst (by_.map .int)]) ++ [.lst [.int p]]) = .ok (.ref ((st ++ [VL.O.lst (by_.map .int)]) ++ [VL.O.lst [.int p]]).length) (((st ++ [VL.O.lst (by_.map .int)]) ++ [.lst [.int p]]) ++ [.lst (by_.map .int ++ [.int p])]) :=
    addD_lst (get_app get_last) get_last (by rw [List.length_map, sizeLine_eq']; show by_.length + 1 ≤ _; omega)
  refine ⟨_, _, ?_, ((Le.app st [.lst (by_.map .int)]).trans (Le.app _ [.lst [.int p]])).trans (Le.app _ [.lst (by_.map .int ++ [.int p])]), by rw [List.map_append]; exact get_last⟩
  simp only [sums, List.mem_cons, List.not_mem_nil, or_false] at hw
  rcases hw with rfl | rfl | rfl <;> simp -implicitDefEqProofs +decide only [varF_ap, cF_ap, opF_ap, opK_ap, bF_ap, boolK_ap, andT_ap, andK_ap, orT_ap, orK_ap, notT_ap, notK_ap, yesT_ap, andV_ap, andVK_ap, orV_ap, orVK_ap, notV_ap, notVK_ap, ifF_ap, ifFK_ap, nilA_ap, consA_ap, consK_ap, consJ_ap, tupA_ap, lstA_ap, newO_ap, dicF_ap, callF_ap, un1_ap, methF_ap, nonO_ap, someO_ap, someK_ap, slF_ap, slK_ap, slJ_ap, itF_ap, itA_ap, nilS_ap, bkS_ap, ctS_ap, seqS_ap, seqK_nx, seqK_rt, seqK_bk, seqK_ct, dropS_ap, dropK_ap, retS_ap, retK_ap, retN_ap, ifS_ap, ifK_ap, setS_ap, setK_ap, asgS_ap, asgK_ap, asgJ_ap, nameG_ap, nilG_ap, consG_ap, consGK_ap, fnF_ap, fnK_nx, fnK_rt, forS_ap, forK_ap, negD_ap, addI_ap, varK_ap, startE, yes2, isN, List.map_cons, List.map_nil, List.length_cons, List.length_nil, List.replicate, List.append_nil, List.cons_append, List.nil_append, List.getElem?_cons_zero, List.getElem?_cons_succ, List.set_cons_zero, List.set_cons_succ, R.bind_ok, R.bind_ex, R.bind_bad, R.noex_ok, if_true, if_false, Bool.false_eq_true, Bool.true_eq_false, ite_true, ite_false, reduceIte, Nat.reduceAdd, Nat.reduceSub, Nat.zero_add, Nat.sub_self, Nat.sub_zero, decide_true, decide_false, Bool.not_true, Bool.not_false, subD_ap, ltD_ap, leD_ap, gtD_ap, geD_ap, mulD_ap, modD_ap, divD_ap, powD_ap, tupK_ok, lstK_ok, methK_ok, tupG_ok, eqS_t, eqS_f, neS_t, neS_f, eqI_ap, neI_ap, inT_nil, inT_hit, inT_miss, ne_eq, not_false_eq_true, f_places_of, b_places_of, jx0, jx2, jx3, lst_tup, ad, sz (by decide : 1 ≤ 100)]
theorem pl_first {by_ : List Int} {k : Int} {os : List (Int × Bool)} (hl : by_.length ≤ 100) (hl2 : os.length ≤ 100) : PlV (.tup [.str "first", a, .int k, .tup (by_.map .int), .tup (os.map orD)]) (by_ ++ os.map (·.1)) := fun st => by
  obtain ⟨j, e1⟩ := lcF_all (st := st ++ [.lst (by_.map .int)]) (s := st ++ [.lst (by_.map .int)]) (c := []) (ds := os.map orD) (it := itF (opF ixD (varF 0) (cF (.int 4)))) (vs := [4]) (gf := nameG 4) (te := opF ixD (varF 4) (cF (.int 0))) (env := [some (.tup [.str "first", a, .int k, .tup (by_.map .int), .tup (os.map orD)]), some (.str "first"), none, none, none])
    (fun d => match d with | .tup [.int i, _] => .int i | _ => .non) (by simp -implicitDefEqProofs only [varF_ap, cF_ap, opF_ap, opK_ap, bF_ap, boolK_ap, andT_ap, andK_ap, orT_ap, orK_ap, notT_ap, notK_ap, yesT_ap, andV_ap, andVK_ap, orV_ap, orVK_ap, notV_ap, notVK_ap, ifF_ap, ifFK_ap, nilA_ap, consA_ap, consK_ap, consJ_ap, tupA_ap, tupK_ap, lstA_ap, lstK_ap, newO_ap, dicF_ap, callF_ap, un1_ap, methF_ap, methK_ap, nonO_ap, someO_ap, someK_ap, slF_ap, slK_ap, slJ_ap, itF_ap, itA_ap, nilS_ap, bkS_ap, ctS_ap, seqS_ap, seqK_nx, seqK_rt, seqK_bk, seqK_ct, dropS_ap, dropK_ap, retS_ap, retK_ap, retN_ap, ifS_ap, ifK_ap, setS_ap, setK_ap, asgS_ap, asgK_ap, asgJ_ap, nameG_ap, nilG_ap, consG_ap, consGK_ap, tupG_ap, fnF_ap, fnK_nx, fnK_rt, forS_ap, forK_ap, intD_ap, negD_ap, addI_ap, varK_ap, startE, yes2, isN, List.map_cons, List.map_nil, List.length_cons, List.length_nil, List.replicate, List.append_nil, List.cons_append, List.nil_append, List.getElem?_cons_zero, List.getElem?_cons_succ, List.set_cons_zero, List.set_cons_succ, R.bind_ok, R.bind_ex, R.bind_bad, R.noex_ok, if_true, if_false, Bool.false_eq_true, Bool.true_eq_false, ite_true, ite_false, reduceIte, Nat.reduceAdd, Nat.reduceSub, Nat.zero_add, Nat.sub_self, Nat.sub_zero, decide_true, decide_false, Bool.not_true, Bool.not_false, jx4, itD_tup]) chk_nil (by rw [List.length_map, sizeLine_eq']; omega) fun d hd S hS => by
      obtain ⟨p, hp, rfl⟩ := List.mem_map.mp hd
      exact ⟨_, [], rfl, by rw [List.append_nil]; simp -implicitDefEqProofs only [varF_ap, cF_ap, opF_ap, opK_ap, bF_ap, boolK_ap, andT_ap, andK_ap, orT_ap, orK_ap, notT_ap, notK_ap, yesT_ap, andV_ap, andVK_ap, orV_ap, orVK_ap, notV_ap, notVK_ap, ifF_ap, ifFK_ap, nilA_ap, consA_ap, consK_ap, consJ_ap, tupA_ap, tupK_ap, lstA_ap, lstK_ap, newO_ap, dicF_ap, callF_ap, un1_ap, methF_ap, methK_ap, nonO_ap, someO_ap, someK_ap, slF_ap, slK_ap, slJ_ap, itF_ap, itA_ap, nilS_ap, bkS_ap, ctS_ap, seqS_ap, seqK_nx, seqK_rt, seqK_bk, seqK_ct, dropS_ap, dropK_ap, retS_ap, retK_ap, retN_ap, ifS_ap, ifK_ap, setS_ap, setK_ap, asgS_ap, asgK_ap, asgJ_ap, nameG_ap, nilG_ap, consG_ap, consGK_ap, tupG_ap, fnF_ap, fnK_nx, fnK_rt, forS_ap, forK_ap, intD_ap, negD_ap, addI_ap, varK_ap, startE, yes2, isN, List.map_cons, List.map_nil, List.length_cons, List.length_nil, List.replicate, List.append_nil, List.cons_append, List.nil_append, List.getElem?_cons_zero, List.getElem?_cons_succ, List.set_cons_zero, List.set_cons_succ, R.bind_ok, R.bind_ex, R.bind_bad, R.noex_ok, if_true, if_false, Bool.false_eq_true, Bool.true_eq_false, ite_true, ite_false, reduceIte, Nat.reduceAdd, Nat.reduceSub, Nat.zero_add, Nat.sub_self, Nat.sub_zero, decide_true, decide_false, Bool.not_true, Bool.not_false, wipeE, orD, jx0]⟩
  have m1 : (os.map orD).map (fun d => match d with | .tup [.int i, _] => VL.D.int i | _ => .non) = (os.map (·.1)).map .int := by
    rw [List.map_map, List.map_map]; rfl
  rw [m1] at e1
  generalize hs0 : st ++ [VL.O.lst (by_.map .int)] = S0 at e1
  generalize hs1 : S0 ++ .lst ((os.map (·.1)).map .int) :: j = S1 at e1
  have g0 : S1[st.length]? = some (.lst (by_.map .int)) := by rw [← hs1]; exact get_app (hs0 ▸ get_last)
  have g1 : S1[S0.length]? = some (.lst ((os.map (·.1)).map .int)) := by rw [← hs1]; exact get_at
  have ad := addD_lst (st := S1) g0 g1 (by rw [List.length_map, List.length_map, List.length_map, sizeLine_eq']; omega)
  have q0 : q0_places_of [some (.tup [.str "first", a, .int k, .tup (by_.map .int), .tup (os.map orD)]), some (.str "first"), none, none, none] S0 = _ := e1
  exact ⟨S1.length, S1 ++ [.lst (by_.map .int ++ (os.map (·.1)).map .int)], by simp -implicitDefEqProofs +decide only [varF_ap, cF_ap, opF_ap, opK_ap, bF_ap, boolK_ap, andT_ap, andK_ap, orT_ap, orK_ap, notT_ap, notK_ap, yesT_ap, andV_ap, andVK_ap, orV_ap, orVK_ap, notV_ap, notVK_ap, ifF_ap, ifFK_ap, nilA_ap, consA_ap, consK_ap, consJ_ap, tupA_ap, lstA_ap, newO_ap, dicF_ap, callF_ap, un1_ap, methF_ap, nonO_ap, someO_ap, someK_ap, slF_ap, slK_ap, slJ_ap, itF_ap, itA_ap, nilS_ap, bkS_ap, ctS_ap, seqS_ap, seqK_nx, seqK_rt, seqK_bk, seqK_ct, dropS_ap, dropK_ap, retS_ap, retK_ap, retN_ap, ifS_ap, ifK_ap, setS_ap, setK_ap, asgS_ap, asgK_ap, asgJ_ap, nameG_ap, nilG_ap, consG_ap, consGK_ap, fnF_ap, fnK_nx, fnK_rt, forS_ap, forK_ap, negD_ap, addI_ap, varK_ap, startE, yes2, isN, List.map_cons, List.map_nil, List.length_cons, List.length_nil, List.replicate, List.append_nil, List.cons_append, List.nil_append, List.getElem?_cons_zero, List.getElem?_cons_succ, List.set_cons_zero, List.set_cons_succ, R.bind_ok, R.bind_ex, R.bind_bad, R.noex_ok, if_true, if_false, Bool.false_eq_true, Bool.true_eq_false, ite_true, ite_false, reduceIte, Nat.reduceAdd, Nat.reduceSub, Nat.zero_add, Nat.sub_self, Nat.sub_zero, decide_true, decide_false, Bool.not_true, Bool.not_false, subD_ap, ltD_ap, leD_ap, gtD_ap, geD_ap, mulD_ap, modD_ap, divD_ap, powD_ap, tupK_ok, lstK_ok, methK_ok, tupG_ok, eqS_t, eqS_f, neS_t, neS_f, eqI_ap, neI_ap, inT_nil, inT_hit, inT_miss, ne_eq, not_false_eq_true, f_places_of, b_places_of, jx0, jx3, lst_tup, hs0, q0, ad], ((hs0 ▸ Le.app st _ : Le st S0).trans (hs1 ▸ Le.app S0 _)).trans (Le.app S1 _), by rw [List.map_append]; exact get_last⟩
theorem pl_cols {n : Nat} {es : List VL.D} (hn : n ≤ 6) (he : ∀ e ∈ es, PlOk n e) (hl : es.length ≤ 12) : PlV (.tup [.str "cols", a, .tup es]) (plcs es) := fun st => by
  have lens : ∀ i, i ≤ es.length → (plcs (es.take i)).length ≤ i * 8 ^ n := by
    intro i
    induction i with
    | zero => intro _; show 0 ≤ _; exact Nat.zero_le _
    | succ i ih =>
      intro hi
      have hx' : es[i]? = some es[i] := List.getElem?_eq_getElem (by omega)
      rw [take_more hx', plcs_app, plcs_one, List.length_append, Nat.succ_mul]
      have h1 := ih (by omega)
      have h2 := (he es[i] (List.getElem_mem _)).1
      omega
  have big : ∀ i, i ≤ 13 → i * 8 ^ n ≤ 13 * 262144 := fun i hi => Nat.mul_le_mul hi (pow8 hn)
  obtain ⟨e', S, hf, z, he', hS, hp⟩ := forL_inv (c := []) (gf := nameG 3) (b := l0_places_of) (ds := es) (env := [some (.tup [.str "cols", a, .tup es]), some (.str "cols"), some (.ref st.length), none, none]) (st := st ++ [.lst []])
    (fun i env S => ∃ z, env = [some (.tup [.str "cols", a, .tup es]), some (.str "cols"), some (.ref st.length), z, none] ∧ Le st S ∧ S[st.length]? = some (.lst ((plcs (es.take i)).map .int)))
    ⟨none, rfl, Le.app _ _, get_last⟩ (fun _ _ _ _ => ChkOk.nil) fun i e env S hi ⟨z, he', hS, hp⟩ => by
      subst he'
      have hil := (List.getElem?_eq_some_iff.mp hi).1
      rw [take_more hi, plcs_app, plcs_one]
      obtain ⟨lp, pl⟩ := he e (List.mem_of_getElem? hi)
      obtain ⟨r, S2, h1, h2, h3, h4⟩ := pl 10 (by omega) S
      have hp2 := h2.get hp
      have ex := extD_ok hp2 h4 (by
        rw [List.length_map, List.length_map, sizeLine_eq']
        have l1 := lens i (by omega)
        have l2 := big i (by omega)
        have l3 := big 1 (by omega)
        omega)
      have ty : tyD "list" (VL.D.ref st.length) S := tyD_list (by unfold listAt; rw [hp])
      have hl2 : st.length < S2.length := (List.getElem?_eq_some_iff.mp hp2).1
      refine ⟨_, _, [some (.tup [.str "cols", a, .tup es]), some (.str "cols"), some (.ref st.length), some e, none], S2.set st.length (.lst ((plcs (es.take i)).map .int ++ (plc e).map .int)), rfl, by simp -implicitDefEqProofs +decide only [varF_ap, cF_ap, opF_ap, opK_ap, bF_ap, boolK_ap, andT_ap, andK_ap, orT_ap, orK_ap, notT_ap, notK_ap, yesT_ap, andV_ap, andVK_ap, orV_ap, orVK_ap, notV_ap, notVK_ap, ifF_ap, ifFK_ap, nilA_ap, consA_ap, consK_ap, consJ_ap, tupA_ap, lstA_ap, newO_ap, dicF_ap, callF_ap, un1_ap, methF_ap, nonO_ap, someO_ap, someK_ap, slF_ap, slK_ap, slJ_ap, itF_ap, itA_ap, nilS_ap, bkS_ap, ctS_ap, seqS_ap, seqK_nx, seqK_rt, seqK_bk, seqK_ct, dropS_ap, dropK_ap, retS_ap, retK_ap, retN_ap, ifS_ap, ifK_ap, setS_ap, setK_ap, asgS_ap, asgK_ap, asgJ_ap, nameG_ap, nilG_ap, consG_ap, consGK_ap, fnF_ap, fnK_nx, fnK_rt, forS_ap, forK_ap, negD_ap, addI_ap, varK_ap, startE, yes2, isN, List.map_cons, List.map_nil, List.length_cons, List.length_nil, List.replicate, List.append_nil, List.cons_append, List.nil_append, List.getElem?_cons_zero, List.getElem?_cons_succ, List.set_cons_zero, List.set_cons_succ, R.bind_ok, R.bind_ex, R.bind_bad, R.noex_ok, if_true, if_false, Bool.false_eq_true, Bool.true_eq_false, ite_true, ite_false, reduceIte, Nat.reduceAdd, Nat.reduceSub, Nat.zero_add, Nat.sub_self, Nat.sub_zero, decide_true, decide_false, Bool.not_true, Bool.not_false, subD_ap, ltD_ap, leD_ap, gtD_ap, geD_ap, mulD_ap, modD_ap, divD_ap, powD_ap, tupK_ok, lstK_ok, methK_ok, tupG_ok, eqS_t, eqS_f, neS_t, neS_f, eqI_ap, neI_ap, inT_nil, inT_hit, inT_miss, ne_eq, not_false_eq_true, l0_places_of, ty, h1, ex], some e, rfl, (hS.trans h2).set (Nat.le_refl _), ?_⟩
      rw [List.getElem?_set_self hl2, List.map_append]
  rw [List.take_length] at hp
  refine ⟨st.length, S, ?_, hS, hp⟩
  have f : forL [] (nameG 3) l0_places_of es [some (.tup [.str "cols", a, .tup es]), some (.str "cols"), some (.ref st.length), none, none] (st ++ [.lst []]) = _ := hf
  subst he'
  simp -implicitDefEqProofs +decide only [varF_ap, cF_ap, opF_ap, opK_ap, bF_ap, boolK_ap, andT_ap, andK_ap, orT_ap, orK_ap, notT_ap, notK_ap, yesT_ap, andV_ap, andVK_ap, orV_ap, orVK_ap, notV_ap, notVK_ap, ifF_ap, ifFK_ap, nilA_ap, consA_ap, consK_ap, consJ_ap, tupA_ap, lstA_ap, newO_ap, dicF_ap, callF_ap, un1_ap, methF_ap, nonO_ap, someO_ap, someK_ap, slF_ap, slK_ap, slJ_ap, itF_ap, itA_ap, nilS_ap, bkS_ap, ctS_ap, seqS_ap, seqK_nx, seqK_rt, seqK_bk, seqK_ct, dropS_ap, dropK_ap, retS_ap, retK_ap, retN_ap, ifS_ap, ifK_ap, setS_ap, setK_ap, asgS_ap, asgK_ap, asgJ_ap, nameG_ap, nilG_ap, consG_ap, consGK_ap, fnF_ap, fnK_nx, fnK_rt, forS_ap, forK_ap, negD_ap, addI_ap, varK_ap, startE, yes2, isN, List.map_cons, List.map_nil, List.length_cons, List.length_nil, List.replicate, List.append_nil, List.cons_append, List.nil_append, List.getElem?_cons_zero, List.getElem?_cons_succ, List.set_cons_zero, List.set_cons_succ, R.bind_ok, R.bind_ex, R.bind_bad, R.noex_ok, if_true, if_false, Bool.false_eq_true, Bool.true_eq_false, ite_true, ite_false, reduceIte, Nat.reduceAdd, Nat.reduceSub, Nat.zero_add, Nat.sub_self, Nat.sub_zero, decide_true, decide_false, Bool.not_true, Bool.not_false, subD_ap, ltD_ap, leD_ap, gtD_ap, geD_ap, mulD_ap, modD_ap, divD_ap, powD_ap, tupK_ok, lstK_ok, methK_ok, tupG_ok, eqS_t, eqS_f, neS_t, neS_f, eqI_ap, neI_ap, inT_nil, inT_hit, inT_miss, ne_eq, not_false_eq_true, f_places_of, b_places_of, jx0, jx2, itD_tup, f, sz (by decide : 0 ≤ 100)]
theorem look_sieve {n : Nat} (hqa : 0 ≤ qa) (ha : LookR P a x qa da) (h : PlOk n e) (hn : n ≤ 10) : LookR P (.tup [.str "sieve", a, e]) x (fd [qa, bey (plc e) x]) (1 + da) := fun d hd W m st hm hk hl hP => by
  obtain ⟨d, rfl⟩ : ∃ k, d = k + 1 := ⟨d - 1, by omega⟩
  obtain ⟨S1, h1, l1⟩ := ha d (by omega) W m st hm hk (by omega) hP
  by_cases z1 : qa = 0
  · subst z1
    rw [out0] at h1
    rw [fd_0]
    obtain ⟨r, S2, h2, l2, g2⟩ := pl_sieve (a := a) h hn S1
    refine ⟨S2, ?_, l1.trans l2⟩
    cases hb : (plc e).any fun p => decide (p ≥ x) with
    | true =>
      have nb := nb_yes g2 hb
      have bv : bey (plc e) x = 2 := if_pos hb
      rw [bv, fd_pos (by decide), outN (by decide), f_look_s]
      simp -implicitDefEqProofs +decide only [varF_ap, cF_ap, opF_ap, opK_ap, bF_ap, boolK_ap, andT_ap, andK_ap, orT_ap, orK_ap, notT_ap, notK_ap, yesT_ap, andV_ap, andVK_ap, orV_ap, orVK_ap, notV_ap, notVK_ap, ifF_ap, ifFK_ap, nilA_ap, consA_ap, consK_ap, consJ_ap, tupA_ap, lstA_ap, newO_ap, dicF_ap, callF_ap, un1_ap, methF_ap, nonO_ap, someO_ap, someK_ap, slF_ap, slK_ap, slJ_ap, itF_ap, itA_ap, nilS_ap, bkS_ap, ctS_ap, seqS_ap, seqK_nx, seqK_rt, seqK_bk, seqK_ct, dropS_ap, dropK_ap, retS_ap, retK_ap, retN_ap, ifS_ap, ifK_ap, setS_ap, setK_ap, asgS_ap, asgK_ap, asgJ_ap, nameG_ap, nilG_ap, consG_ap, consGK_ap, fnF_ap, fnK_nx, fnK_rt, forS_ap, forK_ap, negD_ap, addI_ap, varK_ap, startE, yes2, isN, List.map_cons, List.map_nil, List.length_cons, List.length_nil, List.replicate, List.append_nil, List.cons_append, List.nil_append, List.getElem?_cons_zero, List.getElem?_cons_succ, List.set_cons_zero, List.set_cons_succ, R.bind_ok, R.bind_ex, R.bind_bad, R.noex_ok, if_true, if_false, Bool.false_eq_true, Bool.true_eq_false, ite_true, ite_false, reduceIte, Nat.reduceAdd, Nat.reduceSub, Nat.zero_add, Nat.sub_self, Nat.sub_zero, decide_true, decide_false, Bool.not_true, Bool.not_false, subD_ap, ltD_ap, leD_ap, gtD_ap, geD_ap, mulD_ap, modD_ap, divD_ap, powD_ap, tupK_ok, lstK_ok, methK_ok, tupG_ok, eqS_t, eqS_f, neS_t, neS_f, eqI_ap, neI_ap, inT_nil, inT_hit, inT_miss, ne_eq, not_false_eq_true, b_look, jx0, jx1, h1, h2, nb, callN_ap, callNK_ap, sz (by decide : 7 ≤ 100), sz (by decide : 3 ≤ 100)]; rfl
    | false =>
      have nb := nb_no g2 hb
      have bv : bey (plc e) x = 0 := if_neg (by rw [hb]; exact Bool.false_ne_true)
      rw [bv, fd_0]
      rw [fd_nil, out0, f_look_s]
      simp -implicitDefEqProofs +decide only [varF_ap, cF_ap, opF_ap, opK_ap, bF_ap, boolK_ap, andT_ap, andK_ap, orT_ap, orK_ap, notT_ap, notK_ap, yesT_ap, andV_ap, andVK_ap, orV_ap, orVK_ap, notV_ap, notVK_ap, ifF_ap, ifFK_ap, nilA_ap, consA_ap, consK_ap, consJ_ap, tupA_ap, lstA_ap, newO_ap, dicF_ap, callF_ap, un1_ap, methF_ap, nonO_ap, someO_ap, someK_ap, slF_ap, slK_ap, slJ_ap, itF_ap, itA_ap, nilS_ap, bkS_ap, ctS_ap, seqS_ap, seqK_nx, seqK_rt, seqK_bk, seqK_ct, dropS_ap, dropK_ap, retS_ap, retK_ap, retN_ap, ifS_ap, ifK_ap, setS_ap, setK_ap, asgS_ap, asgK_ap, asgJ_ap, nameG_ap, nilG_ap, consG_ap, consGK_ap, fnF_ap, fnK_nx, fnK_rt, forS_ap, forK_ap, negD_ap, addI_ap, varK_ap, startE, yes2, isN, List.map_cons, List.map_nil, List.length_cons, List.length_nil, List.replicate, List.append_nil, List.cons_append, List.nil_append, List.getElem?_cons_zero, List.getElem?_cons_succ, List.set_cons_zero, List.set_cons_succ, R.bind_ok, R.bind_ex, R.bind_bad, R.noex_ok, if_true, if_false, Bool.false_eq_true, Bool.true_eq_false, ite_true, ite_false, reduceIte, Nat.reduceAdd, Nat.reduceSub, Nat.zero_add, Nat.sub_self, Nat.sub_zero, decide_true, decide_false, Bool.not_true, Bool.not_false, subD_ap, ltD_ap, leD_ap, gtD_ap, geD_ap, mulD_ap, modD_ap, divD_ap, powD_ap, tupK_ok, lstK_ok, methK_ok, tupG_ok, eqS_t, eqS_f, neS_t, neS_f, eqI_ap, neI_ap, inT_nil, inT_hit, inT_miss, ne_eq, not_false_eq_true, b_look, jx0, jx1, h1, h2, nb, callN_ap, callNK_ap, sz (by decide : 7 ≤ 100), sz (by decide : 3 ≤ 100)]
  · rw [outN z1] at h1
    refine ⟨S1, ?_, l1⟩
    rw [fd_pos (by omega), outN z1, f_look_s]
    simp -implicitDefEqProofs +decide only [varF_ap, cF_ap, opF_ap, opK_ap, bF_ap, boolK_ap, andT_ap, andK_ap, orT_ap, orK_ap, notT_ap, notK_ap, yesT_ap, andV_ap, andVK_ap, orV_ap, orVK_ap, notV_ap, notVK_ap, ifF_ap, ifFK_ap, nilA_ap, consA_ap, consK_ap, consJ_ap, tupA_ap, lstA_ap, newO_ap, dicF_ap, callF_ap, un1_ap, methF_ap, nonO_ap, someO_ap, someK_ap, slF_ap, slK_ap, slJ_ap, itF_ap, itA_ap, nilS_ap, bkS_ap, ctS_ap, seqS_ap, seqK_nx, seqK_rt, seqK_bk, seqK_ct, dropS_ap, dropK_ap, retS_ap, retK_ap, retN_ap, ifS_ap, ifK_ap, setS_ap, setK_ap, asgS_ap, asgK_ap, asgJ_ap, nameG_ap, nilG_ap, consG_ap, consGK_ap, fnF_ap, fnK_nx, fnK_rt, forS_ap, forK_ap, negD_ap, addI_ap, varK_ap, startE, yes2, isN, List.map_cons, List.map_nil, List.length_cons, List.length_nil, List.replicate, List.append_nil, List.cons_append, List.nil_append, List.getElem?_cons_zero, List.getElem?_cons_succ, List.set_cons_zero, List.set_cons_succ, R.bind_ok, R.bind_ex, R.bind_bad, R.noex_ok, if_true, if_false, Bool.false_eq_true, Bool.true_eq_false, ite_true, ite_false, reduceIte, Nat.reduceAdd, Nat.reduceSub, Nat.zero_add, Nat.sub_self, Nat.sub_zero, decide_true, decide_false, Bool.not_true, Bool.not_false, subD_ap, ltD_ap, leD_ap, gtD_ap, geD_ap, mulD_ap, modD_ap, divD_ap, powD_ap, tupK_ok, lstK_ok, methK_ok, tupG_ok, eqS_t, eqS_f, neS_t, neS_f, eqI_ap, neI_ap, inT_nil, inT_hit, inT_miss, ne_eq, not_false_eq_true, b_look, jx0, jx1, h1, callN_ap, callNK_ap, sz (by decide : 7 ≤ 100), sz (by decide : 3 ≤ 100)]
theorem look_once (hqa : 0 ≤ qa) (ha : LookR P a x qa da) : LookR P (.tup [.str "once", a]) x (fd [qa, bey (([] : List Int)) x]) (1 + da) := fun d hd W m st hm hk hl hP => by
  obtain ⟨d, rfl⟩ : ∃ k, d = k + 1 := ⟨d - 1, by omega⟩
  obtain ⟨S1, h1, l1⟩ := ha d (by omega) W m st hm hk (by omega) hP
  by_cases z1 : qa = 0
  · subst z1
    rw [out0] at h1
    rw [fd_0]
    obtain ⟨r, S2, h2, l2, g2⟩ := pl_once (a := a) S1
    refine ⟨S2, ?_, l1.trans l2⟩
    cases hb : (([] : List Int)).any fun p => decide (p ≥ x) with
    | true =>
      have nb := nb_yes g2 hb
      have bv : bey (([] : List Int)) x = 2 := if_pos hb
      rw [bv, fd_pos (by decide), outN (by decide), f_look_s]
      simp -implicitDefEqProofs +decide only [varF_ap, cF_ap, opF_ap, opK_ap, bF_ap, boolK_ap, andT_ap, andK_ap, orT_ap, orK_ap, notT_ap, notK_ap, yesT_ap, andV_ap, andVK_ap, orV_ap, orVK_ap, notV_ap, notVK_ap, ifF_ap, ifFK_ap, nilA_ap, consA_ap, consK_ap, consJ_ap, tupA_ap, lstA_ap, newO_ap, dicF_ap, callF_ap, un1_ap, methF_ap, nonO_ap, someO_ap, someK_ap, slF_ap, slK_ap, slJ_ap, itF_ap, itA_ap, nilS_ap, bkS_ap, ctS_ap, seqS_ap, seqK_nx, seqK_rt, seqK_bk, seqK_ct, dropS_ap, dropK_ap, retS_ap, retK_ap, retN_ap, ifS_ap, ifK_ap, setS_ap, setK_ap, asgS_ap, asgK_ap, asgJ_ap, nameG_ap, nilG_ap, consG_ap, consGK_ap, fnF_ap, fnK_nx, fnK_rt, forS_ap, forK_ap, negD_ap, addI_ap, varK_ap, startE, yes2, isN, List.map_cons, List.map_nil, List.length_cons, List.length_nil, List.replicate, List.append_nil, List.cons_append, List.nil_append, List.getElem?_cons_zero, List.getElem?_cons_succ, List.set_cons_zero, List.set_cons_succ, R.bind_ok, R.bind_ex, R.bind_bad, R.noex_ok, if_true, if_false, Bool.false_eq_true, Bool.true_eq_false, ite_true, ite_false, reduceIte, Nat.reduceAdd, Nat.reduceSub, Nat.zero_add, Nat.sub_self, Nat.sub_zero, decide_true, decide_false, Bool.not_true, Bool.not_false, subD_ap, ltD_ap, leD_ap, gtD_ap, geD_ap, mulD_ap, modD_ap, divD_ap, powD_ap, tupK_ok, lstK_ok, methK_ok, tupG_ok, eqS_t, eqS_f, neS_t, neS_f, eqI_ap, neI_ap, inT_nil, inT_hit, inT_miss, ne_eq, not_false_eq_true, b_look, jx0, jx1, h1, h2, nb, callN_ap, callNK_ap, sz (by decide : 7 ≤ 100), sz (by decide : 3 ≤ 100)]; rfl
    | false =>
      have nb := nb_no g2 hb
      have bv : bey (([] : List Int)) x = 0 := if_neg (by rw [hb]; exact Bool.false_ne_true)
      rw [bv, fd_0]
      rw [fd_nil, out0, f_look_s]
      simp -implicitDefEqProofs +decide only [varF_ap, cF_ap, opF_ap, opK_ap, bF_ap, boolK_ap, andT_ap, andK_ap, orT_ap, orK_ap, notT_ap, notK_ap, yesT_ap, andV_ap, andVK_ap, orV_ap, orVK_ap, notV_ap, notVK_ap, ifF_ap, ifFK_ap, nilA_ap, consA_ap, consK_ap, consJ_ap, tupA_ap, lstA_ap, newO_ap, dicF_ap, callF_ap, un1_ap, methF_ap, nonO_ap, someO_ap, someK_ap, slF_ap, slK_ap, slJ_ap, itF_ap, itA_ap, nilS_ap, bkS_ap, ctS_ap, seqS_ap, seqK_nx, seqK_rt, seqK_bk, seqK_ct, dropS_ap, dropK_ap, retS_ap, retK_ap, retN_ap, ifS_ap, ifK_ap, setS_ap, setK_ap, asgS_ap, asgK_ap, asgJ_ap, nameG_ap, nilG_ap, consG_ap, consGK_ap, fnF_ap, fnK_nx, fnK_rt, forS_ap, forK_ap, negD_ap, addI_ap, varK_ap, startE, yes2, isN, List.map_cons, List.map_nil, List.length_cons, List.length_nil, List.replicate, List.append_nil, List.cons_append, List.nil_append, List.getElem?_cons_zero, List.getElem?_cons_succ, List.set_cons_zero, List.set_cons_succ, R.bind_ok, R.bind_ex, R.bind_bad, R.noex_ok, if_true, if_false, Bool.false_eq_true, Bool.true_eq_false, ite_true, ite_false, reduceIte, Nat.reduceAdd, Nat.reduceSub, Nat.zero_add, Nat.sub_self, Nat.sub_zero, decide_true, decide_false, Bool.not_true, Bool.not_false, subD_ap, ltD_ap, leD_ap, gtD_ap, geD_ap, mulD_ap, modD_ap, divD_ap, powD_ap, tupK_ok, lstK_ok, methK_ok, tupG_ok, eqS_t, eqS_f, neS_t, neS_f, eqI_ap, neI_ap, inT_nil, inT_hit, inT_miss, ne_eq, not_false_eq_true, b_look, jx0, jx1, h1, h2, nb, callN_ap, callNK_ap, sz (by decide : 7 ≤ 100), sz (by decide : 3 ≤ 100)]
  · rw [outN z1] at h1
    refine ⟨S1, ?_, l1⟩
    rw [fd_pos (by omega), outN z1, f_look_s]
    simp -implicitDefEqProofs +decide only [varF_ap, cF_ap, opF_ap, opK_ap, bF_ap, boolK_ap, andT_ap, andK_ap, orT_ap, orK_ap, notT_ap, notK_ap, yesT_ap, andV_ap, andVK_ap, orV_ap, orVK_ap, notV_ap, notVK_ap, ifF_ap, ifFK_ap, nilA_ap, consA_ap, consK_ap, consJ_ap, tupA_ap, lstA_ap, newO_ap, dicF_ap, callF_ap, un1_ap, methF_ap, nonO_ap, someO_ap, someK_ap, slF_ap, slK_ap, slJ_ap, itF_ap, itA_ap, nilS_ap, bkS_ap, ctS_ap, seqS_ap, seqK_nx, seqK_rt, seqK_bk, seqK_ct, dropS_ap, dropK_ap, retS_ap, retK_ap, retN_ap, ifS_ap, ifK_ap, setS_ap, setK_ap, asgS_ap, asgK_ap, asgJ_ap, nameG_ap, nilG_ap, consG_ap, consGK_ap, fnF_ap, fnK_nx, fnK_rt, forS_ap, forK_ap, negD_ap, addI_ap, varK_ap, startE, yes2, isN, List.map_cons, List.map_nil, List.length_cons, List.length_nil, List.replicate, List.append_nil, List.cons_append, List.nil_append, List.getElem?_cons_zero, List.getElem?_cons_succ, List.set_cons_zero, List.set_cons_succ, R.bind_ok, R.bind_ex, R.bind_bad, R.noex_ok, if_true, if_false, Bool.false_eq_true, Bool.true_eq_false, ite_true, ite_false, reduceIte, Nat.reduceAdd, Nat.reduceSub, Nat.zero_add, Nat.sub_self, Nat.sub_zero, decide_true, decide_false, Bool.not_true, Bool.not_false, subD_ap, ltD_ap, leD_ap, gtD_ap, geD_ap, mulD_ap, modD_ap, divD_ap, powD_ap, tupK_ok, lstK_ok, methK_ok, tupG_ok, eqS_t, eqS_f, neS_t, neS_f, eqI_ap, neI_ap, inT_nil, inT_hit, inT_miss, ne_eq, not_false_eq_true, b_look, jx0, jx1, h1, callN_ap, callNK_ap, sz (by decide : 7 ≤ 100), sz (by decide : 3 ≤ 100)]
theorem look_cols {n : Nat} {es : List VL.D} (hqa : 0 ≤ qa) (ha : LookR P a x qa da) (hn : n ≤ 6) (he : ∀ e ∈ es, PlOk n e) (hle : es.length ≤ 12) : LookR P (.tup [.str "cols", a, .tup es]) es.length (fd [qa, bey (plcs es) x]) (1 + da) := fun d hd W m st hm hk hl hP => by
  obtain ⟨d, rfl⟩ : ∃ k, d = k + 1 := ⟨d - 1, by omega⟩
  obtain ⟨S1, h1, l1⟩ := ha d (by omega) W m st hm hk (by omega) hP
  by_cases z1 : qa = 0
  · subst z1
    rw [out0] at h1
    rw [fd_0]
    obtain ⟨r, S2, h2, l2, g2⟩ := pl_cols (a := a) hn he hle S1
    refine ⟨S2, ?_, l1.trans l2⟩
    cases hb : (plcs es).any fun p => decide (p ≥ x) with
    | true =>
      have nb := nb_yes g2 hb
      have bv : bey (plcs es) x = 2 := if_pos hb
      rw [bv, fd_pos (by decide), outN (by decide), f_look_s]
      simp -implicitDefEqProofs +decide only [varF_ap, cF_ap, opF_ap, opK_ap, bF_ap, boolK_ap, andT_ap, andK_ap, orT_ap, orK_ap, notT_ap, notK_ap, yesT_ap, andV_ap, andVK_ap, orV_ap, orVK_ap, notV_ap, notVK_ap, ifF_ap, ifFK_ap, nilA_ap, consA_ap, consK_ap, consJ_ap, tupA_ap, lstA_ap, newO_ap, dicF_ap, callF_ap, un1_ap, methF_ap, nonO_ap, someO_ap, someK_ap, slF_ap, slK_ap, slJ_ap, itF_ap, itA_ap, nilS_ap, bkS_ap, ctS_ap, seqS_ap, seqK_nx, seqK_rt, seqK_bk, seqK_ct, dropS_ap, dropK_ap, retS_ap, retK_ap, retN_ap, ifS_ap, ifK_ap, setS_ap, setK_ap, asgS_ap, asgK_ap, asgJ_ap, nameG_ap, nilG_ap, consG_ap, consGK_ap, fnF_ap, fnK_nx, fnK_rt, forS_ap, forK_ap, negD_ap, addI_ap, varK_ap, startE, yes2, isN, List.map_cons, List.map_nil, List.length_cons, List.length_nil, List.replicate, List.append_nil, List.cons_append, List.nil_append, List.getElem?_cons_zero, List.getElem?_cons_succ, List.set_cons_zero, List.set_cons_succ, R.bind_ok, R.bind_ex, R.bind_bad, R.noex_ok, if_true, if_false, Bool.false_eq_true, Bool.true_eq_false, ite_true, ite_false, reduceIte, Nat.reduceAdd, Nat.reduceSub, Nat.zero_add, Nat.sub_self, Nat.sub_zero, decide_true, decide_false, Bool.not_true, Bool.not_false, subD_ap, ltD_ap, leD_ap, gtD_ap, geD_ap, mulD_ap, modD_ap, divD_ap, powD_ap, tupK_ok, lstK_ok, methK_ok, tupG_ok, eqS_t, eqS_f, neS_t, neS_f, eqI_ap, neI_ap, inT_nil, inT_hit, inT_miss, ne_eq, not_false_eq_true, b_look, jx0, jx1, jx2, lenD_tup, h1, h2, nb, callN_ap, callNK_ap, sz (by decide : 7 ≤ 100), sz (by decide : 3 ≤ 100)]; rfl
    | false =>
      have nb := nb_no g2 hb
      have bv : bey (plcs es) x = 0 := if_neg (by rw [hb]; exact Bool.false_ne_true)
      rw [bv, fd_0]
      rw [fd_nil, out0, f_look_s]
      simp -implicitDefEqProofs +decide only [varF_ap, cF_ap, opF_ap, opK_ap, bF_ap, boolK_ap, andT_ap, andK_ap, orT_ap, orK_ap, notT_ap, notK_ap, yesT_ap, andV_ap, andVK_ap, orV_ap, orVK_ap, notV_ap, notVK_ap, ifF_ap, ifFK_ap, nilA_ap, consA_ap, consK_ap, consJ_ap, tupA_ap, lstA_ap, newO_ap, dicF_ap, callF_ap, un1_ap, methF_ap, nonO_ap, someO_ap, someK_ap, slF_ap, slK_ap, slJ_ap, itF_ap, itA_ap, nilS_ap, bkS_ap, ctS_ap, seqS_ap, seqK_nx, seqK_rt, seqK_bk, seqK_ct, dropS_ap, dropK_ap, retS_ap, retK_ap, retN_ap, ifS_ap, ifK_ap, setS_ap, setK_ap, asgS_ap, asgK_ap, asgJ_ap, nameG_ap, nilG_ap, consG_ap, consGK_ap, fnF_ap, fnK_nx, fnK_rt, forS_ap, forK_ap, negD_ap, addI_ap, varK_ap, startE, yes2, isN, List.map_cons, List.map_nil, List.length_cons, List.length_nil, List.replicate, List.append_nil, List.cons_append, List.nil_append, List.getElem?_cons_zero, List.getElem?_cons_succ, List.set_cons_zero, List.set_cons_succ, R.bind_ok, R.bind_ex, R.bind_bad, R.noex_ok, if_true, if_false, Bool.false_eq_true, Bool.true_eq_false, ite_true, ite_false, reduceIte, Nat.reduceAdd, Nat.reduceSub, Nat.zero_add, Nat.sub_self, Nat.sub_zero, decide_true, decide_false, Bool.not_true, Bool.not_false, subD_ap, ltD_ap, leD_ap, gtD_ap, geD_ap, mulD_ap, modD_ap, divD_ap, powD_ap, tupK_ok, lstK_ok, methK_ok, tupG_ok, eqS_t, eqS_f, neS_t, neS_f, eqI_ap, neI_ap, inT_nil, inT_hit, inT_miss, ne_eq, not_false_eq_true, b_look, jx0, jx1, jx2, lenD_tup, h1, h2, nb, callN_ap, callNK_ap, sz (by decide : 7 ≤ 100), sz (by decide : 3 ≤ 100)]
  · rw [outN z1] at h1
    refine ⟨S1, ?_, l1⟩
    rw [fd_pos (by omega), outN z1, f_look_s]
    simp -implicitDefEqProofs +decide only [varF_ap, cF_ap, opF_ap, opK_ap, bF_ap, boolK_ap, andT_ap, andK_ap, orT_ap, orK_ap, notT_ap, notK_ap, yesT_ap, andV_ap, andVK_ap, orV_ap, orVK_ap, notV_ap, notVK_ap, ifF_ap, ifFK_ap, nilA_ap, consA_ap, consK_ap, consJ_ap, tupA_ap, lstA_ap, newO_ap, dicF_ap, callF_ap, un1_ap, methF_ap, nonO_ap, someO_ap, someK_ap, slF_ap, slK_ap, slJ_ap, itF_ap, itA_ap, nilS_ap, bkS_ap, ctS_ap, seqS_ap, seqK_nx, seqK_rt, seqK_bk, seqK_ct, dropS_ap, dropK_ap, retS_ap, retK_ap, retN_ap, ifS_ap, ifK_ap, setS_ap, setK_ap, asgS_ap, asgK_ap, asgJ_ap, nameG_ap, nilG_ap, consG_ap, consGK_ap, fnF_ap, fnK_nx, fnK_rt, forS_ap, forK_ap, negD_ap, addI_ap, varK_ap, startE, yes2, isN, List.map_cons, List.map_nil, List.length_cons, List.length_nil, List.replicate, List.append_nil, List.cons_append, List.nil_append, List.getElem?_cons_zero, List.getElem?_cons_succ, List.set_cons_zero, List.set_cons_succ, R.bind_ok, R.bind_ex, R.bind_bad, R.noex_ok, if_true, if_false, Bool.false_eq_true, Bool.true_eq_false, ite_true, ite_false, reduceIte, Nat.reduceAdd, Nat.reduceSub, Nat.zero_add, Nat.sub_self, Nat.sub_zero, decide_true, decide_false, Bool.not_true, Bool.not_false, subD_ap, ltD_ap, leD_ap, gtD_ap, geD_ap, mulD_ap, modD_ap, divD_ap, powD_ap, tupK_ok, lstK_ok, methK_ok, tupG_ok, eqS_t, eqS_f, neS_t, neS_f, eqI_ap, neI_ap, inT_nil, inT_hit, inT_miss, ne_eq, not_false_eq_true, b_look, jx0, jx1, jx2, lenD_tup, h1, callN_ap, callNK_ap, sz (by decide : 7 ≤ 100), sz (by decide : 3 ≤ 100)]
theorem look_count {by_ : List Int} (hqa : 0 ≤ qa) (ha : LookR P a x qa da) : LookR P (.tup [.str "count", a, .tup (by_.map .int)]) (by_.length + 1) (fd [qa, bey (by_) x, wd ((by_.length : Int) + 1)]) (1 + da) := fun d hd W m st hm hk hl hP => by
  obtain ⟨d, rfl⟩ : ∃ k, d = k + 1 := ⟨d - 1, by omega⟩
  obtain ⟨S1, h1, l1⟩ := ha d (by omega) W m st hm hk (by omega) hP
  by_cases z1 : qa = 0
  · subst z1
    rw [out0] at h1
    rw [fd_0]
    obtain ⟨r, S2, h2, l2, g2⟩ := pl_count (a := a) (by_ := by_) S1
    refine ⟨S2, ?_, l1.trans l2⟩
    cases hb : (by_).any fun p => decide (p ≥ x) with
    | true =>
      have nb := nb_yes g2 hb
      have bv : bey (by_) x = 2 := if_pos hb
      rw [bv, fd_pos (by decide), outN (by decide), f_look_s]
      simp -implicitDefEqProofs +decide only [varF_ap, cF_ap, opF_ap, opK_ap, bF_ap, boolK_ap, andT_ap, andK_ap, orT_ap, orK_ap, notT_ap, notK_ap, yesT_ap, andV_ap, andVK_ap, orV_ap, orVK_ap, notV_ap, notVK_ap, ifF_ap, ifFK_ap, nilA_ap, consA_ap, consK_ap, consJ_ap, tupA_ap, lstA_ap, newO_ap, dicF_ap, callF_ap, un1_ap, methF_ap, nonO_ap, someO_ap, someK_ap, slF_ap, slK_ap, slJ_ap, itF_ap, itA_ap, nilS_ap, bkS_ap, ctS_ap, seqS_ap, seqK_nx, seqK_rt, seqK_bk, seqK_ct, dropS_ap, dropK_ap, retS_ap, retK_ap, retN_ap, ifS_ap, ifK_ap, setS_ap, setK_ap, asgS_ap, asgK_ap, asgJ_ap, nameG_ap, nilG_ap, consG_ap, consGK_ap, fnF_ap, fnK_nx, fnK_rt, forS_ap, forK_ap, negD_ap, addI_ap, varK_ap, startE, yes2, isN, List.map_cons, List.map_nil, List.length_cons, List.length_nil, List.replicate, List.append_nil, List.cons_append, List.nil_append, List.getElem?_cons_zero, List.getElem?_cons_succ, List.set_cons_zero, List.set_cons_succ, R.bind_ok, R.bind_ex, R.bind_bad, R.noex_ok, if_true, if_false, Bool.false_eq_true, Bool.true_eq_false, ite_true, ite_false, reduceIte, Nat.reduceAdd, Nat.reduceSub, Nat.zero_add, Nat.sub_self, Nat.sub_zero, decide_true, decide_false, Bool.not_true, Bool.not_false, subD_ap, ltD_ap, leD_ap, gtD_ap, geD_ap, mulD_ap, modD_ap, divD_ap, powD_ap, tupK_ok, lstK_ok, methK_ok, tupG_ok, eqS_t, eqS_f, neS_t, neS_f, eqI_ap, neI_ap, inT_nil, inT_hit, inT_miss, ne_eq, not_false_eq_true, b_look, jx0, jx1, jx2, lenD_tup, List.length_map, h1, h2, nb, callN_ap, callNK_ap, sz (by decide : 7 ≤ 100), sz (by decide : 3 ≤ 100)]; rfl
    | false =>
      have nb := nb_no g2 hb
      have bv : bey (by_) x = 0 := if_neg (by rw [hb]; exact Bool.false_ne_true)
      rw [bv, fd_0]
      by_cases h12 : ((by_.length : Int) + 1) > 12
      · have nw := nw_yes (st := S2) h12
        have wv : wd ((by_.length : Int) + 1) = 4 := if_pos h12
        rw [wv, fd_pos (by decide), outN (by decide), f_look_s]
        simp -implicitDefEqProofs +decide only [varF_ap, cF_ap, opF_ap, opK_ap, bF_ap, boolK_ap, andT_ap, andK_ap, orT_ap, orK_ap, notT_ap, notK_ap, yesT_ap, andV_ap, andVK_ap, orV_ap, orVK_ap, notV_ap, notVK_ap, ifF_ap, ifFK_ap, nilA_ap, consA_ap, consK_ap, consJ_ap, tupA_ap, lstA_ap, newO_ap, dicF_ap, callF_ap, un1_ap, methF_ap, nonO_ap, someO_ap, someK_ap, slF_ap, slK_ap, slJ_ap, itF_ap, itA_ap, nilS_ap, bkS_ap, ctS_ap, seqS_ap, seqK_nx, seqK_rt, seqK_bk, seqK_ct, dropS_ap, dropK_ap, retS_ap, retK_ap, retN_ap, ifS_ap, ifK_ap, setS_ap, setK_ap, asgS_ap, asgK_ap, asgJ_ap, nameG_ap, nilG_ap, consG_ap, consGK_ap, fnF_ap, fnK_nx, fnK_rt, forS_ap, forK_ap, negD_ap, addI_ap, varK_ap, startE, yes2, isN, List.map_cons, List.map_nil, List.length_cons, List.length_nil, List.replicate, List.append_nil, List.cons_append, List.nil_append, List.getElem?_cons_zero, List.getElem?_cons_succ, List.set_cons_zero, List.set_cons_succ, R.bind_ok, R.bind_ex, R.bind_bad, R.noex_ok, if_true, if_false, Bool.false_eq_true, Bool.true_eq_false, ite_true, ite_false, reduceIte, Nat.reduceAdd, Nat.reduceSub, Nat.zero_add, Nat.sub_self, Nat.sub_zero, decide_true, decide_false, Bool.not_true, Bool.not_false, subD_ap, ltD_ap, leD_ap, gtD_ap, geD_ap, mulD_ap, modD_ap, divD_ap, powD_ap, tupK_ok, lstK_ok, methK_ok, tupG_ok, eqS_t, eqS_f, neS_t, neS_f, eqI_ap, neI_ap, inT_nil, inT_hit, inT_miss, ne_eq, not_false_eq_true, b_look, jx0, jx1, jx2, lenD_tup, List.length_map, h1, h2, nb, nw, callN_ap, callNK_ap, sz (by decide : 7 ≤ 100), sz (by decide : 3 ≤ 100)]; rfl
      · have nw := nw_no (st := S2) h12
        have wv : wd ((by_.length : Int) + 1) = 0 := if_neg h12
        rw [wv, fd_0, fd_nil, out0, f_look_s]
        simp -implicitDefEqProofs +decide only [varF_ap, cF_ap, opF_ap, opK_ap, bF_ap, boolK_ap, andT_ap, andK_ap, orT_ap, orK_ap, notT_ap, notK_ap, yesT_ap, andV_ap, andVK_ap, orV_ap, orVK_ap, notV_ap, notVK_ap, ifF_ap, ifFK_ap, nilA_ap, consA_ap, consK_ap, consJ_ap, tupA_ap, lstA_ap, newO_ap, dicF_ap, callF_ap, un1_ap, methF_ap, nonO_ap, someO_ap, someK_ap, slF_ap, slK_ap, slJ_ap, itF_ap, itA_ap, nilS_ap, bkS_ap, ctS_ap, seqS_ap, seqK_nx, seqK_rt, seqK_bk, seqK_ct, dropS_ap, dropK_ap, retS_ap, retK_ap, retN_ap, ifS_ap, ifK_ap, setS_ap, setK_ap, asgS_ap, asgK_ap, asgJ_ap, nameG_ap, nilG_ap, consG_ap, consGK_ap, fnF_ap, fnK_nx, fnK_rt, forS_ap, forK_ap, negD_ap, addI_ap, varK_ap, startE, yes2, isN, List.map_cons, List.map_nil, List.length_cons, List.length_nil, List.replicate, List.append_nil, List.cons_append, List.nil_append, List.getElem?_cons_zero, List.getElem?_cons_succ, List.set_cons_zero, List.set_cons_succ, R.bind_ok, R.bind_ex, R.bind_bad, R.noex_ok, if_true, if_false, Bool.false_eq_true, Bool.true_eq_false, ite_true, ite_false, reduceIte, Nat.reduceAdd, Nat.reduceSub, Nat.zero_add, Nat.sub_self, Nat.sub_zero, decide_true, decide_false, Bool.not_true, Bool.not_false, subD_ap, ltD_ap, leD_ap, gtD_ap, geD_ap, mulD_ap, modD_ap, divD_ap, powD_ap, tupK_ok, lstK_ok, methK_ok, tupG_ok, eqS_t, eqS_f, neS_t, neS_f, eqI_ap, neI_ap, inT_nil, inT_hit, inT_miss, ne_eq, not_false_eq_true, b_look, jx0, jx1, jx2, lenD_tup, List.length_map, h1, h2, nb, nw, callN_ap, callNK_ap, sz (by decide : 7 ≤ 100), sz (by decide : 3 ≤ 100)]
  · rw [outN z1] at h1
    refine ⟨S1, ?_, l1⟩
    rw [fd_pos (by omega), outN z1, f_look_s]
    simp -implicitDefEqProofs +decide only [varF_ap, cF_ap, opF_ap, opK_ap, bF_ap, boolK_ap, andT_ap, andK_ap, orT_ap, orK_ap, notT_ap, notK_ap, yesT_ap, andV_ap, andVK_ap, orV_ap, orVK_ap, notV_ap, notVK_ap, ifF_ap, ifFK_ap, nilA_ap, consA_ap, consK_ap, consJ_ap, tupA_ap, lstA_ap, newO_ap, dicF_ap, callF_ap, un1_ap, methF_ap, nonO_ap, someO_ap, someK_ap, slF_ap, slK_ap, slJ_ap, itF_ap, itA_ap, nilS_ap, bkS_ap, ctS_ap, seqS_ap, seqK_nx, seqK_rt, seqK_bk, seqK_ct, dropS_ap, dropK_ap, retS_ap, retK_ap, retN_ap, ifS_ap, ifK_ap, setS_ap, setK_ap, asgS_ap, asgK_ap, asgJ_ap, nameG_ap, nilG_ap, consG_ap, consGK_ap, fnF_ap, fnK_nx, fnK_rt, forS_ap, forK_ap, negD_ap, addI_ap, varK_ap, startE, yes2, isN, List.map_cons, List.map_nil, List.length_cons, List.length_nil, List.replicate, List.append_nil, List.cons_append, List.nil_append, List.getElem?_cons_zero, List.getElem?_cons_succ, List.set_cons_zero, List.set_cons_succ, R.bind_ok, R.bind_ex, R.bind_bad, R.noex_ok, if_true, if_false, Bool.false_eq_true, Bool.true_eq_false, ite_true, ite_false, reduceIte, Nat.reduceAdd, Nat.reduceSub, Nat.zero_add, Nat.sub_self, Nat.sub_zero, decide_true, decide_false, Bool.not_true, Bool.not_false, subD_ap, ltD_ap, leD_ap, gtD_ap, geD_ap, mulD_ap, modD_ap, divD_ap, powD_ap, tupK_ok, lstK_ok, methK_ok, tupG_ok, eqS_t, eqS_f, neS_t, neS_f, eqI_ap, neI_ap, inT_nil, inT_hit, inT_miss, ne_eq, not_false_eq_true, b_look, jx0, jx1, jx2, lenD_tup, List.length_map, h1, callN_ap, callNK_ap, sz (by decide : 7 ≤ 100), sz (by decide : 3 ≤ 100)]
theorem look_sums {by_ : List Int} {p : Int} (hw : w ∈ sums) (hqa : 0 ≤ qa) (ha : LookR P a x qa da) (hlb : by_.length ≤ 100) : LookR P (.tup [.str w, a, .int p, .tup (by_.map .int)]) (by_.length + 1) (fd [qa, bey (by_ ++ [p]) x, wd ((by_.length : Int) + 1)]) (1 + da) := fun d hd W m st hm hk hl hP => by
  obtain ⟨d, rfl⟩ : ∃ k, d = k + 1 := ⟨d - 1, by omega⟩
  obtain ⟨S1, h1, l1⟩ := ha d (by omega) W m st hm hk (by omega) hP
  by_cases z1 : qa = 0
  · subst z1
    rw [out0] at h1
    rw [fd_0]
    obtain ⟨r, S2, h2, l2, g2⟩ := pl_sums (a := a) (p := p) hw hlb S1
    refine ⟨S2, ?_, l1.trans l2⟩
    cases hb : (by_ ++ [p]).any fun p => decide (p ≥ x) with
    | true =>
      have nb := nb_yes g2 hb
      have bv : bey (by_ ++ [p]) x = 2 := if_pos hb
      rw [bv, fd_pos (by decide), outN (by decide), f_look_s]
      simp only [sums, List.mem_cons, List.not_mem_nil, or_false] at hw
      rcases hw with rfl | rfl | rfl <;> (simp -implicitDefEqProofs +decide only [varF_ap, cF_ap, opF_ap, opK_ap, bF_ap, boolK_ap, andT_ap, andK_ap, orT_ap, orK_ap, notT_ap, notK_ap, yesT_ap, andV_ap, andVK_ap, orV_ap, orVK_ap, notV_ap, notVK_ap, ifF_ap, ifFK_ap, nilA_ap, consA_ap, consK_ap, consJ_ap, tupA_ap, lstA_ap, newO_ap, dicF_ap, callF_ap, un1_ap, methF_ap, nonO_ap, someO_ap, someK_ap, slF_ap, slK_ap, slJ_ap, itF_ap, itA_ap, nilS_ap, bkS_ap, ctS_ap, seqS_ap, seqK_nx, seqK_rt, seqK_bk, seqK_ct, dropS_ap, dropK_ap, retS_ap, retK_ap, retN_ap, ifS_ap, ifK_ap, setS_ap, setK_ap, asgS_ap, asgK_ap, asgJ_ap, nameG_ap, nilG_ap, consG_ap, consGK_ap, fnF_ap, fnK_nx, fnK_rt, forS_ap, forK_ap, negD_ap, addI_ap, varK_ap, startE, yes2, isN, List.map_cons, List.map_nil, List.length_cons, List.length_nil, List.replicate, List.append_nil, List.cons_append, List.nil_append, List.getElem?_cons_zero, List.getElem?_cons_succ, List.set_cons_zero, List.set_cons_succ, R.bind_ok, R.bind_ex, R.bind_bad, R.noex_ok, if_true, if_false, Bool.false_eq_true, Bool.true_eq_false, ite_true, ite_false, reduceIte, Nat.reduceAdd, Nat.reduceSub, Nat.zero_add, Nat.sub_self, Nat.sub_zero, decide_true, decide_false, Bool.not_true, Bool.not_false, subD_ap, ltD_ap, leD_ap, gtD_ap, geD_ap, mulD_ap, modD_ap, divD_ap, powD_ap, tupK_ok, lstK_ok, methK_ok, tupG_ok, eqS_t, eqS_f, neS_t, neS_f, eqI_ap, neI_ap, inT_nil, inT_hit, inT_miss, ne_eq, not_false_eq_true, b_look, jx0, jx1, jx3, lenD_tup, List.length_map, h1, h2, nb, callN_ap, callNK_ap, sz (by decide : 7 ≤ 100), sz (by decide : 3 ≤ 100)]; rfl)
    | false =>
      have nb := nb_no g2 hb
      have bv : bey (by_ ++ [p]) x = 0 := if_neg (by rw [hb]; exact Bool.false_ne_true)
      rw [bv, fd_0]
      by_cases h12 : ((by_.length : Int) + 1) > 12
      · have nw := nw_yes (st := S2) h12
        have wv : wd ((by_.length : Int) + 1) = 4 := if_pos h12
        rw [wv, fd_pos (by decide), outN (by decide), f_look_s]
        simp only [sums, List.mem_cons, List.not_mem_nil, or_false] at hw
        rcases hw with rfl | rfl | rfl <;> (simp -implicitDefEqProofs +decide only [varF_ap, cF_ap, opF_ap, opK_ap, bF_ap, boolK_ap, andT_ap, andK_ap, orT_ap, orK_ap, notT_ap, notK_ap, yesT_ap, andV_ap, andVK_ap, orV_ap, orVK_ap, notV_ap, notVK_ap, ifF_ap, ifFK_ap, nilA_ap, consA_ap, consK_ap, consJ_ap, tupA_ap, lstA_ap, newO_ap, dicF_ap, callF_ap, un1_ap, methF_ap, nonO_ap, someO_ap, someK_ap, slF_ap, slK_ap, slJ_ap, itF_ap, itA_ap, nilS_ap, bkS_ap, ctS_ap, seqS_ap, seqK_nx, seqK_rt, seqK_bk, seqK_ct, dropS_ap, dropK_ap, retS_ap, retK_ap, retN_ap, ifS_ap, ifK_ap, setS_ap, setK_ap, asgS_ap, asgK_ap, asgJ_ap, nameG_ap, nilG_ap, consG_ap, consGK_ap, fnF_ap, fnK_nx, fnK_rt, forS_ap, forK_ap, negD_ap, addI_ap, varK_ap, startE, yes2, isN, List.map_cons, List.map_nil, List.length_cons, List.length_nil, List.replicate, List.append_nil, List.cons_append, List.nil_append, List.getElem?_cons_zero, List.getElem?_cons_succ, List.set_cons_zero, List.set_cons_succ, R.bind_ok, R.bind_ex, R.bind_bad, R.noex_ok, if_true, if_false, Bool.false_eq_true, Bool.true_eq_false, ite_true, ite_false, reduceIte, Nat.reduceAdd, Nat.reduceSub, Nat.zero_add, Nat.sub_self, Nat.sub_zero, decide_true, decide_false, Bool.not_true, Bool.not_false, subD_ap, ltD_ap, leD_ap, gtD_ap, geD_ap, mulD_ap, modD_ap, divD_ap, powD_ap, tupK_ok, lstK_ok, methK_ok, tupG_ok, eqS_t, eqS_f, neS_t, neS_f, eqI_ap, neI_ap, inT_nil, inT_hit, inT_miss, ne_eq, not_false_eq_true, b_look, jx0, jx1, jx3, lenD_tup, List.length_map, h1, h2, nb, nw, callN_ap, callNK_ap, sz (by decide : 7 ≤ 100), sz (by decide : 3 ≤ 100)]; rfl)
      · have nw := nw_no (st := S2) h12
        have wv : wd ((by_.length : Int) + 1) = 0 := if_neg h12
        rw [wv, fd_0, fd_nil, out0, f_look_s]
        simp only [sums, List.mem_cons, List.not_mem_nil, or_false] at hw
        rcases hw with rfl | rfl | rfl <;> simp -implicitDefEqProofs +decide only [varF_ap, cF_ap, opF_ap, opK_ap, bF_ap, boolK_ap, andT_ap, andK_ap, orT_ap, orK_ap, notT_ap, notK_ap, yesT_ap, andV_ap, andVK_ap, orV_ap, orVK_ap, notV_ap, notVK_ap, ifF_ap, ifFK_ap, nilA_ap, consA_ap, consK_ap, consJ_ap, tupA_ap, lstA_ap, newO_ap, dicF_ap, callF_ap, un1_ap, methF_ap, nonO_ap, someO_ap, someK_ap, slF_ap, slK_ap, slJ_ap, itF_ap, itA_ap, nilS_ap, bkS_ap, ctS_ap, seqS_ap, seqK_nx, seqK_rt, seqK_bk, seqK_ct, dropS_ap, dropK_ap, retS_ap, retK_ap, retN_ap, ifS_ap, ifK_ap, setS_ap, setK_ap, asgS_ap, asgK_ap, asgJ_ap, nameG_ap, nilG_ap, consG_ap, consGK_ap, fnF_ap, fnK_nx, fnK_rt, forS_ap, forK_ap, negD_ap, addI_ap, varK_ap, startE, yes2, isN, List.map_cons, List.map_nil, List.length_cons, List.length_nil, List.replicate, List.append_nil, List.cons_append, List.nil_append, List.getElem?_cons_zero, List.getElem?_cons_succ, List.set_cons_zero, List.set_cons_succ, R.bind_ok, R.bind_ex, R.bind_bad, R.noex_ok, if_true, if_false, Bool.false_eq_true, Bool.true_eq_false, ite_true, ite_false, reduceIte, Nat.reduceAdd, Nat.reduceSub, Nat.zero_add, Nat.sub_self, Nat.sub_zero, decide_true, decide_false, Bool.not_true, Bool.not_false, subD_ap, ltD_ap, leD_ap, gtD_ap, geD_ap, mulD_ap, modD_ap, divD_ap, powD_ap, tupK_ok, lstK_ok, methK_ok, tupG_ok, eqS_t, eqS_f, neS_t, neS_f, eqI_ap, neI_ap, inT_nil, inT_hit, inT_miss, ne_eq, not_false_eq_true, b_look, jx0, jx1, jx3, lenD_tup, List.length_map, h1, h2, nb, nw, callN_ap, callNK_ap, sz (by decide : 7 ≤ 100), sz (by decide : 3 ≤ 100)]
  · rw [outN z1] at h1
    refine ⟨S1, ?_, l1⟩
    rw [fd_pos (by omega), outN z1, f_look_s]
    simp only [sums, List.mem_cons, List.not_mem_nil, or_false] at hw
    rcases hw with rfl | rfl | rfl <;> simp -implicitDefEqProofs +decide only [varF_ap, cF_ap, opF_ap, opK_ap, bF_ap, boolK_ap, andT_ap, andK_ap, orT_ap, orK_ap, notT_ap, notK_ap, yesT_ap, andV_ap, andVK_ap, orV_ap, orVK_ap, notV_ap, notVK_ap, ifF_ap, ifFK_ap, nilA_ap, consA_ap, consK_ap, consJ_ap, tupA_ap, lstA_ap, newO_ap, dicF_ap, callF_ap, un1_ap, methF_ap, nonO_ap, someO_ap, someK_ap, slF_ap, slK_ap, slJ_ap, itF_ap, itA_ap, nilS_ap, bkS_ap, ctS_ap, seqS_ap, seqK_nx, seqK_rt, seqK_bk, seqK_ct, dropS_ap, dropK_ap, retS_ap, retK_ap, retN_ap, ifS_ap, ifK_ap, setS_ap, setK_ap, asgS_ap, asgK_ap, asgJ_ap, nameG_ap, nilG_ap, consG_ap, consGK_ap, fnF_ap, fnK_nx, fnK_rt, forS_ap, forK_ap, negD_ap, addI_ap, varK_ap, startE, yes2, isN, List.map_cons, List.map_nil, List.length_cons, List.length_nil, List.replicate, List.append_nil, List.cons_append, List.nil_append, List.getElem?_cons_zero, List.getElem?_cons_succ, List.set_cons_zero, List.set_cons_succ, R.bind_ok, R.bind_ex, R.bind_bad, R.noex_ok, if_true, if_false, Bool.false_eq_true, Bool.true_eq_false, ite_true, ite_false, reduceIte, Nat.reduceAdd, Nat.reduceSub, Nat.zero_add, Nat.sub_self, Nat.sub_zero, decide_true, decide_false, Bool.not_true, Bool.not_false, subD_ap, ltD_ap, leD_ap, gtD_ap, geD_ap, mulD_ap, modD_ap, divD_ap, powD_ap, tupK_ok, lstK_ok, methK_ok, tupG_ok, eqS_t, eqS_f, neS_t, neS_f, eqI_ap, neI_ap, inT_nil, inT_hit, inT_miss, ne_eq, not_false_eq_true, b_look, jx0, jx1, jx3, lenD_tup, List.length_map, h1, callN_ap, callNK_ap, sz (by decide : 7 ≤ 100), sz (by decide : 3 ≤ 100)]
theorem look_first {by_ : List Int} {k : Int} {os : List (Int × Bool)} (hqa : 0 ≤ qa) (ha : LookR P a x qa da) (hl1 : by_.length ≤ 100) (hl2 : os.length ≤ 100) : LookR P (.tup [.str "first", a, .int k, .tup (by_.map .int), .tup (os.map orD)]) x (fd [qa, bey (by_ ++ os.map (·.1)) x]) (1 + da) := fun d hd W m st hm hk hl hP => by
  obtain ⟨d, rfl⟩ : ∃ k, d = k + 1 := ⟨d - 1, by omega⟩
  obtain ⟨S1, h1, l1⟩ := ha d (by omega) W m st hm hk (by omega) hP
  by_cases z1 : qa = 0
  · subst z1
    rw [out0] at h1
    rw [fd_0]
    obtain ⟨r, S2, h2, l2, g2⟩ := pl_first (a := a) (k := k) hl1 hl2 S1
    refine ⟨S2, ?_, l1.trans l2⟩
    cases hb : (by_ ++ os.map (·.1)).any fun p => decide (p ≥ x) with
    | true =>
      have nb := nb_yes g2 hb
      have bv : bey (by_ ++ os.map (·.1)) x = 2 := if_pos hb
      rw [bv, fd_pos (by decide), outN (by decide), f_look_s]
      simp -implicitDefEqProofs +decide only [varF_ap, cF_ap, opF_ap, opK_ap, bF_ap, boolK_ap, andT_ap, andK_ap, orT_ap, orK_ap, notT_ap, notK_ap, yesT_ap, andV_ap, andVK_ap, orV_ap, orVK_ap, notV_ap, notVK_ap, ifF_ap, ifFK_ap, nilA_ap, consA_ap, consK_ap, consJ_ap, tupA_ap, lstA_ap, newO_ap, dicF_ap, callF_ap, un1_ap, methF_ap, nonO_ap, someO_ap, someK_ap, slF_ap, slK_ap, slJ_ap, itF_ap, itA_ap, nilS_ap, bkS_ap, ctS_ap, seqS_ap, seqK_nx, seqK_rt, seqK_bk, seqK_ct, dropS_ap, dropK_ap, retS_ap, retK_ap, retN_ap, ifS_ap, ifK_ap, setS_ap, setK_ap, asgS_ap, asgK_ap, asgJ_ap, nameG_ap, nilG_ap, consG_ap, consGK_ap, fnF_ap, fnK_nx, fnK_rt, forS_ap, forK_ap, negD_ap, addI_ap, varK_ap, startE, yes2, isN, List.map_cons, List.map_nil, List.length_cons, List.length_nil, List.replicate, List.append_nil, List.cons_append, List.nil_append, List.getElem?_cons_zero, List.getElem?_cons_succ, List.set_cons_zero, List.set_cons_succ, R.bind_ok, R.bind_ex, R.bind_bad, R.noex_ok, if_true, if_false, Bool.false_eq_true, Bool.true_eq_false, ite_true, ite_false, reduceIte, Nat.reduceAdd, Nat.reduceSub, Nat.zero_add, Nat.sub_self, Nat.sub_zero, decide_true, decide_false, Bool.not_true, Bool.not_false, subD_ap, ltD_ap, leD_ap, gtD_ap, geD_ap, mulD_ap, modD_ap, divD_ap, powD_ap, tupK_ok, lstK_ok, methK_ok, tupG_ok, eqS_t, eqS_f, neS_t, neS_f, eqI_ap, neI_ap, inT_nil, inT_hit, inT_miss, ne_eq, not_false_eq_true, b_look, jx0, jx1, h1, h2, nb, callN_ap, callNK_ap, sz (by decide : 7 ≤ 100), sz (by decide : 3 ≤ 100)]; rfl
    | false =>
      have nb := nb_no g2 hb
      have bv : bey (by_ ++ os.map (·.1)) x = 0 := if_neg (by rw [hb]; exact Bool.false_ne_true)
      rw [bv, fd_0]
      rw [fd_nil, out0, f_look_s]
      simp -implicitDefEqProofs +decide only [varF_ap, cF_ap, opF_ap, opK_ap, bF_ap, boolK_ap, andT_ap, andK_ap, orT_ap, orK_ap, notT_ap, notK_ap, yesT_ap, andV_ap, andVK_ap, orV_ap, orVK_ap, notV_ap, notVK_ap, ifF_ap, ifFK_ap, nilA_ap, consA_ap, consK_ap, consJ_ap, tupA_ap, lstA_ap, newO_ap, dicF_ap, callF_ap, un1_ap, methF_ap, nonO_ap, someO_ap, someK_ap, slF_ap, slK_ap, slJ_ap, itF_ap, itA_ap, nilS_ap, bkS_ap, ctS_ap, seqS_ap, seqK_nx, seqK_rt, seqK_bk, seqK_ct, dropS_ap, dropK_ap, retS_ap, retK_ap, retN_ap, ifS_ap, ifK_ap, setS_ap, setK_ap, asgS_ap, asgK_ap, asgJ_ap, nameG_ap, nilG_ap, consG_ap, consGK_ap, fnF_ap, fnK_nx, fnK_rt, forS_ap, forK_ap, negD_ap, addI_ap, varK_ap, startE, yes2, isN, List.map_cons, List.map_nil, List.length_cons, List.length_nil, List.replicate, List.append_nil, List.cons_append, List.nil_append, List.getElem?_cons_zero, List.getElem?_cons_succ, List.set_cons_zero, List.set_cons_succ, R.bind_ok, R.bind_ex, R.bind_bad, R.noex_ok, if_true, if_false, Bool.false_eq_true, Bool.true_eq_false, ite_true, ite_false, reduceIte, Nat.reduceAdd, Nat.reduceSub, Nat.zero_add, Nat.sub_self, Nat.sub_zero, decide_true, decide_false, Bool.not_true, Bool.not_false, subD_ap, ltD_ap, leD_ap, gtD_ap, geD_ap, mulD_ap, modD_ap, divD_ap, powD_ap, tupK_ok, lstK_ok, methK_ok, tupG_ok, eqS_t, eqS_f, neS_t, neS_f, eqI_ap, neI_ap, inT_nil, inT_hit, inT_miss, ne_eq, not_false_eq_true, b_look, jx0, jx1, h1, h2, nb, callN_ap, callNK_ap, sz (by decide : 7 ≤ 100), sz (by decide : 3 ≤ 100)]
  · rw [outN z1] at h1
    refine ⟨S1, ?_, l1⟩
    rw [fd_pos (by omega), outN z1, f_look_s]
    simp -implicitDefEqProofs +decide only [varF_ap, cF_ap, opF_ap, opK_ap, bF_ap, boolK_ap, andT_ap, andK_ap, orT_ap, orK_ap, notT_ap, notK_ap, yesT_ap, andV_ap, andVK_ap, orV_ap, orVK_ap, notV_ap, notVK_ap, ifF_ap, ifFK_ap, nilA_ap, consA_ap, consK_ap, consJ_ap, tupA_ap, lstA_ap, newO_ap, dicF_ap, callF_ap, un1_ap, methF_ap, nonO_ap, someO_ap, someK_ap, slF_ap, slK_ap, slJ_ap, itF_ap, itA_ap, nilS_ap, bkS_ap, ctS_ap, seqS_ap, seqK_nx, seqK_rt, seqK_bk, seqK_ct, dropS_ap, dropK_ap, retS_ap, retK_ap, retN_ap, ifS_ap, ifK_ap, setS_ap, setK_ap, asgS_ap, asgK_ap, asgJ_ap, nameG_ap, nilG_ap, consG_ap, consGK_ap, fnF_ap, fnK_nx, fnK_rt, forS_ap, forK_ap, negD_ap, addI_ap, varK_ap, startE, yes2, isN, List.map_cons, List.map_nil, List.length_cons, List.length_nil, List.replicate, List.append_nil, List.cons_append, List.nil_append, List.getElem?_cons_zero, List.getElem?_cons_succ, List.set_cons_zero, List.set_cons_succ, R.bind_ok, R.bind_ex, R.bind_bad, R.noex_ok, if_true, if_false, Bool.false_eq_true, Bool.true_eq_false, ite_true, ite_false, reduceIte, Nat.reduceAdd, Nat.reduceSub, Nat.zero_add, Nat.sub_self, Nat.sub_zero, decide_true, decide_false, Bool.not_true, Bool.not_false, subD_ap, ltD_ap, leD_ap, gtD_ap, geD_ap, mulD_ap, modD_ap, divD_ap, powD_ap, tupK_ok, lstK_ok, methK_ok, tupG_ok, eqS_t, eqS_f, neS_t, neS_f, eqI_ap, neI_ap, inT_nil, inT_hit, inT_miss, ne_eq, not_false_eq_true, b_look, jx0, jx1, h1, callN_ap, callNK_ap, sz (by decide : 7 ≤ 100), sz (by decide : 3 ≤ 100)]
theorem look_known {n : Str} {k : Int} : LookR (fun W => ∃ z, dget W (.str n) = some z) (.tup [.str "rounds", .str n, .int k, a, b]) x 5 1 := fun d hd W m st hm hk hl ⟨z, hP⟩ => by
  obtain ⟨d, rfl⟩ : ∃ k, d = k + 2 := ⟨d - 2, by omega⟩
  have g1 : dinD false (.str n) (.ref m) st = .ok (.bl true) st := by
    simp only [dinD, hm, hk, isKD, Bool.and_self, if_true, hP]; rfl
  have lr : f_look_rounds (d + 1) [.tup [.str "rounds", .str n, .int k, a, b], .ref m] st = .ex "Twice" st := by
    rw [f_look_rounds_s]
    simp -implicitDefEqProofs +decide only [varF_ap, cF_ap, opF_ap, opK_ap, bF_ap, boolK_ap, andT_ap, andK_ap, orT_ap, orK_ap, notT_ap, notK_ap, yesT_ap, andV_ap, andVK_ap, orV_ap, orVK_ap, notV_ap, notVK_ap, ifF_ap, ifFK_ap, nilA_ap, consA_ap, consK_ap, consJ_ap, tupA_ap, lstA_ap, newO_ap, dicF_ap, callF_ap, un1_ap, methF_ap, nonO_ap, someO_ap, someK_ap, slF_ap, slK_ap, slJ_ap, itF_ap, itA_ap, nilS_ap, bkS_ap, ctS_ap, seqS_ap, seqK_nx, seqK_rt, seqK_bk, seqK_ct, dropS_ap, dropK_ap, retS_ap, retK_ap, retN_ap, ifS_ap, ifK_ap, setS_ap, setK_ap, asgS_ap, asgK_ap, asgJ_ap, nameG_ap, nilG_ap, consG_ap, consGK_ap, fnF_ap, fnK_nx, fnK_rt, forS_ap, forK_ap, negD_ap, addI_ap, varK_ap, startE, yes2, isN, List.map_cons, List.map_nil, List.length_cons, List.length_nil, List.replicate, List.append_nil, List.cons_append, List.nil_append, List.getElem?_cons_zero, List.getElem?_cons_succ, List.set_cons_zero, List.set_cons_succ, R.bind_ok, R.bind_ex, R.bind_bad, R.noex_ok, if_true, if_false, Bool.false_eq_true, Bool.true_eq_false, ite_true, ite_false, reduceIte, Nat.reduceAdd, Nat.reduceSub, Nat.zero_add, Nat.sub_self, Nat.sub_zero, decide_true, decide_false, Bool.not_true, Bool.not_false, subD_ap, ltD_ap, leD_ap, gtD_ap, geD_ap, mulD_ap, modD_ap, divD_ap, powD_ap, tupK_ok, lstK_ok, methK_ok, tupG_ok, eqS_t, eqS_f, neS_t, neS_f, eqI_ap, neI_ap, inT_nil, inT_hit, inT_miss, ne_eq, not_false_eq_true, b_look_rounds, jx1, g1, exS_ap]
  exact ⟨st, by rw [f_look_s, outN (by decide)]; simp -implicitDefEqProofs +decide only [varF_ap, cF_ap, opF_ap, opK_ap, bF_ap, boolK_ap, andT_ap, andK_ap, orT_ap, orK_ap, notT_ap, notK_ap, yesT_ap, andV_ap, andVK_ap, orV_ap, orVK_ap, notV_ap, notVK_ap, ifF_ap, ifFK_ap, nilA_ap, consA_ap, consK_ap, consJ_ap, tupA_ap, lstA_ap, newO_ap, dicF_ap, callF_ap, un1_ap, methF_ap, nonO_ap, someO_ap, someK_ap, slF_ap, slK_ap, slJ_ap, itF_ap, itA_ap, nilS_ap, bkS_ap, ctS_ap, seqS_ap, seqK_nx, seqK_rt, seqK_bk, seqK_ct, dropS_ap, dropK_ap, retS_ap, retK_ap, retN_ap, ifS_ap, ifK_ap, setS_ap, setK_ap, asgS_ap, asgK_ap, asgJ_ap, nameG_ap, nilG_ap, consG_ap, consGK_ap, fnF_ap, fnK_nx, fnK_rt, forS_ap, forK_ap, negD_ap, addI_ap, varK_ap, startE, yes2, isN, List.map_cons, List.map_nil, List.length_cons, List.length_nil, List.replicate, List.append_nil, List.cons_append, List.nil_append, List.getElem?_cons_zero, List.getElem?_cons_succ, List.set_cons_zero, List.set_cons_succ, R.bind_ok, R.bind_ex, R.bind_bad, R.noex_ok, if_true, if_false, Bool.false_eq_true, Bool.true_eq_false, ite_true, ite_false, reduceIte, Nat.reduceAdd, Nat.reduceSub, Nat.zero_add, Nat.sub_self, Nat.sub_zero, decide_true, decide_false, Bool.not_true, Bool.not_false, subD_ap, ltD_ap, leD_ap, gtD_ap, geD_ap, mulD_ap, modD_ap, divD_ap, powD_ap, tupK_ok, lstK_ok, methK_ok, tupG_ok, eqS_t, eqS_f, neS_t, neS_f, eqI_ap, neI_ap, inT_nil, inT_hit, inT_miss, ne_eq, not_false_eq_true, b_look, jx0, lr]; rfl, Le.refl _⟩
theorem look_rounds {n : Str} {k : Int} {P Q : List (VL.D × VL.D) → Prop} (hqa : 0 ≤ qa) (hqb : 0 ≤ qb) (ha : LookR P a x qa da) (hb : LookR Q b y qb db) (hn : ∀ W, P W → dget W (.str n) = none) (hq : ∀ W, keysOk W = true → P W → Q (W ++ [(.str n, .int x)])) : LookR P (.tup [.str "rounds", .str n, .int k, a, b]) x (fd [qa, qb, if x ≠ y then 3 else 0]) (1 + max da db) := fun d hd W m st hm hk hl hP => by
  obtain ⟨d, rfl⟩ : ∃ k, d = k + 2 := ⟨d - 2, by omega⟩
  obtain ⟨S1, h1, l1⟩ := ha d (by omega) W m st hm hk (by omega) hP
  have g0 : dget W (.str n) = none := hn W hP
  have g1 : dinD false (.str n) (.ref m) st = .ok (.bl false) st := by
    simp only [dinD, hm, hk, isKD, Bool.and_self, if_true, g0]; rfl
  by_cases z1 : qa = 0
  · subst z1
    rw [out0] at h1
    rw [fd_0]
    have g2 : dictD [.ref m] S1 = .ok (.ref S1.length) (S1 ++ [.dic W]) := by
      simp only [dictD, l1.get hm, hk, if_true]; rfl
    have any : (W.any fun p => keyQ p.1 (.str n)) = false := by
      unfold dget at g0
      rw [Option.map_eq_none_iff, List.find?_eq_none] at g0
      rw [List.any_eq_false]
      exact g0
    have dp : dput W (.str n) (.int x) = W ++ [(.str n, .int x)] := by unfold dput; rw [any]; rfl
    have hl3 : decide (W.length < sizeLine) = true := decide_eq_true (by rw [sizeLine_eq']; omega)
    have gp : dputS (varF 2) (varF 3) (opF ixD (varF 0) (cF (.int 1))) [some (.tup [.str "rounds", .str n, .int k, a, b]), some (.ref m), some (.int x), some (.ref S1.length)] (S1 ++ [.dic W]) = .ok (.nx [some (.tup [.str "rounds", .str n, .int k, a, b]), some (.ref m), some (.int x), some (.ref S1.length)]) (S1 ++ [.dic (W ++ [(.str n, .int x)])]) := by
      unfold dputS
      simp -implicitDefEqProofs only [varF_ap, cF_ap, opF_ap, opK_ap, bF_ap, boolK_ap, andT_ap, andK_ap, orT_ap, orK_ap, notT_ap, notK_ap, yesT_ap, andV_ap, andVK_ap, orV_ap, orVK_ap, notV_ap, notVK_ap, ifF_ap, ifFK_ap, nilA_ap, consA_ap, consK_ap, consJ_ap, tupA_ap, tupK_ap, lstA_ap, lstK_ap, newO_ap, dicF_ap, callF_ap, un1_ap, methF_ap, methK_ap, nonO_ap, someO_ap, someK_ap, slF_ap, slK_ap, slJ_ap, itF_ap, itA_ap, nilS_ap, bkS_ap, ctS_ap, seqS_ap, seqK_nx, seqK_rt, seqK_bk, seqK_ct, dropS_ap, dropK_ap, retS_ap, retK_ap, retN_ap, ifS_ap, ifK_ap, setS_ap, setK_ap, asgS_ap, asgK_ap, asgJ_ap, nameG_ap, nilG_ap, consG_ap, consGK_ap, tupG_ap, fnF_ap, fnK_nx, fnK_rt, forS_ap, forK_ap, intD_ap, negD_ap, addI_ap, varK_ap, startE, yes2, isN, List.map_cons, List.map_nil, List.length_cons, List.length_nil, List.replicate, List.append_nil, List.cons_append, List.nil_append, List.getElem?_cons_zero, List.getElem?_cons_succ, List.set_cons_zero, List.set_cons_succ, R.bind_ok, R.bind_ex, R.bind_bad, R.noex_ok, if_true, if_false, Bool.false_eq_true, Bool.true_eq_false, ite_true, ite_false, reduceIte, Nat.reduceAdd, Nat.reduceSub, Nat.zero_add, Nat.sub_self, Nat.sub_zero, decide_true, decide_false, Bool.not_true, Bool.not_false, jx1]
      simp only [get_last, hk, isKD, hl3, Bool.and_self, if_true, dp, set_last]
    have hk2 : keysOk (W ++ [(.str n, .int x)]) = true := by unfold keysOk at hk ⊢; rw [List.all_append, hk]; rfl
    obtain ⟨S2, h2, l2⟩ := hb d (by omega) (W ++ [(.str n, .int x)]) S1.length (S1 ++ [.dic (W ++ [(.str n, .int x)])]) get_last hk2 (by rw [List.length_append]; show W.length + 1 + db ≤ 1000; omega) (hq W hk hP)
    refine ⟨S2, ?_, (l1.trans (Le.app _ _)).trans l2⟩
    by_cases z2 : qb = 0
    · subst z2
      rw [out0] at h2
      rw [fd_0]
      by_cases hxy : x = y
      · subst hxy
        have q : neD (.int x) (.int x) S2 = .ok (.bl false) S2 := by rw [neI_ap, decide_eq_true rfl]; rfl
        have lr : f_look_rounds (d + 1) [.tup [.str "rounds", .str n, .int k, a, b], .ref m] st = .ok (.int x) S2 := by
          rw [f_look_rounds_s]
          simp -implicitDefEqProofs +decide only [varF_ap, cF_ap, opF_ap, opK_ap, bF_ap, boolK_ap, andT_ap, andK_ap, orT_ap, orK_ap, notT_ap, notK_ap, yesT_ap, andV_ap, andVK_ap, orV_ap, orVK_ap, notV_ap, notVK_ap, ifF_ap, ifFK_ap, nilA_ap, consA_ap, consK_ap, consJ_ap, tupA_ap, lstA_ap, newO_ap, dicF_ap, callF_ap, un1_ap, methF_ap, nonO_ap, someO_ap, someK_ap, slF_ap, slK_ap, slJ_ap, itF_ap, itA_ap, nilS_ap, bkS_ap, ctS_ap, seqS_ap, seqK_nx, seqK_rt, seqK_bk, seqK_ct, dropS_ap, dropK_ap, retS_ap, retK_ap, retN_ap, ifS_ap, ifK_ap, setS_ap, setK_ap, asgS_ap, asgK_ap, asgJ_ap, nameG_ap, nilG_ap, consG_ap, consGK_ap, fnF_ap, fnK_nx, fnK_rt, forS_ap, forK_ap, negD_ap, addI_ap, varK_ap, startE, yes2, isN, List.map_cons, List.map_nil, List.length_cons, List.length_nil, List.replicate, List.append_nil, List.cons_append, List.nil_append, List.getElem?_cons_zero, List.getElem?_cons_succ, List.set_cons_zero, List.set_cons_succ, R.bind_ok, R.bind_ex, R.bind_bad, R.noex_ok, if_true, if_false, Bool.false_eq_true, Bool.true_eq_false, ite_true, ite_false, reduceIte, Nat.reduceAdd, Nat.reduceSub, Nat.zero_add, Nat.sub_self, Nat.sub_zero, decide_true, decide_false, Bool.not_true, Bool.not_false, subD_ap, ltD_ap, leD_ap, gtD_ap, geD_ap, mulD_ap, modD_ap, divD_ap, powD_ap, tupK_ok, lstK_ok, methK_ok, tupG_ok, eqS_t, eqS_f, neS_t, neS_f, eqI_ap, neI_ap, inT_nil, inT_hit, inT_miss, ne_eq, not_false_eq_true, b_look_rounds, jx1, jx3, jx4, g1, h1, g2, gp, h2, q]
        rw [if_neg (fun k => k rfl), fd_0, fd_nil, out0, f_look_s]
        simp -implicitDefEqProofs +decide only [varF_ap, cF_ap, opF_ap, opK_ap, bF_ap, boolK_ap, andT_ap, andK_ap, orT_ap, orK_ap, notT_ap, notK_ap, yesT_ap, andV_ap, andVK_ap, orV_ap, orVK_ap, notV_ap, notVK_ap, ifF_ap, ifFK_ap, nilA_ap, consA_ap, consK_ap, consJ_ap, tupA_ap, lstA_ap, newO_ap, dicF_ap, callF_ap, un1_ap, methF_ap, nonO_ap, someO_ap, someK_ap, slF_ap, slK_ap, slJ_ap, itF_ap, itA_ap, nilS_ap, bkS_ap, ctS_ap, seqS_ap, seqK_nx, seqK_rt, seqK_bk, seqK_ct, dropS_ap, dropK_ap, retS_ap, retK_ap, retN_ap, ifS_ap, ifK_ap, setS_ap, setK_ap, asgS_ap, asgK_ap, asgJ_ap, nameG_ap, nilG_ap, consG_ap, consGK_ap, fnF_ap, fnK_nx, fnK_rt, forS_ap, forK_ap, negD_ap, addI_ap, varK_ap, startE, yes2, isN, List.map_cons, List.map_nil, List.length_cons, List.length_nil, List.replicate, List.append_nil, List.cons_append, List.nil_append, List.getElem?_cons_zero, List.getElem?_cons_succ, List.set_cons_zero, List.set_cons_succ, R.bind_ok, R.bind_ex, R.bind_bad, R.noex_ok, if_true, if_false, Bool.false_eq_true, Bool.true_eq_false, ite_true, ite_false, reduceIte, Nat.reduceAdd, Nat.reduceSub, Nat.zero_add, Nat.sub_self, Nat.sub_zero, decide_true, decide_false, Bool.not_true, Bool.not_false, subD_ap, ltD_ap, leD_ap, gtD_ap, geD_ap, mulD_ap, modD_ap, divD_ap, powD_ap, tupK_ok, lstK_ok, methK_ok, tupG_ok, eqS_t, eqS_f, neS_t, neS_f, eqI_ap, neI_ap, inT_nil, inT_hit, inT_miss, ne_eq, not_false_eq_true, b_look, jx0, lr]
      · have q : neD (.int y) (.int x) S2 = .ok (.bl true) S2 := by rw [neI_ap, decide_eq_false (fun k => hxy k.symm)]; rfl
        have lr : f_look_rounds (d + 1) [.tup [.str "rounds", .str n, .int k, a, b], .ref m] st = .ex "Unlike" S2 := by
          rw [f_look_rounds_s]
          simp -implicitDefEqProofs +decide only [varF_ap, cF_ap, opF_ap, opK_ap, bF_ap, boolK_ap, andT_ap, andK_ap, orT_ap, orK_ap, notT_ap, notK_ap, yesT_ap, andV_ap, andVK_ap, orV_ap, orVK_ap, notV_ap, notVK_ap, ifF_ap, ifFK_ap, nilA_ap, consA_ap, consK_ap, consJ_ap, tupA_ap, lstA_ap, newO_ap, dicF_ap, callF_ap, un1_ap, methF_ap, nonO_ap, someO_ap, someK_ap, slF_ap, slK_ap, slJ_ap, itF_ap, itA_ap, nilS_ap, bkS_ap, ctS_ap, seqS_ap, seqK_nx, seqK_rt, seqK_bk, seqK_ct, dropS_ap, dropK_ap, retS_ap, retK_ap, retN_ap, ifS_ap, ifK_ap, setS_ap, setK_ap, asgS_ap, asgK_ap, asgJ_ap, nameG_ap, nilG_ap, consG_ap, consGK_ap, fnF_ap, fnK_nx, fnK_rt, forS_ap, forK_ap, negD_ap, addI_ap, varK_ap, startE, yes2, isN, List.map_cons, List.map_nil, List.length_cons, List.length_nil, List.replicate, List.append_nil, List.cons_append, List.nil_append, List.getElem?_cons_zero, List.getElem?_cons_succ, List.set_cons_zero, List.set_cons_succ, R.bind_ok, R.bind_ex, R.bind_bad, R.noex_ok, if_true, if_false, Bool.false_eq_true, Bool.true_eq_false, ite_true, ite_false, reduceIte, Nat.reduceAdd, Nat.reduceSub, Nat.zero_add, Nat.sub_self, Nat.sub_zero, decide_true, decide_false, Bool.not_true, Bool.not_false, subD_ap, ltD_ap, leD_ap, gtD_ap, geD_ap, mulD_ap, modD_ap, divD_ap, powD_ap, tupK_ok, lstK_ok, methK_ok, tupG_ok, eqS_t, eqS_f, neS_t, neS_f, eqI_ap, neI_ap, inT_nil, inT_hit, inT_miss, ne_eq, not_false_eq_true, b_look_rounds, jx1, jx3, jx4, g1, h1, g2, gp, h2, q, exS_ap]
        rw [if_pos hxy, fd_pos (by decide), outN (by decide), f_look_s]
        simp -implicitDefEqProofs +decide only [varF_ap, cF_ap, opF_ap, opK_ap, bF_ap, boolK_ap, andT_ap, andK_ap, orT_ap, orK_ap, notT_ap, notK_ap, yesT_ap, andV_ap, andVK_ap, orV_ap, orVK_ap, notV_ap, notVK_ap, ifF_ap, ifFK_ap, nilA_ap, consA_ap, consK_ap, consJ_ap, tupA_ap, lstA_ap, newO_ap, dicF_ap, callF_ap, un1_ap, methF_ap, nonO_ap, someO_ap, someK_ap, slF_ap, slK_ap, slJ_ap, itF_ap, itA_ap, nilS_ap, bkS_ap, ctS_ap, seqS_ap, seqK_nx, seqK_rt, seqK_bk, seqK_ct, dropS_ap, dropK_ap, retS_ap, retK_ap, retN_ap, ifS_ap, ifK_ap, setS_ap, setK_ap, asgS_ap, asgK_ap, asgJ_ap, nameG_ap, nilG_ap, consG_ap, consGK_ap, fnF_ap, fnK_nx, fnK_rt, forS_ap, forK_ap, negD_ap, addI_ap, varK_ap, startE, yes2, isN, List.map_cons, List.map_nil, List.length_cons, List.length_nil, List.replicate, List.append_nil, List.cons_append, List.nil_append, List.getElem?_cons_zero, List.getElem?_cons_succ, List.set_cons_zero, List.set_cons_succ, R.bind_ok, R.bind_ex, R.bind_bad, R.noex_ok, if_true, if_false, Bool.false_eq_true, Bool.true_eq_false, ite_true, ite_false, reduceIte, Nat.reduceAdd, Nat.reduceSub, Nat.zero_add, Nat.sub_self, Nat.sub_zero, decide_true, decide_false, Bool.not_true, Bool.not_false, subD_ap, ltD_ap, leD_ap, gtD_ap, geD_ap, mulD_ap, modD_ap, divD_ap, powD_ap, tupK_ok, lstK_ok, methK_ok, tupG_ok, eqS_t, eqS_f, neS_t, neS_f, eqI_ap, neI_ap, inT_nil, inT_hit, inT_miss, ne_eq, not_false_eq_true, b_look, jx0, lr]
        rfl
    · rw [outN z2] at h2
      have lr : f_look_rounds (d + 1) [.tup [.str "rounds", .str n, .int k, a, b], .ref m] st = .ex (clsN qb) S2 := by
        rw [f_look_rounds_s]
        simp -implicitDefEqProofs +decide only [varF_ap, cF_ap, opF_ap, opK_ap, bF_ap, boolK_ap, andT_ap, andK_ap, orT_ap, orK_ap, notT_ap, notK_ap, yesT_ap, andV_ap, andVK_ap, orV_ap, orVK_ap, notV_ap, notVK_ap, ifF_ap, ifFK_ap, nilA_ap, consA_ap, consK_ap, consJ_ap, tupA_ap, lstA_ap, newO_ap, dicF_ap, callF_ap, un1_ap, methF_ap, nonO_ap, someO_ap, someK_ap, slF_ap, slK_ap, slJ_ap, itF_ap, itA_ap, nilS_ap, bkS_ap, ctS_ap, seqS_ap, seqK_nx, seqK_rt, seqK_bk, seqK_ct, dropS_ap, dropK_ap, retS_ap, retK_ap, retN_ap, ifS_ap, ifK_ap, setS_ap, setK_ap, asgS_ap, asgK_ap, asgJ_ap, nameG_ap, nilG_ap, consG_ap, consGK_ap, fnF_ap, fnK_nx, fnK_rt, forS_ap, forK_ap, negD_ap, addI_ap, varK_ap, startE, yes2, isN, List.map_cons, List.map_nil, List.length_cons, List.length_nil, List.replicate, List.append_nil, List.cons_append, List.nil_append, List.getElem?_cons_zero, List.getElem?_cons_succ, List.set_cons_zero, List.set_cons_succ, R.bind_ok, R.bind_ex, R.bind_bad, R.noex_ok, if_true, if_false, Bool.false_eq_true, Bool.true_eq_false, ite_true, ite_false, reduceIte, Nat.reduceAdd, Nat.reduceSub, Nat.zero_add, Nat.sub_self, Nat.sub_zero, decide_true, decide_false, Bool.not_true, Bool.not_false, subD_ap, ltD_ap, leD_ap, gtD_ap, geD_ap, mulD_ap, modD_ap, divD_ap, powD_ap, tupK_ok, lstK_ok, methK_ok, tupG_ok, eqS_t, eqS_f, neS_t, neS_f, eqI_ap, neI_ap, inT_nil, inT_hit, inT_miss, ne_eq, not_false_eq_true, b_look_rounds, jx1, jx3, jx4, g1, h1, g2, gp, h2]
      rw [fd_pos (by omega), outN z2, f_look_s]
      simp -implicitDefEqProofs +decide only [varF_ap, cF_ap, opF_ap, opK_ap, bF_ap, boolK_ap, andT_ap, andK_ap, orT_ap, orK_ap, notT_ap, notK_ap, yesT_ap, andV_ap, andVK_ap, orV_ap, orVK_ap, notV_ap, notVK_ap, ifF_ap, ifFK_ap, nilA_ap, consA_ap, consK_ap, consJ_ap, tupA_ap, lstA_ap, newO_ap, dicF_ap, callF_ap, un1_ap, methF_ap, nonO_ap, someO_ap, someK_ap, slF_ap, slK_ap, slJ_ap, itF_ap, itA_ap, nilS_ap, bkS_ap, ctS_ap, seqS_ap, seqK_nx, seqK_rt, seqK_bk, seqK_ct, dropS_ap, dropK_ap, retS_ap, retK_ap, retN_ap, ifS_ap, ifK_ap, setS_ap, setK_ap, asgS_ap, asgK_ap, asgJ_ap, nameG_ap, nilG_ap, consG_ap, consGK_ap, fnF_ap, fnK_nx, fnK_rt, forS_ap, forK_ap, negD_ap, addI_ap, varK_ap, startE, yes2, isN, List.map_cons, List.map_nil, List.length_cons, List.length_nil, List.replicate, List.append_nil, List.cons_append, List.nil_append, List.getElem?_cons_zero, List.getElem?_cons_succ, List.set_cons_zero, List.set_cons_succ, R.bind_ok, R.bind_ex, R.bind_bad, R.noex_ok, if_true, if_false, Bool.false_eq_true, Bool.true_eq_false, ite_true, ite_false, reduceIte, Nat.reduceAdd, Nat.reduceSub, Nat.zero_add, Nat.sub_self, Nat.sub_zero, decide_true, decide_false, Bool.not_true, Bool.not_false, subD_ap, ltD_ap, leD_ap, gtD_ap, geD_ap, mulD_ap, modD_ap, divD_ap, powD_ap, tupK_ok, lstK_ok, methK_ok, tupG_ok, eqS_t, eqS_f, neS_t, neS_f, eqI_ap, neI_ap, inT_nil, inT_hit, inT_miss, ne_eq, not_false_eq_true, b_look, jx0, lr]
  · rw [outN z1] at h1
    refine ⟨S1, ?_, l1⟩
    have lr : f_look_rounds (d + 1) [.tup [.str "rounds", .str n, .int k, a, b], .ref m] st = .ex (clsN qa) S1 := by
      rw [f_look_rounds_s]
      simp -implicitDefEqProofs +decide only [varF_ap, cF_ap, opF_ap, opK_ap, bF_ap, boolK_ap, andT_ap, andK_ap, orT_ap, orK_ap, notT_ap, notK_ap, yesT_ap, andV_ap, andVK_ap, orV_ap, orVK_ap, notV_ap, notVK_ap, ifF_ap, ifFK_ap, nilA_ap, consA_ap, consK_ap, consJ_ap, tupA_ap, lstA_ap, newO_ap, dicF_ap, callF_ap, un1_ap, methF_ap, nonO_ap, someO_ap, someK_ap, slF_ap, slK_ap, slJ_ap, itF_ap, itA_ap, nilS_ap, bkS_ap, ctS_ap, seqS_ap, seqK_nx, seqK_rt, seqK_bk, seqK_ct, dropS_ap, dropK_ap, retS_ap, retK_ap, retN_ap, ifS_ap, ifK_ap, setS_ap, setK_ap, asgS_ap, asgK_ap, asgJ_ap, nameG_ap, nilG_ap, consG_ap, consGK_ap, fnF_ap, fnK_nx, fnK_rt, forS_ap, forK_ap, negD_ap, addI_ap, varK_ap, startE, yes2, isN, List.map_cons, List.map_nil, List.length_cons, List.length_nil, List.replicate, List.append_nil, List.cons_append, List.nil_append, List.getElem?_cons_zero, List.getElem?_cons_succ, List.set_cons_zero, List.set_cons_succ, R.bind_ok, R.bind_ex, R.bind_bad, R.noex_ok, if_true, if_false, Bool.false_eq_true, Bool.true_eq_false, ite_true, ite_false, reduceIte, Nat.reduceAdd, Nat.reduceSub, Nat.zero_add, Nat.sub_self, Nat.sub_zero, decide_true, decide_false, Bool.not_true, Bool.not_false, subD_ap, ltD_ap, leD_ap, gtD_ap, geD_ap, mulD_ap, modD_ap, divD_ap, powD_ap, tupK_ok, lstK_ok, methK_ok, tupG_ok, eqS_t, eqS_f, neS_t, neS_f, eqI_ap, neI_ap, inT_nil, inT_hit, inT_miss, ne_eq, not_false_eq_true, b_look_rounds, jx1, jx3, jx4, g1, h1]
    rw [fd_pos (by omega), outN z1, f_look_s]
    simp -implicitDefEqProofs +decide only [varF_ap, cF_ap, opF_ap, opK_ap, bF_ap, boolK_ap, andT_ap, andK_ap, orT_ap, orK_ap, notT_ap, notK_ap, yesT_ap, andV_ap, andVK_ap, orV_ap, orVK_ap, notV_ap, notVK_ap, ifF_ap, ifFK_ap, nilA_ap, consA_ap, consK_ap, consJ_ap, tupA_ap, lstA_ap, newO_ap, dicF_ap, callF_ap, un1_ap, methF_ap, nonO_ap, someO_ap, someK_ap, slF_ap, slK_ap, slJ_ap, itF_ap, itA_ap, nilS_ap, bkS_ap, ctS_ap, seqS_ap, seqK_nx, seqK_rt, seqK_bk, seqK_ct, dropS_ap, dropK_ap, retS_ap, retK_ap, retN_ap, ifS_ap, ifK_ap, setS_ap, setK_ap, asgS_ap, asgK_ap, asgJ_ap, nameG_ap, nilG_ap, consG_ap, consGK_ap, fnF_ap, fnK_nx, fnK_rt, forS_ap, forK_ap, negD_ap, addI_ap, varK_ap, startE, yes2, isN, List.map_cons, List.map_nil, List.length_cons, List.length_nil, List.replicate, List.append_nil, List.cons_append, List.nil_append, List.getElem?_cons_zero, List.getElem?_cons_succ, List.set_cons_zero, List.set_cons_succ, R.bind_ok, R.bind_ex, R.bind_bad, R.noex_ok, if_true, if_false, Bool.false_eq_true, Bool.true_eq_false, ite_true, ite_false, reduceIte, Nat.reduceAdd, Nat.reduceSub, Nat.zero_add, Nat.sub_self, Nat.sub_zero, decide_true, decide_false, Bool.not_true, Bool.not_false, subD_ap, ltD_ap, leD_ap, gtD_ap, geD_ap, mulD_ap, modD_ap, divD_ap, powD_ap, tupK_ok, lstK_ok, methK_ok, tupG_ok, eqS_t, eqS_f, neS_t, neS_f, eqI_ap, neI_ap, inT_nil, inT_hit, inT_miss, ne_eq, not_false_eq_true, b_look, jx0, lr]
end
end Law

namespace Law
open PySem L2 VL
/-! mixed2: the second mixing; digits -/
def mixed (c : Int) : Int := c * 69621 % 2147483629 + 2147483629 * (c % 10 ^ 30)
theorem mixed_ok {c : Int} {st : Sto} : f__law_mixed [.int c] st = .ok (.int (mixed c)) st := by
  have p1 : decide ((0 : Int) ≤ 30 ∧ (30 : Int) ≤ 1000000 ∧ (10 : Int).natAbs < 2 ^ 64) = true := by decide
  have m1 : decide ((0 : Int) < 10 ^ 30) = true := by decide
  have m2 : decide ((0 : Int) < 2147483629) = true := by decide
  have e : ((10 : Int) ^ (30 : Int).toNat) = 10 ^ 30 := rfl
  have q1 : decide (MulOk c 69621) = true := mul_okR (by decide)
  have q2 : decide (MulOk 2147483629 (c % 10 ^ 30)) = true := mul_okL (by decide)
  simp -implicitDefEqProofs only [varF_ap, cF_ap, opF_ap, opK_ap, bF_ap, boolK_ap, andT_ap, andK_ap, orT_ap, orK_ap, notT_ap, notK_ap, yesT_ap, andV_ap, andVK_ap, orV_ap, orVK_ap, notV_ap, notVK_ap, ifF_ap, ifFK_ap, nilA_ap, consA_ap, consK_ap, consJ_ap, tupA_ap, tupK_ap, lstA_ap, lstK_ap, newO_ap, dicF_ap, callF_ap, un1_ap, methF_ap, methK_ap, nonO_ap, someO_ap, someK_ap, slF_ap, slK_ap, slJ_ap, itF_ap, itA_ap, nilS_ap, bkS_ap, ctS_ap, seqS_ap, seqK_nx, seqK_rt, seqK_bk, seqK_ct, dropS_ap, dropK_ap, retS_ap, retK_ap, retN_ap, ifS_ap, ifK_ap, setS_ap, setK_ap, asgS_ap, asgK_ap, asgJ_ap, nameG_ap, nilG_ap, consG_ap, consGK_ap, tupG_ap, fnF_ap, fnK_nx, fnK_rt, forS_ap, forK_ap, intD_ap, negD_ap, addI_ap, varK_ap, startE, yes2, isN, List.map_cons, List.map_nil, List.length_cons, List.length_nil, List.replicate, List.append_nil, List.cons_append, List.nil_append, List.getElem?_cons_zero, List.getElem?_cons_succ, List.set_cons_zero, List.set_cons_succ, R.bind_ok, R.bind_ex, R.bind_bad, R.noex_ok, if_true, if_false, Bool.false_eq_true, Bool.true_eq_false, ite_true, ite_false, reduceIte, Nat.reduceAdd, Nat.reduceSub, Nat.zero_add, Nat.sub_self, Nat.sub_zero, decide_true, decide_false, Bool.not_true, Bool.not_false, f__law_mixed, b__law_mixed, p1, e, m1, m2, q1, q2]
  rfl
theorem mixed_nonneg (c : Int) : 0 ≤ mixed c := by
  unfold mixed
  have h1 := Int.emod_nonneg (c * 69621) (show (2147483629 : Int) ≠ 0 by decide)
  have h2 := Int.emod_nonneg c (show (10 ^ 30 : Int) ≠ 0 by decide)
  have h3 := Int.mul_nonneg (show (0 : Int) ≤ 2147483629 by decide) h2
  omega
def digs (top : Int) : Nat → Int → List Int
  | 0, _ => []
  | k + 1, n => n % top :: digs top k (n / top)
def dshift (top : Int) : Nat → Int → Int
  | 0, n => n
  | k + 1, n => dshift top k n / top
theorem dshift_s (top : Int) (k : Nat) (n : Int) : dshift top (k + 1) n = dshift top k n / top := rfl
theorem dshift_succ (top : Int) : ∀ k n, dshift top (k + 1) n = dshift top k (n / top)
  | 0, _ => rfl
  | k + 1, n => by
    show dshift top (k + 1) n / top = dshift top k (n / top) / top
    rw [dshift_succ top k n]
theorem digs_succ (top : Int) : ∀ k n, digs top (k + 1) n = digs top k n ++ [dshift top k n % top]
  | 0, n => rfl
  | k + 1, n => by
    rw [digs, digs_succ top k, ← dshift_succ]
    rfl
theorem digs_len (top : Int) : ∀ k n, (digs top k n).length = k
  | 0, _ => rfl
  | k + 1, n => by rw [digs, List.length_cons, digs_len top k]
theorem digs_bd {top : Int} (h : 0 < top) : ∀ k n, ∀ d ∈ digs top k n, 0 ≤ d ∧ d < top
  | 0, _, d, hd => by cases hd
  | k + 1, n, d, hd => by
    rw [digs] at hd
    rcases List.mem_cons.mp hd with hd | hd
    · rw [hd]; exact ⟨Int.emod_nonneg _ (by omega), Int.emod_lt_of_pos _ h⟩
    · exact digs_bd h k _ d hd
def digsD (top : Int) (k : Nat) (n : Int) : List VL.D := (digs top k n).map .int
theorem digsD_len (top : Int) (k : Nat) (n : Int) : (digsD top k n).length = k := by rw [digsD, List.length_map, digs_len]
theorem digits_turn {m top : Int} {w x : VL.D} {st : Sto} {acc : List VL.D} (hz : acc.length < sizeLine) (ht : 0 < top) (ht2 : top.natAbs.log2 < 9000) :
    l0__law_digits [some (.int m), some w, some (.int top), some (.ref st.length), some x] (st ++ [.lst acc]) = .ok (.nx [some (.int (m / top)), some w, some (.int top), some (.ref st.length), some x]) (st ++ [.lst (acc ++ [.int (m % top)])]) := by
  have v9 : decide ((0 : Int) < top ∧ top.natAbs.log2 < 9000) = true := decide_eq_true ⟨ht, ht2⟩
  have m9 : decide ((0 : Int) < top) = true := decide_eq_true ht
  have t : tyD "list" (VL.D.ref st.length) (st ++ [.lst acc]) := tyD_list listAt_last
  have a : appD (.ref st.length) [.int (m % top)] (st ++ [.lst acc]) = .ok .non (st ++ [.lst (acc ++ [.int (m % top)])]) := by
    rw [appD_ok get_last hz, set_last]
  unfold l0__law_digits
  simp -implicitDefEqProofs only [varF_ap, cF_ap, opF_ap, opK_ap, bF_ap, boolK_ap, andT_ap, andK_ap, orT_ap, orK_ap, notT_ap, notK_ap, yesT_ap, andV_ap, andVK_ap, orV_ap, orVK_ap, notV_ap, notVK_ap, ifF_ap, ifFK_ap, nilA_ap, consA_ap, consK_ap, consJ_ap, tupA_ap, tupK_ap, lstA_ap, lstK_ap, newO_ap, dicF_ap, callF_ap, un1_ap, methF_ap, methK_ap, nonO_ap, someO_ap, someK_ap, slF_ap, slK_ap, slJ_ap, itF_ap, itA_ap, nilS_ap, bkS_ap, ctS_ap, seqS_ap, seqK_nx, seqK_rt, seqK_bk, seqK_ct, dropS_ap, dropK_ap, retS_ap, retK_ap, retN_ap, ifS_ap, ifK_ap, setS_ap, setK_ap, asgS_ap, asgK_ap, asgJ_ap, nameG_ap, nilG_ap, consG_ap, consGK_ap, tupG_ap, fnF_ap, fnK_nx, fnK_rt, forS_ap, forK_ap, intD_ap, negD_ap, addI_ap, varK_ap, startE, yes2, isN, List.map_cons, List.map_nil, List.length_cons, List.length_nil, List.replicate, List.append_nil, List.cons_append, List.nil_append, List.getElem?_cons_zero, List.getElem?_cons_succ, List.set_cons_zero, List.set_cons_succ, R.bind_ok, R.bind_ex, R.bind_bad, R.noex_ok, if_true, if_false, Bool.false_eq_true, Bool.true_eq_false, ite_true, ite_false, reduceIte, Nat.reduceAdd, Nat.reduceSub, Nat.zero_add, Nat.sub_self, Nat.sub_zero, decide_true, decide_false, Bool.not_true, Bool.not_false, methF, m9, v9, t, a]
theorem digits_ok {n top : Int} {k : Nat} {st : Sto} (ht : 0 < top) (ht2 : top.natAbs.log2 < 9000) (hk : k ≤ 10000) : f__law_digits [.int n, .int k, .int top] st = .ok (.ref st.length) (st ++ [.lst (digsD top k n)]) := by
  have r1 : rng1D [.int (k : Int)] (st ++ [.lst []]) = .ok (intsD 0 1 k, []) (st ++ [.lst []]) := rng1_ok (by omega)
  obtain ⟨e', s', h1, z, rfl, rfl⟩ := forL_inv (c := []) (gf := nameG 4) (b := l0__law_digits) (ds := intsD 0 1 k) (env := [some (.int n), some (.int k), some (.int top), some (.ref st.length), none]) (st := st ++ [.lst []])
    (fun i env s => ∃ z, env = [some (.int (dshift top i n)), some (.int k), some (.int top), some (.ref st.length), z] ∧ s = st ++ [.lst (digsD top i n)]) ⟨none, rfl, rfl⟩ (fun _ _ _ _ => ChkOk.nil) (fun i x env s hx ⟨z, he, hs⟩ => by
      subst he hs
      have hi := (List.getElem?_eq_some_iff.mp hx).1
      rw [intsD_len] at hi
      refine ⟨_, _, _, _, rfl, digits_turn (by rw [digsD_len, sizeLine_eq']; omega) ht ht2, some x, by rw [dshift_s], ?_⟩
      unfold digsD
      rw [digs_succ, List.map_append]
      rfl)
  rw [intsD_len] at h1
  have h0 : (0 : Nat) ≤ sizeLine := Nat.zero_le _
  simp -implicitDefEqProofs only [varF_ap, cF_ap, opF_ap, opK_ap, bF_ap, boolK_ap, andT_ap, andK_ap, orT_ap, orK_ap, notT_ap, notK_ap, yesT_ap, andV_ap, andVK_ap, orV_ap, orVK_ap, notV_ap, notVK_ap, ifF_ap, ifFK_ap, nilA_ap, consA_ap, consK_ap, consJ_ap, tupA_ap, tupK_ap, lstA_ap, lstK_ap, newO_ap, dicF_ap, callF_ap, un1_ap, methF_ap, methK_ap, nonO_ap, someO_ap, someK_ap, slF_ap, slK_ap, slJ_ap, itF_ap, itA_ap, nilS_ap, bkS_ap, ctS_ap, seqS_ap, seqK_nx, seqK_rt, seqK_bk, seqK_ct, dropS_ap, dropK_ap, retS_ap, retK_ap, retN_ap, ifS_ap, ifK_ap, setS_ap, setK_ap, asgS_ap, asgK_ap, asgJ_ap, nameG_ap, nilG_ap, consG_ap, consGK_ap, tupG_ap, fnF_ap, fnK_nx, fnK_rt, forS_ap, forK_ap, intD_ap, negD_ap, addI_ap, varK_ap, startE, yes2, isN, List.map_cons, List.map_nil, List.length_cons, List.length_nil, List.replicate, List.append_nil, List.cons_append, List.nil_append, List.getElem?_cons_zero, List.getElem?_cons_succ, List.set_cons_zero, List.set_cons_succ, R.bind_ok, R.bind_ex, R.bind_bad, R.noex_ok, if_true, if_false, Bool.false_eq_true, Bool.true_eq_false, ite_true, ite_false, reduceIte, Nat.reduceAdd, Nat.reduceSub, Nat.zero_add, Nat.sub_self, Nat.sub_zero, decide_true, decide_false, Bool.not_true, Bool.not_false, f__law_digits, b__law_digits, forS, r1, h0, h1]
end Law

namespace Law
open PySem L2 VL
/-! entries: first_due, beyond, spots, asking, term -/
def parK (i j : Nat) (env : EnvD) (xs : List VL.D) (s : Sto) : R Fl := match xs with
  | [x, y] => .ok (.nx ((env.set i (some x)).set j (some y))) s
  | _ => .bad
theorem parS_ap {i j : Nat} {fa : AF} {env : EnvD} {st : Sto} : parS i j fa env st = (fa env st).bind (parK i j env) := rfl
theorem parK_ap {i j : Nat} {env : EnvD} {x y : VL.D} {s : Sto} : parK i j env [x, y] s = .ok (.nx ((env.set i (some x)).set j (some y))) s := rfl
theorem mul_l {a : Int} (h : Sm 64 a) (b : Int) : VL.MulOk a b := of_decide_eq_true (mul_okL h)
theorem l2w {w : Int} (h : 1 ≤ w) (h2 : w ≤ 100) : w.natAbs.log2 < 9000 := by
  have : w.natAbs.log2 < 64 := log2_lt (n := w.natAbs) (k := 64) (by omega) (by decide)
  omega
theorem ints_mem {lo c : Int} {n : Nat} {d : VL.D} (h : d ∈ intsD lo c n) : ∃ i, i < n ∧ d = .int (lo + (i : Nat) * c) := by
  obtain ⟨i, hi⟩ := List.getElem?_of_mem h
  exact ⟨i, intsD_get hi⟩
theorem tf {b : Bool} {S : Sto} : int1D [.bl b] S = .ok (.int (if b = true then 1 else 0)) S := by cases b <;> rfl
theorem fd_loop {r : Nat} {st : Sto} {c : Chk} (hc : ChkOk c st) : ∀ (qs : List Int) (z : Option VL.D), ∃ z', forL c (nameG 1) l0__law_first_due (qs.map .int) [some (.ref r), z] st = if fd qs = 0 then .ok (.nx [some (.ref r), z']) st else .ok (.rt (.int (fd qs))) st
  | [], z => ⟨z, by rw [List.map_nil, forL_nil hc]; rfl⟩
  | q :: qs, z => by
    by_cases h : q > 0
    · have d : decide (q > 0) = true := decide_eq_true h
      have hb : l0__law_first_due [some (.ref r), some (.int q)] st = .ok (.rt (.int q)) st := by simp -implicitDefEqProofs +decide only [varF_ap, cF_ap, opF_ap, opK_ap, bF_ap, boolK_ap, andT_ap, andK_ap, orT_ap, orK_ap, notT_ap, notK_ap, yesT_ap, andV_ap, andVK_ap, orV_ap, orVK_ap, notV_ap, notVK_ap, ifF_ap, ifFK_ap, nilA_ap, consA_ap, consK_ap, consJ_ap, tupA_ap, lstA_ap, newO_ap, dicF_ap, callF_ap, un1_ap, methF_ap, nonO_ap, someO_ap, someK_ap, slF_ap, slK_ap, slJ_ap, itF_ap, itA_ap, nilS_ap, bkS_ap, ctS_ap, seqS_ap, seqK_nx, seqK_rt, seqK_bk, seqK_ct, dropS_ap, dropK_ap, retS_ap, retK_ap, retN_ap, ifS_ap, ifK_ap, setS_ap, setK_ap, asgS_ap, asgK_ap, asgJ_ap, nameG_ap, nilG_ap, consG_ap, consGK_ap, fnF_ap, fnK_nx, fnK_rt, forS_ap, forK_ap, negD_ap, addI_ap, varK_ap, startE, yes2, isN, List.map_cons, List.map_nil, List.length_cons, List.length_nil, List.replicate, List.append_nil, List.cons_append, List.nil_append, List.getElem?_cons_zero, List.getElem?_cons_succ, List.set_cons_zero, List.set_cons_succ, R.bind_ok, R.bind_ex, R.bind_bad, R.noex_ok, if_true, if_false, Bool.false_eq_true, Bool.true_eq_false, ite_true, ite_false, reduceIte, Nat.reduceAdd, Nat.reduceSub, Nat.zero_add, Nat.sub_self, Nat.sub_zero, decide_true, decide_false, Bool.not_true, Bool.not_false, subD_ap, ltD_ap, leD_ap, gtD_ap, geD_ap, mulD_ap, modD_ap, divD_ap, powD_ap, tupK_ok, lstK_ok, methK_ok, tupG_ok, eqS_t, eqS_f, neS_t, neS_f, eqI_ap, neI_ap, inT_nil, inT_hit, inT_miss, ne_eq, not_false_eq_true, l0__law_first_due, d]
      refine ⟨z, ?_⟩
      rw [List.map_cons, forL_cons hc, fd_pos h, if_neg (by omega)]
      show ((l0__law_first_due [some (.ref r), some (.int q)] st).bind _) = _
      rw [hb]; rfl
    · have d : decide (q > 0) = false := decide_eq_false h
      have hb : l0__law_first_due [some (.ref r), some (.int q)] st = .ok (.nx [some (.ref r), some (.int q)]) st := by simp -implicitDefEqProofs +decide only [varF_ap, cF_ap, opF_ap, opK_ap, bF_ap, boolK_ap, andT_ap, andK_ap, orT_ap, orK_ap, notT_ap, notK_ap, yesT_ap, andV_ap, andVK_ap, orV_ap, orVK_ap, notV_ap, notVK_ap, ifF_ap, ifFK_ap, nilA_ap, consA_ap, consK_ap, consJ_ap, tupA_ap, lstA_ap, newO_ap, dicF_ap, callF_ap, un1_ap, methF_ap, nonO_ap, someO_ap, someK_ap, slF_ap, slK_ap, slJ_ap, itF_ap, itA_ap, nilS_ap, bkS_ap, ctS_ap, seqS_ap, seqK_nx, seqK_rt, seqK_bk, seqK_ct, dropS_ap, dropK_ap, retS_ap, retK_ap, retN_ap, ifS_ap, ifK_ap, setS_ap, setK_ap, asgS_ap, asgK_ap, asgJ_ap, nameG_ap, nilG_ap, consG_ap, consGK_ap, fnF_ap, fnK_nx, fnK_rt, forS_ap, forK_ap, negD_ap, addI_ap, varK_ap, startE, yes2, isN, List.map_cons, List.map_nil, List.length_cons, List.length_nil, List.replicate, List.append_nil, List.cons_append, List.nil_append, List.getElem?_cons_zero, List.getElem?_cons_succ, List.set_cons_zero, List.set_cons_succ, R.bind_ok, R.bind_ex, R.bind_bad, R.noex_ok, if_true, if_false, Bool.false_eq_true, Bool.true_eq_false, ite_true, ite_false, reduceIte, Nat.reduceAdd, Nat.reduceSub, Nat.zero_add, Nat.sub_self, Nat.sub_zero, decide_true, decide_false, Bool.not_true, Bool.not_false, subD_ap, ltD_ap, leD_ap, gtD_ap, geD_ap, mulD_ap, modD_ap, divD_ap, powD_ap, tupK_ok, lstK_ok, methK_ok, tupG_ok, eqS_t, eqS_f, neS_t, neS_f, eqI_ap, neI_ap, inT_nil, inT_hit, inT_miss, ne_eq, not_false_eq_true, l0__law_first_due, d]
      obtain ⟨z', ih⟩ := fd_loop hc qs (some (.int q))
      refine ⟨z', ?_⟩
      have e : fd (q :: qs) = fd qs := if_neg h
      rw [List.map_cons, forL_cons hc, e, ← ih]
      show ((l0__law_first_due [some (.ref r), some (.int q)] st).bind _) = _
      rw [hb]; rfl
theorem due_ok {r : Nat} {qs : List Int} {st : Sto} (h : listAt st r = some (qs.map .int)) : f__law_first_due [.ref r] st = .ok (.int (fd qs)) st := by
  obtain ⟨z', h1⟩ := fd_loop (r := r) (st := st) (c := chkAt st r) (by
    obtain ⟨o, ho⟩ : ∃ o, st[r]? = some o := by
      unfold listAt at h
      cases e : st[r]? with
      | none => rw [e] at h; cases h
      | some o => exact ⟨o, rfl⟩
    exact chkAt_ok ho ho) qs none
  have it : itD (.ref r) st = .ok (qs.map .int, chkAt st r) st := itD_list h
  by_cases h0 : fd qs = 0
  · rw [if_pos h0] at h1
    rw [h0]
    simp -implicitDefEqProofs +decide only [varF_ap, cF_ap, opF_ap, opK_ap, bF_ap, boolK_ap, andT_ap, andK_ap, orT_ap, orK_ap, notT_ap, notK_ap, yesT_ap, andV_ap, andVK_ap, orV_ap, orVK_ap, notV_ap, notVK_ap, ifF_ap, ifFK_ap, nilA_ap, consA_ap, consK_ap, consJ_ap, tupA_ap, lstA_ap, newO_ap, dicF_ap, callF_ap, un1_ap, methF_ap, nonO_ap, someO_ap, someK_ap, slF_ap, slK_ap, slJ_ap, itF_ap, itA_ap, nilS_ap, bkS_ap, ctS_ap, seqS_ap, seqK_nx, seqK_rt, seqK_bk, seqK_ct, dropS_ap, dropK_ap, retS_ap, retK_ap, retN_ap, ifS_ap, ifK_ap, setS_ap, setK_ap, asgS_ap, asgK_ap, asgJ_ap, nameG_ap, nilG_ap, consG_ap, consGK_ap, fnF_ap, fnK_nx, fnK_rt, forS_ap, forK_ap, negD_ap, addI_ap, varK_ap, startE, yes2, isN, List.map_cons, List.map_nil, List.length_cons, List.length_nil, List.replicate, List.append_nil, List.cons_append, List.nil_append, List.getElem?_cons_zero, List.getElem?_cons_succ, List.set_cons_zero, List.set_cons_succ, R.bind_ok, R.bind_ex, R.bind_bad, R.noex_ok, if_true, if_false, Bool.false_eq_true, Bool.true_eq_false, ite_true, ite_false, reduceIte, Nat.reduceAdd, Nat.reduceSub, Nat.zero_add, Nat.sub_self, Nat.sub_zero, decide_true, decide_false, Bool.not_true, Bool.not_false, subD_ap, ltD_ap, leD_ap, gtD_ap, geD_ap, mulD_ap, modD_ap, divD_ap, powD_ap, tupK_ok, lstK_ok, methK_ok, tupG_ok, eqS_t, eqS_f, neS_t, neS_f, eqI_ap, neI_ap, inT_nil, inT_hit, inT_miss, ne_eq, not_false_eq_true, f__law_first_due, b__law_first_due, it, h1]
  · rw [if_neg h0] at h1
    simp -implicitDefEqProofs +decide only [varF_ap, cF_ap, opF_ap, opK_ap, bF_ap, boolK_ap, andT_ap, andK_ap, orT_ap, orK_ap, notT_ap, notK_ap, yesT_ap, andV_ap, andVK_ap, orV_ap, orVK_ap, notV_ap, notVK_ap, ifF_ap, ifFK_ap, nilA_ap, consA_ap, consK_ap, consJ_ap, tupA_ap, lstA_ap, newO_ap, dicF_ap, callF_ap, un1_ap, methF_ap, nonO_ap, someO_ap, someK_ap, slF_ap, slK_ap, slJ_ap, itF_ap, itA_ap, nilS_ap, bkS_ap, ctS_ap, seqS_ap, seqK_nx, seqK_rt, seqK_bk, seqK_ct, dropS_ap, dropK_ap, retS_ap, retK_ap, retN_ap, ifS_ap, ifK_ap, setS_ap, setK_ap, asgS_ap, asgK_ap, asgJ_ap, nameG_ap, nilG_ap, consG_ap, consGK_ap, fnF_ap, fnK_nx, fnK_rt, forS_ap, forK_ap, negD_ap, addI_ap, varK_ap, startE, yes2, isN, List.map_cons, List.map_nil, List.length_cons, List.length_nil, List.replicate, List.append_nil, List.cons_append, List.nil_append, List.getElem?_cons_zero, List.getElem?_cons_succ, List.set_cons_zero, List.set_cons_succ, R.bind_ok, R.bind_ex, R.bind_bad, R.noex_ok, if_true, if_false, Bool.false_eq_true, Bool.true_eq_false, ite_true, ite_false, reduceIte, Nat.reduceAdd, Nat.reduceSub, Nat.zero_add, Nat.sub_self, Nat.sub_zero, decide_true, decide_false, Bool.not_true, Bool.not_false, subD_ap, ltD_ap, leD_ap, gtD_ap, geD_ap, mulD_ap, modD_ap, divD_ap, powD_ap, tupK_ok, lstK_ok, methK_ok, tupG_ok, eqS_t, eqS_f, neS_t, neS_f, eqI_ap, neI_ap, inT_nil, inT_hit, inT_miss, ne_eq, not_false_eq_true, f__law_first_due, b__law_first_due, it, h1]
theorem due2 {S : Sto} {a b : Int} : f__law_first_due [.ref S.length] (S ++ [.lst [.int a, .int b]]) = .ok (.int (fd [a, b])) (S ++ [.lst [.int a, .int b]]) := due_ok (qs := [a, b]) listAt_last
theorem due3 {S : Sto} {a b c : Int} : f__law_first_due [.ref S.length] (S ++ [.lst [.int a, .int b, .int c]]) = .ok (.int (fd [a, b, c])) (S ++ [.lst [.int a, .int b, .int c]]) := due_ok (qs := [a, b, c]) listAt_last
theorem due4 {S : Sto} {a b c d : Int} : f__law_first_due [.ref S.length] (S ++ [.lst [.int a, .int b, .int c, .int d]]) = .ok (.int (fd [a, b, c, d])) (S ++ [.lst [.int a, .int b, .int c, .int d]]) := due_ok (qs := [a, b, c, d]) listAt_last
theorem fd_range : ∀ {qs : List Int}, (∀ q ∈ qs, q ≤ 5) → 0 ≤ fd qs ∧ fd qs ≤ 5
  | [], _ => ⟨by decide, by decide⟩
  | q :: qs, h => by
    unfold fd
    split
    · exact ⟨by omega, h q List.mem_cons_self⟩
    · exact fd_range fun q hq => h q (List.mem_cons_of_mem _ hq)
theorem beyond_ok {w : Int} {st : Sto} : f__law_beyond [.int w] st = .ok (.int (wd w)) st := by
  have m4 := mul_l (a := 4) (by decide) (if decide (w > 12) = true then 1 else 0)
  have e : (4 : Int) * (if decide (w > 12) = true then 1 else 0) = wd w := by
    unfold wd
    by_cases h : w > 12
    · rw [if_pos (decide_eq_true h), if_pos h]; rfl
    · rw [if_neg (by rw [decide_eq_false h]; exact Bool.false_ne_true), if_neg h]; rfl
  simp -implicitDefEqProofs +decide only [varF_ap, cF_ap, opF_ap, opK_ap, bF_ap, boolK_ap, andT_ap, andK_ap, orT_ap, orK_ap, notT_ap, notK_ap, yesT_ap, andV_ap, andVK_ap, orV_ap, orVK_ap, notV_ap, notVK_ap, ifF_ap, ifFK_ap, nilA_ap, consA_ap, consK_ap, consJ_ap, tupA_ap, lstA_ap, newO_ap, dicF_ap, callF_ap, un1_ap, methF_ap, nonO_ap, someO_ap, someK_ap, slF_ap, slK_ap, slJ_ap, itF_ap, itA_ap, nilS_ap, bkS_ap, ctS_ap, seqS_ap, seqK_nx, seqK_rt, seqK_bk, seqK_ct, dropS_ap, dropK_ap, retS_ap, retK_ap, retN_ap, ifS_ap, ifK_ap, setS_ap, setK_ap, asgS_ap, asgK_ap, asgJ_ap, nameG_ap, nilG_ap, consG_ap, consGK_ap, fnF_ap, fnK_nx, fnK_rt, forS_ap, forK_ap, negD_ap, addI_ap, varK_ap, startE, yes2, isN, List.map_cons, List.map_nil, List.length_cons, List.length_nil, List.replicate, List.append_nil, List.cons_append, List.nil_append, List.getElem?_cons_zero, List.getElem?_cons_succ, List.set_cons_zero, List.set_cons_succ, R.bind_ok, R.bind_ex, R.bind_bad, R.noex_ok, if_true, if_false, Bool.false_eq_true, Bool.true_eq_false, ite_true, ite_false, reduceIte, Nat.reduceAdd, Nat.reduceSub, Nat.zero_add, Nat.sub_self, Nat.sub_zero, decide_true, decide_false, Bool.not_true, Bool.not_false, subD_ap, ltD_ap, leD_ap, gtD_ap, geD_ap, mulD_ap, modD_ap, divD_ap, powD_ap, tupK_ok, lstK_ok, methK_ok, tupG_ok, eqS_t, eqS_f, neS_t, neS_f, eqI_ap, neI_ap, inT_nil, inT_hit, inT_miss, ne_eq, not_false_eq_true, f__law_beyond, b__law_beyond, tf, m4]
  rw [e]
theorem ixN_nat {n i : Nat} (h : i < n) : ixN n (i : Int) = some i := by
  unfold ixN
  rw [if_pos (by omega), if_pos (by omega), Int.toNat_natCast]
theorem bey_0 {ps : List Int} {x : Int} (h : ∀ p ∈ ps, p < x) : bey ps x = 0 := by
  unfold bey
  rw [if_neg]
  rw [Bool.not_eq_true, List.any_eq_false]
  intro p hp
  have := h p hp
  simp only [decide_eq_true_eq]
  omega
theorem bey_2 {ps : List Int} {x p : Int} (hp : p ∈ ps) (h : x ≤ p) : bey ps x = 2 := by
  unfold bey
  rw [if_pos]
  rw [List.any_eq_true]
  exact ⟨p, hp, decide_eq_true h⟩
theorem bey_le {ps : List Int} {x : Int} : bey ps x = 0 ∨ bey ps x = 2 := by
  unfold bey
  split
  · exact .inr rfl
  · exact .inl rfl
theorem spots_ok {n x : Int} {m : Nat} {st : Sto} (hx1 : 1 ≤ x) (hx2 : x ≤ 12) (hm : m ≤ 20) : ∃ r ps S, f__law_spots [.int n, .int m, .int x] st = .ok (.tup [.ref r, .int (bey ps x)]) S ∧ Le st S ∧ S[r]? = some (.lst ((ps : List Int).map .int)) ∧ ps.length = m := by
  have v3 : (3 : Int).natAbs.log2 < 9000 := by decide +kernel
  have v36 : (36 : Int).natAbs.log2 < 9000 := by decide +kernel
  have h0 : 0 < x := by omega
  have d1 := digits_ok (n := n / 3) (top := x) (k := m) (st := st) h0 (l2w hx1 (by omega)) (by omega)
  have e0 : bey (digs x m (n / 3)) x = 0 := bey_0 fun p hp => (digs_bd h0 _ _ _ hp).2
  by_cases c : n % 3 = 1 ∧ 0 < m ∧ x < 12
  · obtain ⟨c1, c2, c3⟩ := c
    have t1 : decide ((m : Int) > 0) = true := decide_eq_true (by omega)
    have t2 : decide (x < 12) = true := decide_eq_true c3
    have m0 : (0 : Int) < m := by omega
    have p12 : (0 : Int) < 12 - x := by omega
    obtain ⟨j, hj⟩ : ∃ j : Nat, n / 3 % m = j := ⟨(n / 3 % m).toNat, by have := Int.emod_nonneg (n / 3) (show (m : Int) ≠ 0 by omega); omega⟩
    have hjm : j < m := by have := Int.emod_lt_of_pos (n / 3) m0; omega
    obtain ⟨v, hv⟩ : ∃ v, v = x + n / 36 % (12 - x) := ⟨_, rfl⟩
    have hvx : x ≤ v := by have := Int.emod_nonneg (n / 36) (show 12 - x ≠ 0 by omega); omega
    have s1 : setIx (.ref st.length) (.int (j : Int)) (.int v) (st ++ [.lst (digsD x m (n / 3))]) = .ok () (st ++ [.lst ((digsD x m (n / 3)).set j (.int v))]) := by
      unfold setIx
      simp only [get_last, digsD_len, ixN_nat hjm, set_last]
    have sub : subG (varF 3) (opF modD (opF divD (varF 0) (cF (.int 3))) (varF 1)) setIx (.int v) [some (.int n), some (.int m), some (.int x), some (.ref st.length)] (st ++ [.lst (digsD x m (n / 3))]) = .ok [some (.int n), some (.int m), some (.int x), some (.ref st.length)] (st ++ [.lst ((digsD x m (n / 3)).set j (.int v))]) := by
      unfold subG
      simp -implicitDefEqProofs +decide only [varF_ap, cF_ap, opF_ap, opK_ap, bF_ap, boolK_ap, andT_ap, andK_ap, orT_ap, orK_ap, notT_ap, notK_ap, yesT_ap, andV_ap, andVK_ap, orV_ap, orVK_ap, notV_ap, notVK_ap, ifF_ap, ifFK_ap, nilA_ap, consA_ap, consK_ap, consJ_ap, tupA_ap, lstA_ap, newO_ap, dicF_ap, callF_ap, un1_ap, methF_ap, nonO_ap, someO_ap, someK_ap, slF_ap, slK_ap, slJ_ap, itF_ap, itA_ap, nilS_ap, bkS_ap, ctS_ap, seqS_ap, seqK_nx, seqK_rt, seqK_bk, seqK_ct, dropS_ap, dropK_ap, retS_ap, retK_ap, retN_ap, ifS_ap, ifK_ap, setS_ap, setK_ap, asgS_ap, asgK_ap, asgJ_ap, nameG_ap, nilG_ap, consG_ap, consGK_ap, fnF_ap, fnK_nx, fnK_rt, forS_ap, forK_ap, negD_ap, addI_ap, varK_ap, startE, yes2, isN, List.map_cons, List.map_nil, List.length_cons, List.length_nil, List.replicate, List.append_nil, List.cons_append, List.nil_append, List.getElem?_cons_zero, List.getElem?_cons_succ, List.set_cons_zero, List.set_cons_succ, R.bind_ok, R.bind_ex, R.bind_bad, R.noex_ok, if_true, if_false, Bool.false_eq_true, Bool.true_eq_false, ite_true, ite_false, reduceIte, Nat.reduceAdd, Nat.reduceSub, Nat.zero_add, Nat.sub_self, Nat.sub_zero, decide_true, decide_false, Bool.not_true, Bool.not_false, subD_ap, ltD_ap, leD_ap, gtD_ap, geD_ap, mulD_ap, modD_ap, divD_ap, powD_ap, tupK_ok, lstK_ok, methK_ok, tupG_ok, eqS_t, eqS_f, neS_t, neS_f, eqI_ap, neI_ap, inT_nil, inT_hit, inT_miss, ne_eq, not_false_eq_true, v3, m0, hj]
      rw [s1]; rfl
    refine ⟨st.length, (digs x m (n / 3)).set j v, st ++ [.lst ((digsD x m (n / 3)).set j (.int v))], ?_, Le.app _ _, by rw [get_last, digsD, List.map_set], by rw [List.length_set, digs_len]⟩
    have e2 : bey ((digs x m (n / 3)).set j v) x = 2 := bey_2 (List.mem_iff_getElem?.mpr ⟨j, by rw [List.getElem?_set_self (by rw [digs_len]; exact hjm)]⟩) hvx
    rw [e2]
    simp -implicitDefEqProofs +decide only [varF_ap, cF_ap, opF_ap, opK_ap, bF_ap, boolK_ap, andT_ap, andK_ap, orT_ap, orK_ap, notT_ap, notK_ap, yesT_ap, andV_ap, andVK_ap, orV_ap, orVK_ap, notV_ap, notVK_ap, ifF_ap, ifFK_ap, nilA_ap, consA_ap, consK_ap, consJ_ap, tupA_ap, lstA_ap, newO_ap, dicF_ap, callF_ap, un1_ap, methF_ap, nonO_ap, someO_ap, someK_ap, slF_ap, slK_ap, slJ_ap, itF_ap, itA_ap, nilS_ap, bkS_ap, ctS_ap, seqS_ap, seqK_nx, seqK_rt, seqK_bk, seqK_ct, dropS_ap, dropK_ap, retS_ap, retK_ap, retN_ap, ifS_ap, ifK_ap, setS_ap, setK_ap, asgS_ap, asgK_ap, asgJ_ap, nameG_ap, nilG_ap, consG_ap, consGK_ap, fnF_ap, fnK_nx, fnK_rt, forS_ap, forK_ap, negD_ap, addI_ap, varK_ap, startE, yes2, isN, List.map_cons, List.map_nil, List.length_cons, List.length_nil, List.replicate, List.append_nil, List.cons_append, List.nil_append, List.getElem?_cons_zero, List.getElem?_cons_succ, List.set_cons_zero, List.set_cons_succ, R.bind_ok, R.bind_ex, R.bind_bad, R.noex_ok, if_true, if_false, Bool.false_eq_true, Bool.true_eq_false, ite_true, ite_false, reduceIte, Nat.reduceAdd, Nat.reduceSub, Nat.zero_add, Nat.sub_self, Nat.sub_zero, decide_true, decide_false, Bool.not_true, Bool.not_false, subD_ap, ltD_ap, leD_ap, gtD_ap, geD_ap, mulD_ap, modD_ap, divD_ap, powD_ap, tupK_ok, lstK_ok, methK_ok, tupG_ok, eqS_t, eqS_f, neS_t, neS_f, eqI_ap, neI_ap, inT_nil, inT_hit, inT_miss, ne_eq, not_false_eq_true, f__law_spots, b__law_spots, v3, v36, d1, c1, t1, t2, p12, ← hv, sub, sz (by decide : 2 ≤ 100)]
  · refine ⟨st.length, digs x m (n / 3), st ++ [.lst (digsD x m (n / 3))], ?_, Le.app _ _, get_last, digs_len _ _ _⟩
    rw [e0]
    by_cases c1 : n % 3 = 1
    · by_cases c2 : 0 < m
      · have c3 : ¬ x < 12 := fun h => c ⟨c1, c2, h⟩
        have t1 : decide ((m : Int) > 0) = true := decide_eq_true (by omega)
        have t2 : decide (x < 12) = false := decide_eq_false c3
        simp -implicitDefEqProofs +decide only [varF_ap, cF_ap, opF_ap, opK_ap, bF_ap, boolK_ap, andT_ap, andK_ap, orT_ap, orK_ap, notT_ap, notK_ap, yesT_ap, andV_ap, andVK_ap, orV_ap, orVK_ap, notV_ap, notVK_ap, ifF_ap, ifFK_ap, nilA_ap, consA_ap, consK_ap, consJ_ap, tupA_ap, lstA_ap, newO_ap, dicF_ap, callF_ap, un1_ap, methF_ap, nonO_ap, someO_ap, someK_ap, slF_ap, slK_ap, slJ_ap, itF_ap, itA_ap, nilS_ap, bkS_ap, ctS_ap, seqS_ap, seqK_nx, seqK_rt, seqK_bk, seqK_ct, dropS_ap, dropK_ap, retS_ap, retK_ap, retN_ap, ifS_ap, ifK_ap, setS_ap, setK_ap, asgS_ap, asgK_ap, asgJ_ap, nameG_ap, nilG_ap, consG_ap, consGK_ap, fnF_ap, fnK_nx, fnK_rt, forS_ap, forK_ap, negD_ap, addI_ap, varK_ap, startE, yes2, isN, List.map_cons, List.map_nil, List.length_cons, List.length_nil, List.replicate, List.append_nil, List.cons_append, List.nil_append, List.getElem?_cons_zero, List.getElem?_cons_succ, List.set_cons_zero, List.set_cons_succ, R.bind_ok, R.bind_ex, R.bind_bad, R.noex_ok, if_true, if_false, Bool.false_eq_true, Bool.true_eq_false, ite_true, ite_false, reduceIte, Nat.reduceAdd, Nat.reduceSub, Nat.zero_add, Nat.sub_self, Nat.sub_zero, decide_true, decide_false, Bool.not_true, Bool.not_false, subD_ap, ltD_ap, leD_ap, gtD_ap, geD_ap, mulD_ap, modD_ap, divD_ap, powD_ap, tupK_ok, lstK_ok, methK_ok, tupG_ok, eqS_t, eqS_f, neS_t, neS_f, eqI_ap, neI_ap, inT_nil, inT_hit, inT_miss, ne_eq, not_false_eq_true, f__law_spots, b__law_spots, v3, v36, d1, c1, t1, t2, sz (by decide : 2 ≤ 100)]
      · have t1 : decide ((m : Int) > 0) = false := decide_eq_false (by omega)
        simp -implicitDefEqProofs +decide only [varF_ap, cF_ap, opF_ap, opK_ap, bF_ap, boolK_ap, andT_ap, andK_ap, orT_ap, orK_ap, notT_ap, notK_ap, yesT_ap, andV_ap, andVK_ap, orV_ap, orVK_ap, notV_ap, notVK_ap, ifF_ap, ifFK_ap, nilA_ap, consA_ap, consK_ap, consJ_ap, tupA_ap, lstA_ap, newO_ap, dicF_ap, callF_ap, un1_ap, methF_ap, nonO_ap, someO_ap, someK_ap, slF_ap, slK_ap, slJ_ap, itF_ap, itA_ap, nilS_ap, bkS_ap, ctS_ap, seqS_ap, seqK_nx, seqK_rt, seqK_bk, seqK_ct, dropS_ap, dropK_ap, retS_ap, retK_ap, retN_ap, ifS_ap, ifK_ap, setS_ap, setK_ap, asgS_ap, asgK_ap, asgJ_ap, nameG_ap, nilG_ap, consG_ap, consGK_ap, fnF_ap, fnK_nx, fnK_rt, forS_ap, forK_ap, negD_ap, addI_ap, varK_ap, startE, yes2, isN, List.map_cons, List.map_nil, List.length_cons, List.length_nil, List.replicate, List.append_nil, List.cons_append, List.nil_append, List.getElem?_cons_zero, List.getElem?_cons_succ, List.set_cons_zero, List.set_cons_succ, R.bind_ok, R.bind_ex, R.bind_bad, R.noex_ok, if_true, if_false, Bool.false_eq_true, Bool.true_eq_false, ite_true, ite_false, reduceIte, Nat.reduceAdd, Nat.reduceSub, Nat.zero_add, Nat.sub_self, Nat.sub_zero, decide_true, decide_false, Bool.not_true, Bool.not_false, subD_ap, ltD_ap, leD_ap, gtD_ap, geD_ap, mulD_ap, modD_ap, divD_ap, powD_ap, tupK_ok, lstK_ok, methK_ok, tupG_ok, eqS_t, eqS_f, neS_t, neS_f, eqI_ap, neI_ap, inT_nil, inT_hit, inT_miss, ne_eq, not_false_eq_true, f__law_spots, b__law_spots, v3, v36, d1, c1, t1, sz (by decide : 2 ≤ 100)]
    · simp -implicitDefEqProofs +decide only [varF_ap, cF_ap, opF_ap, opK_ap, bF_ap, boolK_ap, andT_ap, andK_ap, orT_ap, orK_ap, notT_ap, notK_ap, yesT_ap, andV_ap, andVK_ap, orV_ap, orVK_ap, notV_ap, notVK_ap, ifF_ap, ifFK_ap, nilA_ap, consA_ap, consK_ap, consJ_ap, tupA_ap, lstA_ap, newO_ap, dicF_ap, callF_ap, un1_ap, methF_ap, nonO_ap, someO_ap, someK_ap, slF_ap, slK_ap, slJ_ap, itF_ap, itA_ap, nilS_ap, bkS_ap, ctS_ap, seqS_ap, seqK_nx, seqK_rt, seqK_bk, seqK_ct, dropS_ap, dropK_ap, retS_ap, retK_ap, retN_ap, ifS_ap, ifK_ap, setS_ap, setK_ap, asgS_ap, asgK_ap, asgJ_ap, nameG_ap, nilG_ap, consG_ap, consGK_ap, fnF_ap, fnK_nx, fnK_rt, forS_ap, forK_ap, negD_ap, addI_ap, varK_ap, startE, yes2, isN, List.map_cons, List.map_nil, List.length_cons, List.length_nil, List.replicate, List.append_nil, List.cons_append, List.nil_append, List.getElem?_cons_zero, List.getElem?_cons_succ, List.set_cons_zero, List.set_cons_succ, R.bind_ok, R.bind_ex, R.bind_bad, R.noex_ok, if_true, if_false, Bool.false_eq_true, Bool.true_eq_false, ite_true, ite_false, reduceIte, Nat.reduceAdd, Nat.reduceSub, Nat.zero_add, Nat.sub_self, Nat.sub_zero, decide_true, decide_false, Bool.not_true, Bool.not_false, subD_ap, ltD_ap, leD_ap, gtD_ap, geD_ap, mulD_ap, modD_ap, divD_ap, powD_ap, tupK_ok, lstK_ok, methK_ok, tupG_ok, eqS_t, eqS_f, neS_t, neS_f, eqI_ap, neI_ap, inT_nil, inT_hit, inT_miss, ne_eq, not_false_eq_true, f__law_spots, b__law_spots, v3, v36, d1, c1, sz (by decide : 2 ≤ 100)]
theorem max_bey {ps : List Int} {x : Int} {r : Nat} {S : Sto} (h : listAt S r = some (ps.map .int)) (hne : ps ≠ []) : ∃ M, maxLD [.ref r] S = .ok (.int M) S ∧ (2 : Int) * (if decide (M ≥ x) = true then 1 else 0) = bey ps x := by
  cases ps with
  | nil => exact absurd rfl hne
  | cons i is =>
    refine ⟨is.foldl max i, by simp only [maxLD, h, Option.bind_some, ints_map], ?_⟩
    obtain ⟨g1, g2⟩ := foldl_max_ge is i
    by_cases c : is.foldl max i ≥ x
    · rw [if_pos (decide_eq_true c)]
      rcases foldl_max_mem is i with e | e
      · rw [bey_2 List.mem_cons_self (show x ≤ i by omega)]; rfl
      · rw [bey_2 (List.mem_cons_of_mem _ e) c]; rfl
    · rw [if_neg (by rw [decide_eq_false c]; exact Bool.false_ne_true), bey_0]
      · rfl
      · intro p hp
        rcases List.mem_cons.mp hp with rfl | hp
        · omega
        · have := g2 p hp; omega
/-! columns and tests -/
def atD (p : Int) : VL.D := .tup [.str "at", .int p]
theorem Ex.succ : ∀ {n : Nat} {e : VL.D}, Ex n e → Ex (n + 1) e
  | 0, _, h => by cases h
  | n + 1, e, h => by
    rcases h with h | ⟨w, xs, h1, h2, h3, h4⟩
    · exact .inl h
    · exact .inr ⟨w, xs, h1, h2, h3, fun x hx => (h4 x hx).imp id Ex.succ⟩
theorem Ex.up {n m : Nat} {e : VL.D} (h : Ex n e) (k : n ≤ m) : Ex m e := by
  induction k with
  | refl => exact h
  | step _ ih => exact ih.succ
theorem Ex.at {p : Int} {n : Nat} : Ex (n + 1) (atD p) := .inl ⟨p, rfl⟩
def PcW (n : Nat) (x : VL.D) : Prop := (∃ i, x = .int i) ∨ Ex n x
theorem Ex.node {n : Nat} {w : Str} {xs : List VL.D} (hw : w ≠ "at") (hl : Nat.ble xs.length 8 = true) (h : ∀ x ∈ xs, PcW n x) : Ex (n + 1) (.tup (.str w :: xs)) := .inr ⟨w, xs, rfl, hw, Nat.le_of_ble_eq_true hl, h⟩
theorem allNil {n : Nat} : ∀ x ∈ ([] : List VL.D), PcW n x := fun x hx => nomatch hx
theorem allCons {n : Nat} {a : VL.D} {xs : List VL.D} (h : PcW n a) (k : ∀ x ∈ xs, PcW n x) : ∀ x ∈ a :: xs, PcW n x := fun x hx => by
  rcases List.mem_cons.mp hx with rfl | hx
  · exact h
  · exact k x hx
theorem PcW.int {i : Int} {n : Nat} : PcW n (.int i) := .inl ⟨i, rfl⟩
theorem ex0 {n : Nat} {w : Str} (hw : w ≠ "at") : PcW (n + 1) (.tup [.str w]) := .inr (.node hw rfl allNil)
theorem ex1 {n : Nat} {w : Str} {a : VL.D} (hw : w ≠ "at") (ha : PcW n a) : PcW (n + 1) (.tup [.str w, a]) := .inr (.node hw rfl (allCons ha allNil))
theorem ex2 {n : Nat} {w : Str} {a b : VL.D} (hw : w ≠ "at") (ha : PcW n a) (hb : PcW n b) : PcW (n + 1) (.tup [.str w, a, b]) := .inr (.node hw rfl (allCons ha (allCons hb allNil)))
theorem ex3 {n : Nat} {w : Str} {a b c : VL.D} (hw : w ≠ "at") (ha : PcW n a) (hb : PcW n b) (hc : PcW n c) : PcW (n + 1) (.tup [.str w, a, b, c]) := .inr (.node hw rfl (allCons ha (allCons hb (allCons hc allNil))))
theorem exA {p : Int} {n : Nat} : PcW (n + 1) (atD p) := .inr Ex.at
theorem PcW.ex {n : Nat} {xs : List VL.D} (h : PcW n (.tup xs)) : Ex n (.tup xs) := by
  rcases h with ⟨i, h⟩ | h
  · cases h
  · exact h
def askL (p : Int) : List VL.D := [.tup [.str "below", atD p, .tup [.str "num", .int 3]], .tup [.str "not", .tup [.str "same", atD p, .tup [.str "gap"]]], .tup [.str "below", .tup [.str "times", .int 3, atD p], .tup [.str "num", .int 0]],
  .tup [.str "and", .tup [.str "same", .tup [.str "gap"], .tup [.str "gap"]], .tup [.str "below", .tup [.str "num", .int 1], atD p]], .tup [.str "same", .tup [.str "gap"], .tup [.str "plus", atD p, .tup [.str "gap"]]],
  .tup [.str "same", .tup [.str "part", .int 2, atD p], .tup [.str "gap"]], .tup [.str "same", .tup [.str "num", .int 5], .tup [.str "minus", .tup [.str "num", .int 1], atD p]],
  .tup [.str "below", .tup [.str "if", .tup [.str "below", atD p, .tup [.str "num", .int 0]], .tup [.str "gap"], .tup [.str "num", .int 1]], .tup [.str "num", .int 2]]]
theorem askL_ok {p : Int} {e : VL.D} (h : e ∈ askL p) : Ex 4 e ∧ plc e = [p] := by
  simp only [askL, List.mem_cons, List.not_mem_nil, or_false] at h
  rcases h with rfl | rfl | rfl | rfl | rfl | rfl | rfl | rfl
  · exact ⟨(ex2 (by decide) exA (ex1 (by decide) .int)).ex, by simp +decide [plc, plcH, plcs, atD]⟩
  · exact ⟨(ex1 (by decide) (ex2 (by decide) exA (ex0 (by decide)))).ex, by simp +decide [plc, plcH, plcs, atD]⟩
  · exact ⟨(ex2 (by decide) (ex2 (by decide) .int exA) (ex1 (by decide) .int)).ex, by simp +decide [plc, plcH, plcs, atD]⟩
  · exact ⟨(ex2 (by decide) (ex2 (by decide) (ex0 (by decide)) (ex0 (by decide))) (ex2 (by decide) (ex1 (by decide) .int) exA)).ex, by simp +decide [plc, plcH, plcs, atD]⟩
  · exact ⟨(ex2 (by decide) (ex0 (by decide)) (ex2 (by decide) exA (ex0 (by decide)))).ex, by simp +decide [plc, plcH, plcs, atD]⟩
  · exact ⟨(ex2 (by decide) (ex2 (by decide) .int exA) (ex0 (by decide))).ex, by simp +decide [plc, plcH, plcs, atD]⟩
  · exact ⟨(ex2 (by decide) (ex1 (by decide) .int) (ex2 (by decide) (ex1 (by decide) .int) exA)).ex, by simp +decide [plc, plcH, plcs, atD]⟩
  · exact ⟨(ex2 (by decide) (ex3 (by decide) (ex2 (by decide) exA (ex1 (by decide) .int)) (ex0 (by decide)) (ex1 (by decide) .int)) (ex1 (by decide) .int)).ex, by simp +decide [plc, plcH, plcs, atD]⟩
def noneD : VL.D := .tup [.str "same", atD 0, .tup [.str "gap"]]
def termL (p : Int) : List VL.D := [.tup [.str "minus", .tup [.str "num", .int 1], atD p], .tup [.str "plus", atD p, .tup [.str "num", .int 1]], .tup [.str "times", .int 2, atD p], .tup [.str "part", .int 3, atD p], .tup [.str "rest", .int 4, atD p], atD p,
  .tup [.str "if", .tup [.str "below", atD p, .tup [.str "num", .int 0]], .tup [.str "gap"], .tup [.str "num", .int 1]], .tup [.str "if", noneD, atD p, .tup [.str "gap"]], .tup [.str "if", noneD, .tup [.str "gap"], atD p],
  .tup [.str "if", .tup [.str "not", .tup [.str "same", atD 0, atD p]], .tup [.str "num", .int 1], atD 0]]
theorem termL_ok {p : Int} {e : VL.D} (h : e ∈ termL p) : Ex 4 e ∧ p ∈ plc e ∧ ∀ r ∈ plc e, r = p ∨ r = 0 := by
  simp only [termL, List.mem_cons, List.not_mem_nil, or_false] at h
  have exN : PcW 2 noneD := ex2 (by decide) exA (ex0 (by decide))
  rcases h with rfl | rfl | rfl | rfl | rfl | rfl | rfl | rfl | rfl | rfl
  · exact ⟨(ex2 (by decide) (ex1 (by decide) .int) exA).ex, by simp +decide [plc, plcH, plcs, atD]⟩
  · exact ⟨(ex2 (by decide) exA (ex1 (by decide) .int)).ex, by simp +decide [plc, plcH, plcs, atD]⟩
  · exact ⟨(ex2 (by decide) .int exA).ex, by simp +decide [plc, plcH, plcs, atD]⟩
  · exact ⟨(ex2 (by decide) .int exA).ex, by simp +decide [plc, plcH, plcs, atD]⟩
  · exact ⟨(ex2 (by decide) .int exA).ex, by simp +decide [plc, plcH, plcs, atD]⟩
  · exact ⟨Ex.at, by simp +decide [plc, plcH, plcs, atD]⟩
  · exact ⟨(ex3 (by decide) (ex2 (by decide) exA (ex1 (by decide) .int)) (ex0 (by decide)) (ex1 (by decide) .int)).ex, by simp +decide [plc, plcH, plcs, atD]⟩
  · exact ⟨((ex3 (by decide) exN exA (ex0 (by decide)) : PcW 3 _).ex).up (by decide), by simp +decide [plc, plcH, plcs, atD, noneD]⟩
  · exact ⟨((ex3 (by decide) exN (ex0 (by decide)) exA : PcW 3 _).ex).up (by decide), by simp +decide [plc, plcH, plcs, atD, noneD]⟩
  · exact ⟨(ex3 (by decide) (ex1 (by decide) (ex2 (by decide) exA exA)) (ex1 (by decide) .int) exA).ex, by simp +decide [plc, plcH, plcs, atD]⟩
theorem addLL {S : Sto} {xs ys : List VL.D} (h : xs.length + ys.length ≤ 100) : addD (.ref S.length) (.ref (S ++ [VL.O.lst xs]).length) ((S ++ [VL.O.lst xs]) ++ [VL.O.lst ys]) = .ok (.ref ((S ++ [VL.O.lst xs]) ++ [VL.O.lst ys]).length) (((S ++ [VL.O.lst xs]) ++ [VL.O.lst ys]) ++ [VL.O.lst (xs ++ ys)]) :=
  addD_lst (get_app get_last) get_last (by rw [sizeLine_eq']; omega)
theorem ixL {S : Sto} {xs : List VL.D} {i : Int} {k : Nat} {d : VL.D} (hk : i = k) (h : xs[k]? = some d) : ixD (.ref S.length) (.int i) (S ++ [.lst xs]) = .ok d (S ++ [.lst xs]) := by
  rw [hk]; exact ixD_list listAt_last h
theorem asking_ok {n p : Int} {st : Sto} : ∃ e S, f__law_asking [.int n, atD p] st = .ok e S ∧ Le st S ∧ Ex 4 e ∧ plc e = [p] := by
  obtain ⟨k, hk⟩ : ∃ k : Nat, n % 8 = k := ⟨(n % 8).toNat, by omega⟩
  obtain ⟨e, he⟩ : ∃ e, (askL p)[k]? = some e := ⟨_, List.getElem?_eq_getElem (by show k < 8; omega)⟩
  obtain ⟨h1, h2⟩ := askL_ok (List.mem_of_getElem? he)
  have ix : ∀ S : Sto, ixD (.ref S.length) (.int (n % 8)) (S ++ [.lst (askL p)]) = .ok e (S ++ [.lst (askL p)]) := fun S => ixL hk he
  have L : ∀ S j : Sto, Le S (S ++ j) := Le.app
  simp only [askL, atD] at ix
  refine ⟨e, ?S, ?A, ?B, h1, h2⟩
  case A =>
    unfold atD
    simp -implicitDefEqProofs +decide only [varF_ap, cF_ap, opF_ap, opK_ap, bF_ap, boolK_ap, andT_ap, andK_ap, orT_ap, orK_ap, notT_ap, notK_ap, yesT_ap, andV_ap, andVK_ap, orV_ap, orVK_ap, notV_ap, notVK_ap, ifF_ap, ifFK_ap, nilA_ap, consA_ap, consK_ap, consJ_ap, tupA_ap, lstA_ap, newO_ap, dicF_ap, callF_ap, un1_ap, methF_ap, nonO_ap, someO_ap, someK_ap, slF_ap, slK_ap, slJ_ap, itF_ap, itA_ap, nilS_ap, bkS_ap, ctS_ap, seqS_ap, seqK_nx, seqK_rt, seqK_bk, seqK_ct, dropS_ap, dropK_ap, retS_ap, retK_ap, retN_ap, ifS_ap, ifK_ap, setS_ap, setK_ap, asgS_ap, asgK_ap, asgJ_ap, nameG_ap, nilG_ap, consG_ap, consGK_ap, fnF_ap, fnK_nx, fnK_rt, forS_ap, forK_ap, negD_ap, addI_ap, varK_ap, startE, yes2, isN, List.map_cons, List.map_nil, List.length_cons, List.length_nil, List.replicate, List.append_nil, List.cons_append, List.nil_append, List.getElem?_cons_zero, List.getElem?_cons_succ, List.set_cons_zero, List.set_cons_succ, R.bind_ok, R.bind_ex, R.bind_bad, R.noex_ok, if_true, if_false, Bool.false_eq_true, Bool.true_eq_false, ite_true, ite_false, reduceIte, Nat.reduceAdd, Nat.reduceSub, Nat.zero_add, Nat.sub_self, Nat.sub_zero, decide_true, decide_false, Bool.not_true, Bool.not_false, subD_ap, ltD_ap, leD_ap, gtD_ap, geD_ap, mulD_ap, modD_ap, divD_ap, powD_ap, tupK_ok, lstK_ok, methK_ok, tupG_ok, eqS_t, eqS_f, neS_t, neS_f, eqI_ap, neI_ap, inT_nil, inT_hit, inT_miss, ne_eq, not_false_eq_true, f__law_asking, b__law_asking, addLL, ix, sz (by decide : 1 ≤ 100), sz (by decide : 2 ≤ 100), sz (by decide : 3 ≤ 100), sz (by decide : 4 ≤ 100)]
    rfl
  case B =>
    exact (((((((L _ _).trans (L _ _)).trans (L _ _)).trans (L _ _)).trans (L _ _)).trans (L _ _)).trans (L _ _)).trans ((L _ _).trans (L _ _))
end Law

namespace Law
open PySem L2 VL
theorem rng2_ok {i j : Int} {st : Sto} (h : -1000 ≤ i) (h2 : i ≤ 1000) (h3 : -1000 ≤ j) (h4 : j ≤ 1000) : rng2D [.int i, .int j] st = .ok (intsD i 1 (j - i).toNat, []) st := by
  simp only [rng2D, pow62]
  rw [if_pos ⟨by omega, by omega, by omega, by omega⟩]
theorem term_ok {n p : Int} : ∃ e, (∀ st : Sto, ∃ S, f__law_term [.int n, atD p] st = .ok e S ∧ Le st S) ∧ Ex 4 e ∧ p ∈ plc e ∧ ∀ r ∈ plc e, r = p ∨ r = 0 := by
  obtain ⟨k, hk⟩ : ∃ k : Nat, n % 10 = k := ⟨(n % 10).toNat, by omega⟩
  obtain ⟨e, he⟩ : ∃ e, (termL p)[k]? = some e := ⟨_, List.getElem?_eq_getElem (by show k < 10; omega)⟩
  obtain ⟨h1, h2, h3⟩ := termL_ok (List.mem_of_getElem? he)
  have ix : ∀ S : Sto, ixD (.ref S.length) (.int (n % 10)) (S ++ [.lst (termL p)]) = .ok e (S ++ [.lst (termL p)]) := fun S => ixL hk he
  have L : ∀ S j : Sto, Le S (S ++ j) := Le.app
  simp only [termL, noneD, atD] at ix
  refine ⟨e, fun st => ?_, h1, h2, h3⟩
  refine ⟨?S, ?A, ?B⟩
  case A =>
    unfold atD
    simp -implicitDefEqProofs +decide only [varF_ap, cF_ap, opF_ap, opK_ap, bF_ap, boolK_ap, andT_ap, andK_ap, orT_ap, orK_ap, notT_ap, notK_ap, yesT_ap, andV_ap, andVK_ap, orV_ap, orVK_ap, notV_ap, notVK_ap, ifF_ap, ifFK_ap, nilA_ap, consA_ap, consK_ap, consJ_ap, tupA_ap, lstA_ap, newO_ap, dicF_ap, callF_ap, un1_ap, methF_ap, nonO_ap, someO_ap, someK_ap, slF_ap, slK_ap, slJ_ap, itF_ap, itA_ap, nilS_ap, bkS_ap, ctS_ap, seqS_ap, seqK_nx, seqK_rt, seqK_bk, seqK_ct, dropS_ap, dropK_ap, retS_ap, retK_ap, retN_ap, ifS_ap, ifK_ap, setS_ap, setK_ap, asgS_ap, asgK_ap, asgJ_ap, nameG_ap, nilG_ap, consG_ap, consGK_ap, fnF_ap, fnK_nx, fnK_rt, forS_ap, forK_ap, negD_ap, addI_ap, varK_ap, startE, yes2, isN, List.map_cons, List.map_nil, List.length_cons, List.length_nil, List.replicate, List.append_nil, List.cons_append, List.nil_append, List.getElem?_cons_zero, List.getElem?_cons_succ, List.set_cons_zero, List.set_cons_succ, R.bind_ok, R.bind_ex, R.bind_bad, R.noex_ok, if_true, if_false, Bool.false_eq_true, Bool.true_eq_false, ite_true, ite_false, reduceIte, Nat.reduceAdd, Nat.reduceSub, Nat.zero_add, Nat.sub_self, Nat.sub_zero, decide_true, decide_false, Bool.not_true, Bool.not_false, subD_ap, ltD_ap, leD_ap, gtD_ap, geD_ap, mulD_ap, modD_ap, divD_ap, powD_ap, tupK_ok, lstK_ok, methK_ok, tupG_ok, eqS_t, eqS_f, neS_t, neS_f, eqI_ap, neI_ap, inT_nil, inT_hit, inT_miss, ne_eq, not_false_eq_true, f__law_term, b__law_term, addLL, ix, sz (by decide : 1 ≤ 100), sz (by decide : 2 ≤ 100), sz (by decide : 3 ≤ 100), sz (by decide : 4 ≤ 100), sz (by decide : 6 ≤ 100)]
    rfl
  case B =>
    exact ((((L _ _).trans (L _ _)).trans (L _ _)).trans (L _ _)).trans (L _ _)
def En (P : List (VL.D × VL.D) → Prop) (w q : Int) (dp : Nat) (e : VL.D) : Prop := ∃ v g dq, e = .tup [v, .int w, .int q, .int g, .int dq] ∧ dq = (dp : Int) ∧ 1 ≤ w ∧ w ≤ 12 ∧ 0 ≤ q ∧ q ≤ 5 ∧ LookR P v w q dp
section
variable {P : List (VL.D × VL.D) → Prop} {a b e : VL.D} {x y qa qb : Int} {da db : Nat}
theorem En.mono {Q : List (VL.D × VL.D) → Prop} (h : En P x qa da a) (k : ∀ W, keysOk W = true → Q W → P W) : En Q x qa da a := by
  obtain ⟨v, g, dq, h1, h2, h3, h4, h5, h6, h7⟩ := h
  exact ⟨v, g, dq, h1, h2, h3, h4, h5, h6, h7.mono k⟩
theorem wd_le {w : Int} : wd w ≤ 5 := by unfold wd; split <;> decide
theorem bey_le5 {ps : List Int} {w : Int} : bey ps w ≤ 5 := by rcases bey_le (ps := ps) (x := w) with h | h <;> rw [h] <;> decide
theorem min12 {w : Int} (h : 1 ≤ w) : 1 ≤ min w 12 ∧ min w 12 ≤ 12 := by omega
theorem fd3 {a b c : Int} (ha : a ≤ 5) (hb : b ≤ 5) (hc : c ≤ 5) : 0 ≤ fd [a, b, c] ∧ fd [a, b, c] ≤ 5 := fd_range fun q hq => by
  simp only [List.mem_cons, List.not_mem_nil, or_false] at hq
  rcases hq with rfl | rfl | rfl <;> assumption
theorem fd5 {a b c d e : Int} (ha : a ≤ 5) (hb : b ≤ 5) (hc : c ≤ 5) (hd : d ≤ 5) (he : e ≤ 5) : 0 ≤ fd [a, b, c, d, e] ∧ fd [a, b, c, d, e] ≤ 5 := fd_range fun q hq => by
  simp only [List.mem_cons, List.not_mem_nil, or_false] at hq
  rcases hq with rfl | rfl | rfl | rfl | rfl <;> assumption
/-- first due of lists that end in noughts -/
theorem fd_end {a b c : Int} (h : c = 0) : fd [a, b, c] = fd [a, b] := by
  subst h
  unfold fd
  split
  · rfl
  · unfold fd
    split <;> rfl
theorem fd_wd {a b w : Int} (h : fd [a, b, wd w] = 0) : ¬ w > 12 := by
  intro hw
  have e : wd w = 4 := if_pos hw
  rw [e] at h
  unfold fd at h
  split at h
  · omega
  · unfold fd at h
    split at h
    · omega
    · have : fd [4] = 4 := rfl
      omega
theorem fd4_wd {a b c d w : Int} (h : fd [a, b, c, d, wd w] = 0) : ¬ w > 12 := by
  intro hw
  have e : wd w = 4 := if_pos hw
  rw [e] at h
  unfold fd at h
  split at h
  · omega
  · unfold fd at h
    split at h
    · omega
    · exact fd_wd (w := w) (by rw [e]; exact h) hw
/-- places of some columns, one for each spot -/
theorem bey_cols {x : Int} (hx : 1 ≤ x) : ∀ {es : List VL.D} {ps : List Int}, es.length = ps.length → (∀ (i : Nat) (e : VL.D) (p : Int), es[i]? = some e → ps[i]? = some p → p ∈ plc e ∧ ∀ r ∈ plc e, r = p ∨ r = 0) → bey (plcs es) x = bey ps x
  | [], [], _, _ => rfl
  | [], _ :: _, h, _ => by cases h
  | _ :: _, [], h, _ => by cases h
  | e :: es, p :: ps, h, k => by
    have ih := bey_cols hx (es := es) (ps := ps) (by simpa using h) fun i e p he hp => k (i + 1) e p (by simpa using he) (by simpa using hp)
    obtain ⟨k1, k2⟩ := k 0 e p rfl rfl
    show bey (plc e ++ plcs es) x = bey (p :: ps) x
    by_cases c : x ≤ p
    · rw [bey_2 List.mem_cons_self c, bey_2 (List.mem_append_left _ k1) c]
    · have n1 : ((plc e).any fun r => decide (r ≥ x)) = false := by
        rw [List.any_eq_false]
        intro r hr
        rcases k2 r hr with rfl | rfl <;> simp only [decide_eq_true_eq] <;> omega
      have n2 : decide (p ≥ x) = false := decide_eq_false (by omega)
      unfold bey at ih ⊢
      rw [List.any_append, n1, Bool.false_or, List.any_cons, n2, Bool.false_or]
      exact ih
def words8 : List Str := ["sieve", "cols", "once", "count", "first", "sum", "least", "most"]
theorem one_ok {w : Str} {n : Int} {st : Sto} (hw : w ∈ words8) (ha : En P x qa da a) : ∃ z q dz e S, f__law_one [.int n, .str w, a] st = .ok e S ∧ Le st S ∧ En P z q dz e := by
  obtain ⟨v, g, dq, rfl, hdq, hx1, hx2, hq1, hq2, h5⟩ := ha
  obtain ⟨m, hm⟩ : ∃ m : Nat, 1 + n % 13 = m := ⟨(1 + n % 13).toNat, by omega⟩
  have hm1 : 1 ≤ m := by omega
  have hm2 : m ≤ 13 := by omega
  have v25 : (25 : Int).natAbs.log2 < 9000 := by decide +kernel
  have v13 : (13 : Int).natAbs.log2 < 9000 := by decide +kernel
  have v91 : (91 : Int).natAbs.log2 < 9000 := by decide +kernel
  obtain ⟨r, ps, S1, sp, l1, g1, hl⟩ := spots_ok (n := n / 25) (x := x) (m := m) (st := st) hx1 hx2 (by omega)
  have gl1 : listAt S1 r = some (ps.map .int) := listAt_lst g1
  have m2 : ∀ y, VL.MulOk 2 y := mul_l (by decide)
  have m40 : ∀ y, VL.MulOk 40 y := mul_l (by decide)
  obtain ⟨k13, hk13⟩ : ∃ k : Nat, n / 13 % 13 = k := ⟨(n / 13 % 13).toNat, by omega⟩
  have lnc : ∀ (S : Sto) (xs : List VL.D), lenD [.ref S.length] (S ++ [.lst xs]) = .ok (.int xs.length) (S ++ [.lst xs]) := fun S xs => lenD_list listAt_last
  -- a part of the spots, as a new list
  have cut : ∀ k : Nat, 1 ≤ k → ∃ qs : List Int, qs = ps.take k ∧ qs ≠ [] ∧ qs.length ≤ k ∧ ∀ S, Le S1 S → slD (.ref r) none (some (k : Int)) S = .ok (.ref S.length) (S ++ [.lst (qs.map .int)]) := fun k hk => by
    refine ⟨_, rfl, ?_, by rw [List.length_take]; omega, fun S hS => by rw [slD_list (hS.listAt gl1), cutD_to, List.map_take]⟩
    intro h
    have := congrArg List.length h
    rw [List.length_take, hl] at this
    simp at this
    omega
  have due : ∀ (S : Sto) (q z : Int), f__law_first_due [.ref S.length] (S ++ [.lst [.int qa, .int q, .int (wd z)]]) = .ok (.int (fd [qa, q, wd z])) (S ++ [.lst [.int qa, .int q, .int (wd z)]]) := fun S q z => due3
  have fin : ∀ (u : VL.D) (z q s : Int) (S : Sto), 1 ≤ z → q ≤ 5 → LookR P u z (fd [qa, q, wd z]) (1 + da) → En P (min z 12) (fd [qa, q, wd z]) (1 + da) (.tup [u, .int (min z 12), .int (fd [qa, q, wd z]), .int s, .int (1 + dq)]) := fun u z q s S hz hq hu =>
    ⟨_, _, _, rfl, by omega, (min12 hz).1, (min12 hz).2, (fd3 hq2 hq wd_le).1, (fd3 hq2 hq wd_le).2, hu.any fun h => by have := fd_wd h; omega⟩
  simp only [words8, List.mem_cons, List.not_mem_nil, or_false] at hw
  rcases hw with rfl | rfl | rfl | rfl | rfl | hw
  · -- sieve
    obtain ⟨qs, hqs, qne, ql, sl⟩ := cut 3 (by decide)
    have sl' : slD (.ref r) none (some (3 : Int)) S1 = .ok (.ref S1.length) (S1 ++ [.lst (qs.map .int)]) := sl S1 (Le.refl _)
    obtain ⟨S2, hS2⟩ : ∃ S, S = S1 ++ [VL.O.lst (qs.map VL.D.int)] := ⟨_, rfl⟩
    rw [← hS2] at sl'
    have g2 : listAt S2 S1.length = some (qs.map .int) := hS2 ▸ listAt_last
    obtain ⟨M, mx, mb⟩ := max_bey (x := x) g2 qne
    obtain ⟨q0, qr, hq0⟩ : ∃ q0 qr, qs = q0 :: qr := by
      cases qs with
      | nil => exact absurd rfl qne
      | cons a b => exact ⟨a, b, rfl⟩
    have i0 : ixD (.ref S1.length) (.int 0) S2 = .ok (.int q0) S2 := ixD_list (k := 0) g2 (by rw [hq0]; rfl)
    obtain ⟨e0, S3, a1, l3, ex0', pc0⟩ := asking_ok (n := n / 13) (p := q0) (st := S2)
    have a1' : f__law_asking [.int (n / 13), .tup [.str "at", .int q0]] S2 = .ok e0 S3 := a1
    have ln3 : lenD [.ref S1.length] S3 = .ok (.int qs.length) S3 := by rw [lenD_list (l3.listAt g2), List.length_map]
    have rg : rng2D [.int 1, .int (qs.length : Nat)] S3 = .ok (intsD 1 1 (qs.length - 1), []) S3 := by
      rw [rng2_ok (by decide) (by decide) (by omega) (by omega)]
      have e1 : ((qs.length : Nat) - 1 : Int).toNat = qs.length - 1 := by omega
      rw [e1]
    obtain ⟨e', S4, lf, z, ea, he, l4, pc, exa⟩ := forL_inv (c := []) (gf := nameG 7) (b := l0__law_one) (ds := intsD 1 1 (qs.length - 1)) (env := [some (.int n), some (.str "sieve"), some (.tup [v, .int x, .int qa, .int g, .int dq]), some (.int x), some (.ref S1.length), some (.int (bey qs x)), some e0, none, none, none, none, none]) (st := S3)
      (fun i env S => ∃ z ea, env = [some (.int n), some (.str "sieve"), some (.tup [v, .int x, .int qa, .int g, .int dq]), some (.int x), some (.ref S1.length), some (.int (bey qs x)), some ea, z, none, none, none, none] ∧ Le S3 S ∧ plc ea = qs.take (1 + i) ∧ Ex (4 + i) ea)
      ⟨none, e0, rfl, Le.refl _, by rw [hq0]; exact pc0, ex0'⟩ (fun _ _ _ _ => ChkOk.nil) fun i d env S hi ⟨z, ea, he, lS, pc, exa⟩ => by
        subst he
        obtain ⟨hil, rfl⟩ := intsD_get hi
        rw [show (1 : Int) + (i : Nat) * 1 = ((1 + i : Nat) : Int) by omega]
        obtain ⟨qi, hqi⟩ : ∃ qi, qs[1 + i]? = some qi := ⟨_, List.getElem?_eq_getElem (by omega)⟩
        obtain ⟨ww, hww, hwn⟩ : ∃ ww : Str, (∀ S : Sto, ixD (.ref S.length) (.int (((1 + i : Nat) : Int) % 2)) (S ++ [.lst [.str "or", .str "and"]]) = .ok (.str ww) (S ++ [.lst [.str "or", .str "and"]])) ∧ ww ≠ "at" := by
          by_cases c : (1 + i) % 2 = 0
          · exact ⟨"or", fun S => ixL (k := 0) (by omega) rfl, by decide⟩
          · exact ⟨"and", fun S => ixL (k := 1) (by omega) rfl, by decide⟩
        have ii : ∀ S', Le S3 S' → ixD (.ref S1.length) (.int ((1 + i : Nat) : Int)) S' = .ok (.int qi) S' := fun S' h => ixD_list ((l3.trans h).listAt g2) (by rw [List.getElem?_map, hqi]; rfl)
        obtain ⟨en, S', an, ln, exn, pcn⟩ := asking_ok (n := n / 91 / ((1 + i : Nat) : Int)) (p := qi) (st := S ++ [.lst [.str "or", .str "and"]])
        have an' : f__law_asking [.int (n / 91 / ((1 + i : Nat) : Int)), .tup [.str "at", .int qi]] (S ++ [.lst [.str "or", .str "and"]]) = .ok en S' := an
        have kp : (0 : Int) < ((1 + i : Nat) : Int) := by omega
        have kl := l2w (w := ((1 + i : Nat) : Int)) (by omega) (by omega)
        have ii' := ii (S ++ [.lst [.str "or", .str "and"]]) (lS.trans (Le.app _ _))
        refine ⟨_, _, [some (.int n), some (.str "sieve"), some (.tup [v, .int x, .int qa, .int g, .int dq]), some (.int x), some (.ref S1.length), some (.int (bey qs x)), some (.tup [.str ww, ea, en]), some (.int ((1 + i : Nat) : Int)), none, none, none, none], S', rfl, ?_, _, _, rfl, (lS.trans (Le.app _ _)).trans ln, ?_, ?_⟩
        · simp -implicitDefEqProofs +decide only [varF_ap, cF_ap, opF_ap, opK_ap, bF_ap, boolK_ap, andT_ap, andK_ap, orT_ap, orK_ap, notT_ap, notK_ap, yesT_ap, andV_ap, andVK_ap, orV_ap, orVK_ap, notV_ap, notVK_ap, ifF_ap, ifFK_ap, nilA_ap, consA_ap, consK_ap, consJ_ap, tupA_ap, lstA_ap, newO_ap, dicF_ap, callF_ap, un1_ap, methF_ap, nonO_ap, someO_ap, someK_ap, slF_ap, slK_ap, slJ_ap, itF_ap, itA_ap, nilS_ap, bkS_ap, ctS_ap, seqS_ap, seqK_nx, seqK_rt, seqK_bk, seqK_ct, dropS_ap, dropK_ap, retS_ap, retK_ap, retN_ap, ifS_ap, ifK_ap, setS_ap, setK_ap, asgS_ap, asgK_ap, asgJ_ap, nameG_ap, nilG_ap, consG_ap, consGK_ap, fnF_ap, fnK_nx, fnK_rt, forS_ap, forK_ap, negD_ap, addI_ap, varK_ap, startE, yes2, isN, List.map_cons, List.map_nil, List.length_cons, List.length_nil, List.replicate, List.append_nil, List.cons_append, List.nil_append, List.getElem?_cons_zero, List.getElem?_cons_succ, List.set_cons_zero, List.set_cons_succ, R.bind_ok, R.bind_ex, R.bind_bad, R.noex_ok, if_true, if_false, Bool.false_eq_true, Bool.true_eq_false, ite_true, ite_false, reduceIte, Nat.reduceAdd, Nat.reduceSub, Nat.zero_add, Nat.sub_self, Nat.sub_zero, decide_true, decide_false, Bool.not_true, Bool.not_false, subD_ap, ltD_ap, leD_ap, gtD_ap, geD_ap, mulD_ap, modD_ap, divD_ap, powD_ap, tupK_ok, lstK_ok, methK_ok, tupG_ok, eqS_t, eqS_f, neS_t, neS_f, eqI_ap, neI_ap, inT_nil, inT_hit, inT_miss, ne_eq, not_false_eq_true, l0__law_one, hww, ii', v91, kp, kl, an', sz (by decide : 2 ≤ 100), sz (by decide : 3 ≤ 100)]
        · rw [plc_node hwn]
          show plc ea ++ (plc en ++ []) = _
          rw [List.append_nil, pc, pcn, show 1 + (i + 1) = (1 + i) + 1 by omega, List.take_add_one, hqi]; rfl
        · have : PcW (4 + i) en := .inr (exn.up (by omega))
          exact (ex2 hwn (.inr exa) this).ex
    rw [intsD_len] at pc exa
    have pcq : plc ea = qs := by rw [pc, List.take_of_length_le (by omega)]
    have exq : Ex 6 ea := exa.up (by omega)
    subst he
    have LL : Le st S4 := (l1.trans (hS2 ▸ Le.app _ _ : Le S1 S2)).trans (l3.trans l4)
    have ln4 : ∀ S, Le S4 S → lenD [.ref S1.length] S = .ok (.int qs.length) S := fun S h => by rw [lenD_list (((l3.trans l4).trans h).listAt g2), List.length_map]
    refine ⟨_, _, _, _, S4 ++ [.lst [.int qa, .int (bey qs x), .int (wd x)]], ?_, LL.trans (Le.app _ _), fin (.tup [.str "sieve", v, ea]) x (bey qs x) (24 + 40 * qs.length + g) S4 hx1 bey_le5 ?_⟩
    · have ln5 := ln4 (S4 ++ [.lst [.int qa, .int (bey qs x), .int (wd x)]]) (Le.app _ _)
      simp -implicitDefEqProofs +decide only [varF_ap, cF_ap, opF_ap, opK_ap, bF_ap, boolK_ap, andT_ap, andK_ap, orT_ap, orK_ap, notT_ap, notK_ap, yesT_ap, andV_ap, andVK_ap, orV_ap, orVK_ap, notV_ap, notVK_ap, ifF_ap, ifFK_ap, nilA_ap, consA_ap, consK_ap, consJ_ap, tupA_ap, lstA_ap, newO_ap, dicF_ap, callF_ap, un1_ap, methF_ap, nonO_ap, someO_ap, someK_ap, slF_ap, slK_ap, slJ_ap, itF_ap, itA_ap, nilS_ap, bkS_ap, ctS_ap, seqS_ap, seqK_nx, seqK_rt, seqK_bk, seqK_ct, dropS_ap, dropK_ap, retS_ap, retK_ap, retN_ap, ifS_ap, ifK_ap, setS_ap, setK_ap, asgS_ap, asgK_ap, asgJ_ap, nameG_ap, nilG_ap, consG_ap, consGK_ap, fnF_ap, fnK_nx, fnK_rt, forS_ap, forK_ap, negD_ap, addI_ap, varK_ap, startE, yes2, isN, List.map_cons, List.map_nil, List.length_cons, List.length_nil, List.replicate, List.append_nil, List.cons_append, List.nil_append, List.getElem?_cons_zero, List.getElem?_cons_succ, List.set_cons_zero, List.set_cons_succ, R.bind_ok, R.bind_ex, R.bind_bad, R.noex_ok, if_true, if_false, Bool.false_eq_true, Bool.true_eq_false, ite_true, ite_false, reduceIte, Nat.reduceAdd, Nat.reduceSub, Nat.zero_add, Nat.sub_self, Nat.sub_zero, decide_true, decide_false, Bool.not_true, Bool.not_false, subD_ap, ltD_ap, leD_ap, gtD_ap, geD_ap, mulD_ap, modD_ap, divD_ap, powD_ap, tupK_ok, lstK_ok, methK_ok, tupG_ok, eqS_t, eqS_f, neS_t, neS_f, eqI_ap, neI_ap, inT_nil, inT_hit, inT_miss, ne_eq, not_false_eq_true, f__law_one, b__law_one, jx0, jx1, jx2, jx3, jx4, v25, hm, sp, sl', mx, tf, m2, mb, i0, v13, a1', ln3, rg, lf, beyond_ok, due, m40, ln5, minD_ok, sz (by decide : 2 ≤ 100), sz (by decide : 3 ≤ 100), sz (by decide : 5 ≤ 100)]
    · have e0 : wd x = 0 := if_neg (by omega)
      rw [e0, fd_end rfl, ← pcq]
      exact look_sieve hq1 h5 (places_ok 6 ea (by decide) exq) (by decide)
  · -- cols
    obtain ⟨qs, hqs, qne, ql, sl⟩ := cut 12 (by decide)
    have sl' : slD (.ref r) none (some (12 : Int)) S1 = .ok (.ref S1.length) (S1 ++ [.lst (qs.map .int)]) := sl S1 (Le.refl _)
    obtain ⟨S2, hS2⟩ : ∃ S, S = S1 ++ [VL.O.lst (qs.map VL.D.int)] := ⟨_, rfl⟩
    rw [← hS2] at sl'
    have g2 : listAt S2 S1.length = some (qs.map .int) := hS2 ▸ listAt_last
    obtain ⟨M, mx, mb⟩ := max_bey (x := x) g2 qne
    have ln2 : ∀ S, Le S2 S → lenD [.ref S1.length] S = .ok (.int qs.length) S := fun S h => by rw [lenD_list (h.listAt g2), List.length_map]
    have q1le : 1 ≤ qs.length := by
      cases qs with
      | nil => exact absurd rfl qne
      | cons a b => simp
    have rg : rng1D [.int (qs.length : Nat)] S2 = .ok (intsD 0 1 qs.length, []) S2 := rng1_ok (by omega)
    obtain ⟨hF, hFs⟩ : ∃ hF : Nat → VL.D, ∀ i, (∀ st : Sto, ∃ S, f__law_term [.int (n / 13 + (i : Nat)), atD (qs.getD i 0)] st = .ok (hF i) S ∧ Le st S) ∧ Ex 4 (hF i) ∧ qs.getD i 0 ∈ plc (hF i) ∧ ∀ r ∈ plc (hF i), r = qs.getD i 0 ∨ r = 0 :=
      ⟨fun i => Classical.choose (term_ok (n := n / 13 + (i : Nat)) (p := qs.getD i 0)), fun i => Classical.choose_spec (term_ok (n := n / 13 + (i : Nat)) (p := qs.getD i 0))⟩
    obtain ⟨j, e1⟩ := lcF_all (st := S2) (s := S2) (c := []) (ds := intsD 0 1 qs.length) (it := itA rng1D (consA (callF lenD (consA (varF 4) nilA)) nilA)) (vs := [7]) (gf := nameG 7) (te := callF f__law_term (consA (opF addD (opF divD (varF 0) (cF (.int 13))) (varF 7)) (consA (tupA (consA (cF (.str "at")) (consA (opF ixD (varF 4) (varF 7)) nilA))) nilA))) (env := [some (.int n), some (.str "cols"), some (.tup [v, .int x, .int qa, .int g, .int dq]), some (.int x), some (.ref S1.length), some (.int (bey qs x)), none, none, none, none, none, none])
      (fun d => match d with | .int k => hF k.toNat | _ => .non) (by simp -implicitDefEqProofs +decide only [varF_ap, cF_ap, opF_ap, opK_ap, bF_ap, boolK_ap, andT_ap, andK_ap, orT_ap, orK_ap, notT_ap, notK_ap, yesT_ap, andV_ap, andVK_ap, orV_ap, orVK_ap, notV_ap, notVK_ap, ifF_ap, ifFK_ap, nilA_ap, consA_ap, consK_ap, consJ_ap, tupA_ap, lstA_ap, newO_ap, dicF_ap, callF_ap, un1_ap, methF_ap, nonO_ap, someO_ap, someK_ap, slF_ap, slK_ap, slJ_ap, itF_ap, itA_ap, nilS_ap, bkS_ap, ctS_ap, seqS_ap, seqK_nx, seqK_rt, seqK_bk, seqK_ct, dropS_ap, dropK_ap, retS_ap, retK_ap, retN_ap, ifS_ap, ifK_ap, setS_ap, setK_ap, asgS_ap, asgK_ap, asgJ_ap, nameG_ap, nilG_ap, consG_ap, consGK_ap, fnF_ap, fnK_nx, fnK_rt, forS_ap, forK_ap, negD_ap, addI_ap, varK_ap, startE, yes2, isN, List.map_cons, List.map_nil, List.length_cons, List.length_nil, List.replicate, List.append_nil, List.cons_append, List.nil_append, List.getElem?_cons_zero, List.getElem?_cons_succ, List.set_cons_zero, List.set_cons_succ, R.bind_ok, R.bind_ex, R.bind_bad, R.noex_ok, if_true, if_false, Bool.false_eq_true, Bool.true_eq_false, ite_true, ite_false, reduceIte, Nat.reduceAdd, Nat.reduceSub, Nat.zero_add, Nat.sub_self, Nat.sub_zero, decide_true, decide_false, Bool.not_true, Bool.not_false, subD_ap, ltD_ap, leD_ap, gtD_ap, geD_ap, mulD_ap, modD_ap, divD_ap, powD_ap, tupK_ok, lstK_ok, methK_ok, tupG_ok, eqS_t, eqS_f, neS_t, neS_f, eqI_ap, neI_ap, inT_nil, inT_hit, inT_miss, ne_eq, not_false_eq_true, ln2 S2 (Le.refl _), rg]) chk_nil (by rw [intsD_len, sizeLine_eq']; omega) fun d hd S hS => by
        obtain ⟨i, hi, rfl⟩ := ints_mem hd
        rw [show (0 : Int) + (i : Nat) * 1 = (i : Nat) by omega]
        have hqi : qs[i]? = some (qs.getD i 0) := by rw [List.getD_eq_getElem?_getD, List.getElem?_eq_getElem hi]; rfl
        have ii : ixD (.ref S1.length) (.int (i : Nat)) S = .ok (.int (qs.getD i 0)) S := ixD_list (hS.listAt g2) (by rw [List.getElem?_map, hqi]; rfl)
        obtain ⟨S', t1, ⟨j', rfl⟩⟩ := (hFs i).1 S
        have t1' : f__law_term [.int (n / 13 + (i : Nat)), .tup [.str "at", .int (qs.getD i 0)]] S = .ok (hF i) (S ++ j') := t1
        exact ⟨_, j', rfl, by simp -implicitDefEqProofs +decide only [varF_ap, cF_ap, opF_ap, opK_ap, bF_ap, boolK_ap, andT_ap, andK_ap, orT_ap, orK_ap, notT_ap, notK_ap, yesT_ap, andV_ap, andVK_ap, orV_ap, orVK_ap, notV_ap, notVK_ap, ifF_ap, ifFK_ap, nilA_ap, consA_ap, consK_ap, consJ_ap, tupA_ap, lstA_ap, newO_ap, dicF_ap, callF_ap, un1_ap, methF_ap, nonO_ap, someO_ap, someK_ap, slF_ap, slK_ap, slJ_ap, itF_ap, itA_ap, nilS_ap, bkS_ap, ctS_ap, seqS_ap, seqK_nx, seqK_rt, seqK_bk, seqK_ct, dropS_ap, dropK_ap, retS_ap, retK_ap, retN_ap, ifS_ap, ifK_ap, setS_ap, setK_ap, asgS_ap, asgK_ap, asgJ_ap, nameG_ap, nilG_ap, consG_ap, consGK_ap, fnF_ap, fnK_nx, fnK_rt, forS_ap, forK_ap, negD_ap, addI_ap, varK_ap, startE, yes2, isN, List.map_cons, List.map_nil, List.length_cons, List.length_nil, List.replicate, List.append_nil, List.cons_append, List.nil_append, List.getElem?_cons_zero, List.getElem?_cons_succ, List.set_cons_zero, List.set_cons_succ, R.bind_ok, R.bind_ex, R.bind_bad, R.noex_ok, if_true, if_false, Bool.false_eq_true, Bool.true_eq_false, ite_true, ite_false, reduceIte, Nat.reduceAdd, Nat.reduceSub, Nat.zero_add, Nat.sub_self, Nat.sub_zero, decide_true, decide_false, Bool.not_true, Bool.not_false, subD_ap, ltD_ap, leD_ap, gtD_ap, geD_ap, mulD_ap, modD_ap, divD_ap, powD_ap, tupK_ok, lstK_ok, methK_ok, tupG_ok, eqS_t, eqS_f, neS_t, neS_f, eqI_ap, neI_ap, inT_nil, inT_hit, inT_miss, ne_eq, not_false_eq_true, wipeE, v13, ii, t1', sz (by decide : 2 ≤ 100), Int.toNat_natCast]⟩
    obtain ⟨es, hes⟩ : ∃ es, es = (intsD 0 1 qs.length).map (fun d => match d with | .int k => hF k.toNat | _ => VL.D.non) := ⟨_, rfl⟩
    rw [← hes] at e1
    have hel : es.length = qs.length := by rw [hes, List.length_map, intsD_len]
    have hei : ∀ (i : Nat) (e : VL.D), es[i]? = some e → e = hF i := fun i e h => by
      rw [hes, List.getElem?_map] at h
      obtain ⟨d, hd, rfl⟩ := Option.map_eq_some_iff.mp h
      obtain ⟨_, rfl⟩ := intsD_get hd
      show hF (0 + (i : Nat) * 1 : Int).toNat = hF i
      rw [show (0 : Int) + (i : Nat) * 1 = (i : Nat) by omega, Int.toNat_natCast]
    have pce : bey (plcs es) x = bey qs x := bey_cols hx1 hel fun i e p he hp => by
      obtain rfl := hei i e he
      have : p = qs.getD i 0 := by rw [List.getD_eq_getElem?_getD, hp]; rfl
      subst this
      exact (hFs i).2.2
    have exE : ∀ e ∈ es, Ex 6 e := fun e he => by
      obtain ⟨i, hi⟩ := List.getElem?_of_mem he
      rw [hei i e hi]
      exact (hFs i).2.1.up (by decide)
    have q0 : q0__law_one [some (.int n), some (.str "cols"), some (.tup [v, .int x, .int qa, .int g, .int dq]), some (.int x), some (.ref S1.length), some (.int (bey qs x)), none, none, none, none, none, none] S2 = _ := e1
    obtain ⟨S3, hS3⟩ : ∃ S, S = S2 ++ VL.O.lst es :: j := ⟨_, rfl⟩
    rw [← hS3] at q0
    have l3 : Le S2 S3 := hS3 ▸ Le.app _ _
    have tp : tupleD [.ref S2.length] S3 = .ok (.tup es) S3 := tupleD_list (hS3 ▸ listAt_at)
    have ln3 := ln2 S3 l3
    have LL : Le st S3 := (l1.trans (hS2 ▸ Le.app _ _ : Le S1 S2)).trans l3
    have ln5 := ln2 (S3 ++ [.lst [.int qa, .int (bey qs x), .int (wd qs.length)]]) (l3.trans (Le.app _ _))
    refine ⟨_, _, _, _, S3 ++ [.lst [.int qa, .int (bey qs x), .int (wd qs.length)]], ?_, LL.trans (Le.app _ _), fin (.tup [.str "cols", v, .tup es]) qs.length (bey qs x) (24 + 40 * qs.length + g) S3 (by omega) bey_le5 ?_⟩
    · simp -implicitDefEqProofs +decide only [varF_ap, cF_ap, opF_ap, opK_ap, bF_ap, boolK_ap, andT_ap, andK_ap, orT_ap, orK_ap, notT_ap, notK_ap, yesT_ap, andV_ap, andVK_ap, orV_ap, orVK_ap, notV_ap, notVK_ap, ifF_ap, ifFK_ap, nilA_ap, consA_ap, consK_ap, consJ_ap, tupA_ap, lstA_ap, newO_ap, dicF_ap, callF_ap, un1_ap, methF_ap, nonO_ap, someO_ap, someK_ap, slF_ap, slK_ap, slJ_ap, itF_ap, itA_ap, nilS_ap, bkS_ap, ctS_ap, seqS_ap, seqK_nx, seqK_rt, seqK_bk, seqK_ct, dropS_ap, dropK_ap, retS_ap, retK_ap, retN_ap, ifS_ap, ifK_ap, setS_ap, setK_ap, asgS_ap, asgK_ap, asgJ_ap, nameG_ap, nilG_ap, consG_ap, consGK_ap, fnF_ap, fnK_nx, fnK_rt, forS_ap, forK_ap, negD_ap, addI_ap, varK_ap, startE, yes2, isN, List.map_cons, List.map_nil, List.length_cons, List.length_nil, List.replicate, List.append_nil, List.cons_append, List.nil_append, List.getElem?_cons_zero, List.getElem?_cons_succ, List.set_cons_zero, List.set_cons_succ, R.bind_ok, R.bind_ex, R.bind_bad, R.noex_ok, if_true, if_false, Bool.false_eq_true, Bool.true_eq_false, ite_true, ite_false, reduceIte, Nat.reduceAdd, Nat.reduceSub, Nat.zero_add, Nat.sub_self, Nat.sub_zero, decide_true, decide_false, Bool.not_true, Bool.not_false, subD_ap, ltD_ap, leD_ap, gtD_ap, geD_ap, mulD_ap, modD_ap, divD_ap, powD_ap, tupK_ok, lstK_ok, methK_ok, tupG_ok, eqS_t, eqS_f, neS_t, neS_f, eqI_ap, neI_ap, inT_nil, inT_hit, inT_miss, ne_eq, not_false_eq_true, f__law_one, b__law_one, jx0, jx1, jx2, jx3, jx4, v25, hm, sp, sl', mx, tf, m2, mb, q0, tp, ln3, beyond_ok, due, m40, ln5, minD_ok, sz (by decide : 2 ≤ 100), sz (by decide : 3 ≤ 100), sz (by decide : 5 ≤ 100)]
    · have e0 : wd qs.length = 0 := if_neg (by omega)
      have k := look_cols (n := 6) (es := es) hq1 h5 (by decide) (fun e he => places_ok 6 e (by decide) (exE e he)) (by omega)
      rw [e0, fd_end rfl, ← pce, ← hel]
      exact k
  · -- once
    have ln5 : lenD [.ref r] (S1 ++ [.lst [.int qa, .int 0, .int (wd x)]]) = .ok (.int ps.length) (S1 ++ [.lst [.int qa, .int 0, .int (wd x)]]) := by rw [lenD_list (listAt_app gl1), List.length_map]
    refine ⟨_, _, _, _, S1 ++ [.lst [.int qa, .int 0, .int (wd x)]], ?_, l1.trans (Le.app _ _), fin (.tup [.str "once", v]) x 0 (24 + 40 * ps.length + g) S1 hx1 (by decide) ?_⟩
    · simp -implicitDefEqProofs +decide only [varF_ap, cF_ap, opF_ap, opK_ap, bF_ap, boolK_ap, andT_ap, andK_ap, orT_ap, orK_ap, notT_ap, notK_ap, yesT_ap, andV_ap, andVK_ap, orV_ap, orVK_ap, notV_ap, notVK_ap, ifF_ap, ifFK_ap, nilA_ap, consA_ap, consK_ap, consJ_ap, tupA_ap, lstA_ap, newO_ap, dicF_ap, callF_ap, un1_ap, methF_ap, nonO_ap, someO_ap, someK_ap, slF_ap, slK_ap, slJ_ap, itF_ap, itA_ap, nilS_ap, bkS_ap, ctS_ap, seqS_ap, seqK_nx, seqK_rt, seqK_bk, seqK_ct, dropS_ap, dropK_ap, retS_ap, retK_ap, retN_ap, ifS_ap, ifK_ap, setS_ap, setK_ap, asgS_ap, asgK_ap, asgJ_ap, nameG_ap, nilG_ap, consG_ap, consGK_ap, fnF_ap, fnK_nx, fnK_rt, forS_ap, forK_ap, negD_ap, addI_ap, varK_ap, startE, yes2, isN, List.map_cons, List.map_nil, List.length_cons, List.length_nil, List.replicate, List.append_nil, List.cons_append, List.nil_append, List.getElem?_cons_zero, List.getElem?_cons_succ, List.set_cons_zero, List.set_cons_succ, R.bind_ok, R.bind_ex, R.bind_bad, R.noex_ok, if_true, if_false, Bool.false_eq_true, Bool.true_eq_false, ite_true, ite_false, reduceIte, Nat.reduceAdd, Nat.reduceSub, Nat.zero_add, Nat.sub_self, Nat.sub_zero, decide_true, decide_false, Bool.not_true, Bool.not_false, subD_ap, ltD_ap, leD_ap, gtD_ap, geD_ap, mulD_ap, modD_ap, divD_ap, powD_ap, tupK_ok, lstK_ok, methK_ok, tupG_ok, eqS_t, eqS_f, neS_t, neS_f, eqI_ap, neI_ap, inT_nil, inT_hit, inT_miss, ne_eq, not_false_eq_true, f__law_one, b__law_one, jx0, jx1, jx2, jx3, jx4, v25, hm, sp, beyond_ok, due, m40, ln5, minD_ok, sz (by decide : 2 ≤ 100), sz (by decide : 3 ≤ 100), sz (by decide : 5 ≤ 100)]
    · have e0 : wd x = 0 := if_neg (by omega)
      rw [e0, fd_end rfl]
      exact look_once hq1 h5
  · -- count
    obtain ⟨qs, hqs, qne, ql, sl⟩ := cut 12 (by decide)
    have sl' : slD (.ref r) none (some (12 : Int)) S1 = .ok (.ref S1.length) (S1 ++ [.lst (qs.map .int)]) := sl S1 (Le.refl _)
    obtain ⟨S2, hS2⟩ : ∃ S, S = S1 ++ [VL.O.lst (qs.map VL.D.int)] := ⟨_, rfl⟩
    rw [← hS2] at sl'
    have g2 : listAt S2 S1.length = some (qs.map .int) := hS2 ▸ listAt_last
    obtain ⟨M, mx, mb⟩ := max_bey (x := x) g2 qne
    have ln2 : ∀ S, Le S2 S → lenD [.ref S1.length] S = .ok (.int qs.length) S := fun S h => by rw [lenD_list (h.listAt g2), List.length_map]
    have tp : tupleD [.ref S1.length] S2 = .ok (.tup (qs.map .int)) S2 := tupleD_list g2
    have ln3 := ln2 S2 (Le.refl _)
    have ln5 := ln2 (S2 ++ [.lst [.int qa, .int (bey qs x), .int (wd (qs.length + 1))]]) (Le.app _ _)
    refine ⟨_, _, _, _, S2 ++ [.lst [.int qa, .int (bey qs x), .int (wd (qs.length + 1))]], ?_, (l1.trans (hS2 ▸ Le.app _ _ : Le S1 S2)).trans (Le.app _ _), fin (.tup [.str "count", v, .tup (qs.map .int)]) (qs.length + 1) (bey qs x) (24 + 40 * qs.length + g) S2 (by omega) bey_le5 (look_count hq1 h5)⟩
    simp -implicitDefEqProofs +decide only [varF_ap, cF_ap, opF_ap, opK_ap, bF_ap, boolK_ap, andT_ap, andK_ap, orT_ap, orK_ap, notT_ap, notK_ap, yesT_ap, andV_ap, andVK_ap, orV_ap, orVK_ap, notV_ap, notVK_ap, ifF_ap, ifFK_ap, nilA_ap, consA_ap, consK_ap, consJ_ap, tupA_ap, lstA_ap, newO_ap, dicF_ap, callF_ap, un1_ap, methF_ap, nonO_ap, someO_ap, someK_ap, slF_ap, slK_ap, slJ_ap, itF_ap, itA_ap, nilS_ap, bkS_ap, ctS_ap, seqS_ap, seqK_nx, seqK_rt, seqK_bk, seqK_ct, dropS_ap, dropK_ap, retS_ap, retK_ap, retN_ap, ifS_ap, ifK_ap, setS_ap, setK_ap, asgS_ap, asgK_ap, asgJ_ap, nameG_ap, nilG_ap, consG_ap, consGK_ap, fnF_ap, fnK_nx, fnK_rt, forS_ap, forK_ap, negD_ap, addI_ap, varK_ap, startE, yes2, isN, List.map_cons, List.map_nil, List.length_cons, List.length_nil, List.replicate, List.append_nil, List.cons_append, List.nil_append, List.getElem?_cons_zero, List.getElem?_cons_succ, List.set_cons_zero, List.set_cons_succ, R.bind_ok, R.bind_ex, R.bind_bad, R.noex_ok, if_true, if_false, Bool.false_eq_true, Bool.true_eq_false, ite_true, ite_false, reduceIte, Nat.reduceAdd, Nat.reduceSub, Nat.zero_add, Nat.sub_self, Nat.sub_zero, decide_true, decide_false, Bool.not_true, Bool.not_false, subD_ap, ltD_ap, leD_ap, gtD_ap, geD_ap, mulD_ap, modD_ap, divD_ap, powD_ap, tupK_ok, lstK_ok, methK_ok, tupG_ok, eqS_t, eqS_f, neS_t, neS_f, eqI_ap, neI_ap, inT_nil, inT_hit, inT_miss, ne_eq, not_false_eq_true, f__law_one, b__law_one, jx0, jx1, jx2, jx3, jx4, v25, hm, sp, sl', mx, tf, m2, mb, tp, ln3, beyond_ok, due, m40, ln5, minD_ok, sz (by decide : 3 ≤ 100), sz (by decide : 5 ≤ 100)]
  · -- first
    have sl1 : slD (.ref r) (some (k13 : Int)) none S1 = .ok (.ref S1.length) (S1 ++ [.lst ((ps.drop k13).map .int)]) := by rw [slD_list gl1, cutD_from, List.map_drop]
    obtain ⟨S2, hS2⟩ : ∃ S, S = S1 ++ [VL.O.lst ((ps.drop k13).map VL.D.int)] := ⟨_, rfl⟩
    rw [← hS2] at sl1
    have l2 : Le S1 S2 := hS2 ▸ Le.app _ _
    have it2 : itD (.ref S1.length) S2 = .ok ((ps.drop k13).map .int, chkAt S2 S1.length) S2 := itD_list (hS2 ▸ listAt_last)
    obtain ⟨j, e1⟩ := lcF_all (st := S1) (s := S2) (c := chkAt S2 S1.length) (ds := (ps.drop k13).map .int) (it := itF (slF (varF 4) (someO (opF modD (opF divD (varF 0) (cF (.int 13))) (cF (.int 13)))) nonO)) (vs := [10]) (gf := nameG 10) (te := tupA (consA (varF 10) (consA (opF eqD (opF modD (varF 10) (cF (.int 2))) (cF (.int 0))) nilA))) (env := [some (.int n), some (.str "first"), some (.tup [v, .int x, .int qa, .int g, .int dq]), some (.int x), some (.ref r), some (.int (bey ps x)), none, none, none, none, none, none])
      (fun d => match d with | .int k => orD (k, decide (k % 2 = 0)) | _ => .non) (by simp -implicitDefEqProofs +decide only [varF_ap, cF_ap, opF_ap, opK_ap, bF_ap, boolK_ap, andT_ap, andK_ap, orT_ap, orK_ap, notT_ap, notK_ap, yesT_ap, andV_ap, andVK_ap, orV_ap, orVK_ap, notV_ap, notVK_ap, ifF_ap, ifFK_ap, nilA_ap, consA_ap, consK_ap, consJ_ap, tupA_ap, lstA_ap, newO_ap, dicF_ap, callF_ap, un1_ap, methF_ap, nonO_ap, someO_ap, someK_ap, slF_ap, slK_ap, slJ_ap, itF_ap, itA_ap, nilS_ap, bkS_ap, ctS_ap, seqS_ap, seqK_nx, seqK_rt, seqK_bk, seqK_ct, dropS_ap, dropK_ap, retS_ap, retK_ap, retN_ap, ifS_ap, ifK_ap, setS_ap, setK_ap, asgS_ap, asgK_ap, asgJ_ap, nameG_ap, nilG_ap, consG_ap, consGK_ap, fnF_ap, fnK_nx, fnK_rt, forS_ap, forK_ap, negD_ap, addI_ap, varK_ap, startE, yes2, isN, List.map_cons, List.map_nil, List.length_cons, List.length_nil, List.replicate, List.append_nil, List.cons_append, List.nil_append, List.getElem?_cons_zero, List.getElem?_cons_succ, List.set_cons_zero, List.set_cons_succ, R.bind_ok, R.bind_ex, R.bind_bad, R.noex_ok, if_true, if_false, Bool.false_eq_true, Bool.true_eq_false, ite_true, ite_false, reduceIte, Nat.reduceAdd, Nat.reduceSub, Nat.zero_add, Nat.sub_self, Nat.sub_zero, decide_true, decide_false, Bool.not_true, Bool.not_false, subD_ap, ltD_ap, leD_ap, gtD_ap, geD_ap, mulD_ap, modD_ap, divD_ap, powD_ap, tupK_ok, lstK_ok, methK_ok, tupG_ok, eqS_t, eqS_f, neS_t, neS_f, eqI_ap, neI_ap, inT_nil, inT_hit, inT_miss, ne_eq, not_false_eq_true, v13, hk13, sl1, it2]) chk_at (by rw [List.length_map, List.length_drop, sizeLine_eq']; omega) fun d hd S hS => by
        obtain ⟨k, hk, rfl⟩ := List.mem_map.mp hd
        exact ⟨_, [], rfl, by rw [List.append_nil]; simp -implicitDefEqProofs +decide only [varF_ap, cF_ap, opF_ap, opK_ap, bF_ap, boolK_ap, andT_ap, andK_ap, orT_ap, orK_ap, notT_ap, notK_ap, yesT_ap, andV_ap, andVK_ap, orV_ap, orVK_ap, notV_ap, notVK_ap, ifF_ap, ifFK_ap, nilA_ap, consA_ap, consK_ap, consJ_ap, tupA_ap, lstA_ap, newO_ap, dicF_ap, callF_ap, un1_ap, methF_ap, nonO_ap, someO_ap, someK_ap, slF_ap, slK_ap, slJ_ap, itF_ap, itA_ap, nilS_ap, bkS_ap, ctS_ap, seqS_ap, seqK_nx, seqK_rt, seqK_bk, seqK_ct, dropS_ap, dropK_ap, retS_ap, retK_ap, retN_ap, ifS_ap, ifK_ap, setS_ap, setK_ap, asgS_ap, asgK_ap, asgJ_ap, nameG_ap, nilG_ap, consG_ap, consGK_ap, fnF_ap, fnK_nx, fnK_rt, forS_ap, forK_ap, negD_ap, addI_ap, varK_ap, startE, yes2, isN, List.map_cons, List.map_nil, List.length_cons, List.length_nil, List.replicate, List.append_nil, List.cons_append, List.nil_append, List.getElem?_cons_zero, List.getElem?_cons_succ, List.set_cons_zero, List.set_cons_succ, R.bind_ok, R.bind_ex, R.bind_bad, R.noex_ok, if_true, if_false, Bool.false_eq_true, Bool.true_eq_false, ite_true, ite_false, reduceIte, Nat.reduceAdd, Nat.reduceSub, Nat.zero_add, Nat.sub_self, Nat.sub_zero, decide_true, decide_false, Bool.not_true, Bool.not_false, subD_ap, ltD_ap, leD_ap, gtD_ap, geD_ap, mulD_ap, modD_ap, divD_ap, powD_ap, tupK_ok, lstK_ok, methK_ok, tupG_ok, eqS_t, eqS_f, neS_t, neS_f, eqI_ap, neI_ap, inT_nil, inT_hit, inT_miss, ne_eq, not_false_eq_true, wipeE, orD, sz (by decide : 2 ≤ 100)]⟩
    have m1 : ((ps.drop k13).map VL.D.int).map (fun d => match d with | .int k => orD (k, decide (k % 2 = 0)) | _ => VL.D.non) = ((ps.drop k13).map fun k => (k, decide (k % 2 = 0))).map orD := by
      rw [List.map_map, List.map_map]; rfl
    rw [m1] at e1
    obtain ⟨S3, hS3⟩ : ∃ S, S = S2 ++ VL.O.lst (((ps.drop k13).map fun k => (k, decide (k % 2 = 0))).map orD) :: j := ⟨_, rfl⟩
    rw [← hS3] at e1
    have l3 : Le S2 S3 := hS3 ▸ Le.app _ _
    have q1 : q1__law_one [some (.int n), some (.str "first"), some (.tup [v, .int x, .int qa, .int g, .int dq]), some (.int x), some (.ref r), some (.int (bey ps x)), none, none, none, none, none, none] S1 = _ := e1
    obtain ⟨os, hos⟩ : ∃ os, os = ((ps.drop k13).map fun k => (k, decide (k % 2 = 0))).take 12 := ⟨_, rfl⟩
    have hol : os.length = min 12 (m - k13) := by rw [hos, List.length_take, List.length_map, List.length_drop, hl]
    have sl2 : slD (.ref S2.length) none (some (12 : Int)) S3 = .ok (.ref S3.length) (S3 ++ [.lst (os.map orD)]) := by
      rw [slD_list (hS3 ▸ listAt_at), show (12 : Int) = ((12 : Nat) : Int) from rfl, cutD_to, hos, List.map_take]
    obtain ⟨S4, hS4⟩ : ∃ S, S = S3 ++ [VL.O.lst (os.map orD)] := ⟨_, rfl⟩
    rw [← hS4] at sl2
    have l4 : Le S3 S4 := hS4 ▸ Le.app _ _
    have tp1 : tupleD [.ref S3.length] S4 = .ok (.tup (os.map orD)) S4 := tupleD_list (hS4 ▸ listAt_last)
    have l14 : Le S1 S4 := (l2.trans l3).trans l4
    obtain ⟨by_, hby⟩ : ∃ b, b = ps.take k13 := ⟨_, rfl⟩
    have hbl : by_.length = min k13 m := by rw [hby, List.length_take, hl]
    have sl3 : slD (.ref r) none (some (k13 : Int)) S4 = .ok (.ref S4.length) (S4 ++ [.lst (by_.map .int)]) := by rw [slD_list (l14.listAt gl1), cutD_to, hby, List.map_take]
    obtain ⟨S5, hS5⟩ : ∃ S, S = S4 ++ [VL.O.lst (by_.map VL.D.int)] := ⟨_, rfl⟩
    rw [← hS5] at sl3
    have l5 : Le S4 S5 := hS5 ▸ Le.app _ _
    have tp2 : tupleD [.ref S4.length] S5 = .ok (.tup (by_.map .int)) S5 := tupleD_list (hS5 ▸ listAt_last)
    obtain ⟨qs, hqs⟩ : ∃ qs, qs = ps.take (by_.length + os.length) := ⟨_, rfl⟩
    have qne : qs ≠ [] := by
      intro h
      have := congrArg List.length h
      rw [hqs, List.length_take, hl, hbl, hol] at this
      simp at this
      omega
    have sl4 : slD (.ref r) none (some ((by_.length : Nat) + (os.length : Nat) : Int)) S5 = .ok (.ref S5.length) (S5 ++ [.lst (qs.map .int)]) := by
      rw [slD_list ((l14.trans l5).listAt gl1), show ((by_.length : Nat) + (os.length : Nat) : Int) = ((by_.length + os.length : Nat) : Int) by omega, cutD_to, hqs, List.map_take]
    obtain ⟨S6, hS6⟩ : ∃ S, S = S5 ++ [VL.O.lst (qs.map VL.D.int)] := ⟨_, rfl⟩
    rw [← hS6] at sl4
    have l6 : Le S5 S6 := hS6 ▸ Le.app _ _
    have g6 : listAt S6 S5.length = some (qs.map .int) := hS6 ▸ listAt_last
    obtain ⟨M, mx, mb⟩ := max_bey (x := x) g6 qne
    have bq : bey qs x = bey (by_ ++ os.map (·.1)) x := by
      have e1 : os.map (·.1) = (ps.drop k13).take 12 := by
        rw [hos, List.map_take, List.map_map]
        have e : ((fun p : Int × Bool => p.1) ∘ fun k : Int => (k, decide (k % 2 = 0))) = fun k => k := rfl
        rw [e, List.map_id']
      have e2 : by_.length + os.length = min (k13 + 12) ps.length := by rw [hbl, hol, hl]; omega
      rw [e1, hby, ← List.take_add, hqs, e2, ← List.take_take, List.take_length]
    have L16 : Le S1 S6 := (l14.trans l5).trans l6
    have ln5 : lenD [.ref r] (S6 ++ [.lst [.int qa, .int (bey qs x), .int (wd x)]]) = .ok (.int ps.length) (S6 ++ [.lst [.int qa, .int (bey qs x), .int (wd x)]]) := by rw [lenD_list (listAt_app (L16.listAt gl1)), List.length_map]
    refine ⟨_, _, _, _, S6 ++ [.lst [.int qa, .int (bey qs x), .int (wd x)]], ?_, (l1.trans L16).trans (Le.app _ _), fin (.tup [.str "first", v, .int (n % 61), .tup (by_.map .int), .tup (os.map orD)]) x (bey qs x) (24 + 40 * ps.length + g) S6 hx1 bey_le5 ?_⟩
    · simp -implicitDefEqProofs +decide only [varF_ap, cF_ap, opF_ap, opK_ap, bF_ap, boolK_ap, andT_ap, andK_ap, orT_ap, orK_ap, notT_ap, notK_ap, yesT_ap, andV_ap, andVK_ap, orV_ap, orVK_ap, notV_ap, notVK_ap, ifF_ap, ifFK_ap, nilA_ap, consA_ap, consK_ap, consJ_ap, tupA_ap, lstA_ap, newO_ap, dicF_ap, callF_ap, un1_ap, methF_ap, nonO_ap, someO_ap, someK_ap, slF_ap, slK_ap, slJ_ap, itF_ap, itA_ap, nilS_ap, bkS_ap, ctS_ap, seqS_ap, seqK_nx, seqK_rt, seqK_bk, seqK_ct, dropS_ap, dropK_ap, retS_ap, retK_ap, retN_ap, ifS_ap, ifK_ap, setS_ap, setK_ap, asgS_ap, asgK_ap, asgJ_ap, nameG_ap, nilG_ap, consG_ap, consGK_ap, fnF_ap, fnK_nx, fnK_rt, forS_ap, forK_ap, negD_ap, addI_ap, varK_ap, startE, yes2, isN, List.map_cons, List.map_nil, List.length_cons, List.length_nil, List.replicate, List.append_nil, List.cons_append, List.nil_append, List.getElem?_cons_zero, List.getElem?_cons_succ, List.set_cons_zero, List.set_cons_succ, R.bind_ok, R.bind_ex, R.bind_bad, R.noex_ok, if_true, if_false, Bool.false_eq_true, Bool.true_eq_false, ite_true, ite_false, reduceIte, Nat.reduceAdd, Nat.reduceSub, Nat.zero_add, Nat.sub_self, Nat.sub_zero, decide_true, decide_false, Bool.not_true, Bool.not_false, subD_ap, ltD_ap, leD_ap, gtD_ap, geD_ap, mulD_ap, modD_ap, divD_ap, powD_ap, tupK_ok, lstK_ok, methK_ok, tupG_ok, eqS_t, eqS_f, neS_t, neS_f, eqI_ap, neI_ap, inT_nil, inT_hit, inT_miss, ne_eq, not_false_eq_true, f__law_one, b__law_one, jx0, jx1, jx2, jx3, jx4, v25, v13, hk13, hm, sp, q1, sl2, tp1, sl3, tp2, lenD_tup, List.length_map, sl4, mx, tf, m2, mb, beyond_ok, due, m40, ln5, minD_ok, sz (by decide : 3 ≤ 100), sz (by decide : 5 ≤ 100)]
    · have e0 : wd x = 0 := if_neg (by omega)
      rw [e0, fd_end rfl, bq]
      exact look_first hq1 h5 (by omega) (by omega)
  · -- sum, least, most
    obtain ⟨p0, pr, hp0⟩ : ∃ p0 pr, ps = p0 :: pr := by
      cases ps with
      | nil => simp at hl; omega
      | cons a b => exact ⟨a, b, rfl⟩
    have i0 : ixD (.ref r) (.int 0) S1 = .ok (.int p0) S1 := ixD_list (k := 0) gl1 (by rw [hp0]; rfl)
    have sl1 : slD (.ref r) (some (1 : Int)) none S1 = .ok (.ref S1.length) (S1 ++ [.lst (pr.map .int)]) := by
      rw [slD_list gl1, show (1 : Int) = ((1 : Nat) : Int) from rfl, cutD_from, hp0]; rfl
    obtain ⟨S2, hS2⟩ : ∃ S, S = S1 ++ [VL.O.lst (pr.map VL.D.int)] := ⟨_, rfl⟩
    rw [← hS2] at sl1
    have l2 : Le S1 S2 := hS2 ▸ Le.app _ _
    have tp : tupleD [.ref S1.length] S2 = .ok (.tup (pr.map .int)) S2 := tupleD_list (hS2 ▸ listAt_last)
    have hpl : pr.length + 1 = m := by rw [hp0] at hl; simpa using hl
    have lnr : ∀ S, Le S1 S → lenD [.ref r] S = .ok (.int ps.length) S := fun S h => by rw [lenD_list (h.listAt gl1), List.length_map]
    have ln1 := lnr S1 (Le.refl _)
    have ln5 := lnr (S2 ++ [.lst [.int qa, .int (bey ps x), .int (wd ps.length)]]) (l2.trans (Le.app _ _))
    have e2 : bey (pr ++ [p0]) x = bey ps x := by
      unfold bey
      rw [hp0, List.any_append, List.any_cons, List.any_cons, List.any_nil, Bool.or_false, Bool.or_comm]
    have hws : w ∈ sums := by
      simp only [sums, List.mem_cons, List.not_mem_nil, or_false]
      exact hw
    have k := look_sums (by_ := pr) (p := p0) hws hq1 h5 (by omega)
    have e3 : (pr.length : Int) + 1 = ps.length := by rw [hl]; omega
    rw [e2, e3] at k
    refine ⟨_, _, _, _, S2 ++ [.lst [.int qa, .int (bey ps x), .int (wd ps.length)]], ?_, (l1.trans l2).trans (Le.app _ _), fin (.tup [.str w, v, .int p0, .tup (pr.map .int)]) ps.length (bey ps x) (24 + 40 * ps.length + g) S2 (by omega) bey_le5 k⟩
    rcases hw with rfl | rfl | rfl <;> simp -implicitDefEqProofs +decide only [varF_ap, cF_ap, opF_ap, opK_ap, bF_ap, boolK_ap, andT_ap, andK_ap, orT_ap, orK_ap, notT_ap, notK_ap, yesT_ap, andV_ap, andVK_ap, orV_ap, orVK_ap, notV_ap, notVK_ap, ifF_ap, ifFK_ap, nilA_ap, consA_ap, consK_ap, consJ_ap, tupA_ap, lstA_ap, newO_ap, dicF_ap, callF_ap, un1_ap, methF_ap, nonO_ap, someO_ap, someK_ap, slF_ap, slK_ap, slJ_ap, itF_ap, itA_ap, nilS_ap, bkS_ap, ctS_ap, seqS_ap, seqK_nx, seqK_rt, seqK_bk, seqK_ct, dropS_ap, dropK_ap, retS_ap, retK_ap, retN_ap, ifS_ap, ifK_ap, setS_ap, setK_ap, asgS_ap, asgK_ap, asgJ_ap, nameG_ap, nilG_ap, consG_ap, consGK_ap, fnF_ap, fnK_nx, fnK_rt, forS_ap, forK_ap, negD_ap, addI_ap, varK_ap, startE, yes2, isN, List.map_cons, List.map_nil, List.length_cons, List.length_nil, List.replicate, List.append_nil, List.cons_append, List.nil_append, List.getElem?_cons_zero, List.getElem?_cons_succ, List.set_cons_zero, List.set_cons_succ, R.bind_ok, R.bind_ex, R.bind_bad, R.noex_ok, if_true, if_false, Bool.false_eq_true, Bool.true_eq_false, ite_true, ite_false, reduceIte, Nat.reduceAdd, Nat.reduceSub, Nat.zero_add, Nat.sub_self, Nat.sub_zero, decide_true, decide_false, Bool.not_true, Bool.not_false, subD_ap, ltD_ap, leD_ap, gtD_ap, geD_ap, mulD_ap, modD_ap, divD_ap, powD_ap, tupK_ok, lstK_ok, methK_ok, tupG_ok, eqS_t, eqS_f, neS_t, neS_f, eqI_ap, neI_ap, inT_nil, inT_hit, inT_miss, ne_eq, not_false_eq_true, f__law_one, b__law_one, jx0, jx1, jx2, jx3, jx4, v25, hm, sp, i0, sl1, tp, ln1, beyond_ok, due, m40, ln5, minD_ok, sz (by decide : 3 ≤ 100), sz (by decide : 4 ≤ 100), sz (by decide : 5 ≤ 100)]
end
end Law

namespace Law
open PySem L2 VL
/-! names -/
def lets : List Nat := (List.range 26).map (97 + ·)
theorem lets_eq : (Str.ofString "abcdefghijklmnopqrstuvwxyz").cps.toList = lets := by decide +kernel
theorem lets_mem {c : Nat} : c ∈ lets ↔ 97 ≤ c ∧ c < 123 := by
  unfold lets
  rw [List.mem_map]
  constructor
  · rintro ⟨i, hi, rfl⟩
    rw [List.mem_range] at hi
    omega
  · rintro ⟨h1, h2⟩
    exact ⟨c - 97, List.mem_range.mpr (by omega), by omega⟩
theorem letter_at {i : Nat} {st : Sto} (h : i < 26) : ixD (.str "abcdefghijklmnopqrstuvwxyz") (.int (i : Nat)) st = .ok (.str ⟨#[97 + i]⟩) st := by
  have hl : (Str.ofString "abcdefghijklmnopqrstuvwxyz").length ≤ sizeLine := by decide +kernel
  have e : L2.atI (Str.ofString "abcdefghijklmnopqrstuvwxyz").cps.toList (i : Nat) = some (97 + i) := by
    rw [lets_eq]
    refine atI_nat ?_
    unfold lets
    rw [List.getElem?_map, List.getElem?_range h]; rfl
  simp only [ixD]
  rw [if_pos hl, e]
theorem join_cs : ∀ {cs : List Nat}, Txt.join "" (cs.map fun c => (⟨#[c]⟩ : Str)) = ⟨cs.toArray⟩ := by
  intro cs
  show Builtin.Str.glued (PySem.Str.ofString "") _ = _
  rw [StrLaws.glued_eq_join]
  have e0 : (PySem.Str.ofString "").cps = #[] := by decide +kernel
  induction cs with
  | nil => rfl
  | cons c r ih =>
    cases r with
    | nil => rfl
    | cons d r =>
      show (⟨#[c]⟩ : Str) ++ PySem.Str.ofString "" ++ PySem.Str.join (PySem.Str.ofString "") ((d :: r).map fun c => (⟨#[c]⟩ : Str)) = _
      rw [ih]
      show (⟨(#[c] ++ (PySem.Str.ofString "").cps) ++ (d :: r).toArray⟩ : Str) = _
      rw [e0]
      simp
theorem join_ok {S : Sto} {r : Nat} {cs : List Nat} (h : listAt S r = some (cs.map fun c => .str ⟨#[c]⟩)) (hl : cs.length ≤ 1000) : joinD (.str "") [.ref r] S = .ok (.str ⟨cs.toArray⟩) S := by
  have h' : listAt S r = some ((cs.map fun c => (⟨#[c]⟩ : Str)).map .str) := by rw [h, List.map_map]; rfl
  have hs : ((cs.map fun c => (⟨#[c]⟩ : Str)).map (·.length)).sum = cs.length := by
    clear h h' hl
    induction cs with
    | nil => rfl
    | cons c r ih =>
      rw [List.map_cons, List.map_cons, List.sum_cons, ih, List.length_cons]
      show 1 + r.length = _
      omega
  have h0 : (Str.ofString "").length = 0 := by decide +kernel
  simp only [joinD, h', Option.bind_some, strs_map]
  rw [if_pos (by rw [hs, h0, Nat.mul_zero]; omega), join_cs]
def Nm (m : Nat) (s : Str) : Prop := s.cps.toList.length = m ∧ ∀ c ∈ s.cps.toList, 97 ≤ c ∧ c < 123
theorem Nm.len {m : Nat} {s : Str} (h : Nm m s) : s.length = m := by rw [← h.1]; exact Array.length_toList.symm
theorem names_ok {c : Int} {st : Sto} : ∃ r ns m S, f__law_names [.int c] st = .ok (.ref r) S ∧ Le st S ∧ S[r]? = some (.lst ((ns : List Str).map .str)) ∧ ns.length = 4 ∧ 1 ≤ m ∧ m ≤ 5 ∧ ∀ s ∈ ns, Nm m s := by
  obtain ⟨m, hm⟩ : ∃ m : Nat, 1 + mixed c % 5 = m := ⟨(1 + mixed c % 5).toNat, by omega⟩
  have hm1 : 1 ≤ m := by omega
  have hm2 : m ≤ 5 := by omega
  have v25 : (25 : Int).natAbs.log2 < 9000 := by decide +kernel
  have v5 : (5 : Int).natAbs.log2 < 9000 := by decide +kernel
  have mx := mixed_ok (c := c) (st := st)
  have d1 := digits_ok (n := mixed c / 25) (top := 26) (k := m) (st := st) (by decide) (by decide +kernel) (by omega)
  obtain ⟨S1, hS1⟩ : ∃ S, S = st ++ [VL.O.lst (digsD 26 m (mixed c / 25))] := ⟨_, rfl⟩
  rw [← hS1] at d1
  have L1 : Le st S1 := hS1 ▸ Le.app _ _
  have g1 : listAt S1 st.length = some (digsD 26 m (mixed c / 25)) := hS1 ▸ listAt_last
  have ln : ∀ S, Le S1 S → lenD [.ref st.length] S = .ok (.int m) S := fun S h => by rw [lenD_list (h.listAt g1), digsD_len]
  obtain ⟨at_, hat⟩ : ∃ a : Int, a = mixed c / 5 % 5 % m := ⟨_, rfl⟩
  have m0 : (0 : Int) < m := by omega
  have r4 : rng1D [.int 4] (S1 ++ [.lst []]) = .ok (intsD 0 1 4, []) (S1 ++ [.lst []]) := rng1_ok (w := 4) (by decide)
  obtain ⟨e', S, hf, z, xs, he, hS, hp, hl, hn⟩ := forL_inv (c := []) (gf := nameG 6) (b := l0__law_names) (ds := intsD 0 1 4) (env := [some (.int c), some (.str "abcdefghijklmnopqrstuvwxyz"), some (.int (mixed c)), some (.ref st.length), some (.int at_), some (.ref S1.length), none, none]) (st := S1 ++ [.lst []])
    (fun i env S => ∃ z xs, env = [some (.int c), some (.str "abcdefghijklmnopqrstuvwxyz"), some (.int (mixed c)), some (.ref st.length), some (.int at_), some (.ref S1.length), z, none] ∧ Le S1 S ∧ S[S1.length]? = some (.lst ((xs : List Str).map .str)) ∧ xs.length = i ∧ ∀ s ∈ xs, Nm m s)
    ⟨none, [], rfl, Le.app _ _, get_last, rfl, by simp⟩ (fun _ _ _ _ => ChkOk.nil) fun i x env S hi ⟨z, xs, he, hS, hp, hl, hn⟩ => by
      subst he
      obtain ⟨hi4, rfl⟩ := intsD_get hi
      have hr : rng1D [.int m] S = .ok (intsD 0 1 m, []) S := rng1_ok (by omega)
      obtain ⟨l, hll, ⟨j, e1⟩, _⟩ := lcF_any (st := S) (s := S) (c := []) (ds := intsD 0 1 m) (it := itA rng1D (consA (callF lenD (consA (varF 3) nilA)) nilA)) (vs := [7]) (gf := nameG 7) (te := opF ixD (varF 1) (opF modD (opF addD (opF ixD (varF 3) (varF 7)) (opF mulD (varF 6) (callF int1D (consA (opF eqD (varF 7) (varF 4)) nilA)))) (cF (.int 26)))) (env := [some (.int c), some (.str "abcdefghijklmnopqrstuvwxyz"), some (.int (mixed c)), some (.ref st.length), some (.int at_), some (.ref S1.length), some (.int (0 + (i : Nat) * 1)), none])
        (A := {c : Nat // 97 ≤ c ∧ c < 123}) (fun c => .str ⟨#[c.1]⟩) (fun _ _ => True) (by simp -implicitDefEqProofs +decide only [varF_ap, cF_ap, opF_ap, opK_ap, bF_ap, boolK_ap, andT_ap, andK_ap, orT_ap, orK_ap, notT_ap, notK_ap, yesT_ap, andV_ap, andVK_ap, orV_ap, orVK_ap, notV_ap, notVK_ap, ifF_ap, ifFK_ap, nilA_ap, consA_ap, consK_ap, consJ_ap, tupA_ap, lstA_ap, newO_ap, dicF_ap, callF_ap, un1_ap, methF_ap, nonO_ap, someO_ap, someK_ap, slF_ap, slK_ap, slJ_ap, itF_ap, itA_ap, nilS_ap, bkS_ap, ctS_ap, seqS_ap, seqK_nx, seqK_rt, seqK_bk, seqK_ct, dropS_ap, dropK_ap, retS_ap, retK_ap, retN_ap, ifS_ap, ifK_ap, setS_ap, setK_ap, asgS_ap, asgK_ap, asgJ_ap, nameG_ap, nilG_ap, consG_ap, consGK_ap, fnF_ap, fnK_nx, fnK_rt, forS_ap, forK_ap, negD_ap, addI_ap, varK_ap, startE, yes2, isN, List.map_cons, List.map_nil, List.length_cons, List.length_nil, List.replicate, List.append_nil, List.cons_append, List.nil_append, List.getElem?_cons_zero, List.getElem?_cons_succ, List.set_cons_zero, List.set_cons_succ, R.bind_ok, R.bind_ex, R.bind_bad, R.noex_ok, if_true, if_false, Bool.false_eq_true, Bool.true_eq_false, ite_true, ite_false, reduceIte, Nat.reduceAdd, Nat.reduceSub, Nat.zero_add, Nat.sub_self, Nat.sub_zero, decide_true, decide_false, Bool.not_true, Bool.not_false, subD_ap, ltD_ap, leD_ap, gtD_ap, geD_ap, mulD_ap, modD_ap, divD_ap, powD_ap, tupK_ok, lstK_ok, methK_ok, tupG_ok, eqS_t, eqS_f, neS_t, neS_f, eqI_ap, neI_ap, inT_nil, inT_hit, inT_miss, ne_eq, not_false_eq_true, ln S hS, hr]) chk_nil (by rw [intsD_len, sizeLine_eq']; omega) fun d hd => by
          obtain ⟨k, hk, rfl⟩ := ints_mem hd
          obtain ⟨b, hb⟩ : ∃ b, (digs 26 m (mixed c / 25))[k]? = some b := ⟨_, List.getElem?_eq_getElem (by rw [digs_len]; exact hk)⟩
          have hb2 : (digsD 26 m (mixed c / 25))[k]? = some (.int b) := by rw [digsD, List.getElem?_map, hb]; rfl
          have q : ∀ t, VL.MulOk (0 + (i : Nat) * 1) t := mul_l (Sm.of (by omega) (show _ < (5 : Int) by omega) (by decide))
          have tf : ∀ (b : Bool) S, int1D [.bl b] S = .ok (.int (if b = true then 1 else 0)) S := fun b S => by cases b <;> rfl
          obtain ⟨u, hu⟩ : ∃ u : Int, u = (if decide (0 + (k : Int) * 1 = at_) = true then 1 else 0) := ⟨_, rfl⟩
          obtain ⟨p, hpp⟩ : ∃ p : Nat, (b + (0 + (i : Nat) * 1) * u) % 26 = p := ⟨((b + (0 + (i : Nat) * 1) * u) % 26).toNat, by omega⟩
          have hp26 : p < 26 := by omega
          have ib : ∀ S', Le S S' → ixD (.ref st.length) (.int (0 + (k : Int) * 1)) S' = .ok (.int b) S' := fun S' h => by
            rw [show (0 : Int) + (k : Int) * 1 = (k : Nat) by omega]
            exact ixD_list ((hS.trans h).listAt g1) hb2
          refine ⟨⟨97 + p, by omega, by omega⟩, trivial, fun S' hS' => ⟨_, [], rfl, ?_⟩⟩
          rw [List.append_nil]
          simp -implicitDefEqProofs +decide only [varF_ap, cF_ap, opF_ap, opK_ap, bF_ap, boolK_ap, andT_ap, andK_ap, orT_ap, orK_ap, notT_ap, notK_ap, yesT_ap, andV_ap, andVK_ap, orV_ap, orVK_ap, notV_ap, notVK_ap, ifF_ap, ifFK_ap, nilA_ap, consA_ap, consK_ap, consJ_ap, tupA_ap, lstA_ap, newO_ap, dicF_ap, callF_ap, un1_ap, methF_ap, nonO_ap, someO_ap, someK_ap, slF_ap, slK_ap, slJ_ap, itF_ap, itA_ap, nilS_ap, bkS_ap, ctS_ap, seqS_ap, seqK_nx, seqK_rt, seqK_bk, seqK_ct, dropS_ap, dropK_ap, retS_ap, retK_ap, retN_ap, ifS_ap, ifK_ap, setS_ap, setK_ap, asgS_ap, asgK_ap, asgJ_ap, nameG_ap, nilG_ap, consG_ap, consGK_ap, fnF_ap, fnK_nx, fnK_rt, forS_ap, forK_ap, negD_ap, addI_ap, varK_ap, startE, yes2, isN, List.map_cons, List.map_nil, List.length_cons, List.length_nil, List.replicate, List.append_nil, List.cons_append, List.nil_append, List.getElem?_cons_zero, List.getElem?_cons_succ, List.set_cons_zero, List.set_cons_succ, R.bind_ok, R.bind_ex, R.bind_bad, R.noex_ok, if_true, if_false, Bool.false_eq_true, Bool.true_eq_false, ite_true, ite_false, reduceIte, Nat.reduceAdd, Nat.reduceSub, Nat.zero_add, Nat.sub_self, Nat.sub_zero, decide_true, decide_false, Bool.not_true, Bool.not_false, subD_ap, ltD_ap, leD_ap, gtD_ap, geD_ap, mulD_ap, modD_ap, divD_ap, powD_ap, tupK_ok, lstK_ok, methK_ok, tupG_ok, eqS_t, eqS_f, neS_t, neS_f, eqI_ap, neI_ap, inT_nil, inT_hit, inT_miss, ne_eq, not_false_eq_true, wipeE, ib S' hS', tf, ← hu, q]
          rw [hpp]
          exact letter_at hp26
      obtain ⟨cs, hcs⟩ : ∃ cs, cs = l.map (·.1) := ⟨_, rfl⟩
      have hm1 : l.map (fun c => VL.D.str ⟨#[c.1]⟩) = cs.map fun c => .str ⟨#[c]⟩ := by rw [hcs, List.map_map]; rfl
      rw [hm1] at e1
      rw [intsD_len] at hll
      have hcl : cs.length = m := by rw [hcs, List.length_map, hll]
      have q0 : q0__law_names [some (.int c), some (.str "abcdefghijklmnopqrstuvwxyz"), some (.int (mixed c)), some (.ref st.length), some (.int at_), some (.ref S1.length), some (.int (0 + (i : Nat) * 1)), none] S = _ := e1
      have jn := join_ok (S := S ++ .lst (cs.map fun c => .str ⟨#[c]⟩) :: j) listAt_at (by omega : cs.length ≤ 1000)
      have hp2 : (S ++ VL.O.lst (cs.map fun c => .str ⟨#[c]⟩) :: j)[S1.length]? = some (.lst (xs.map .str)) := get_app hp
      have ap := appD_ok (d := .str ⟨cs.toArray⟩) hp2 (by rw [List.length_map, sizeLine_eq']; omega)
      have ty : tyD "list" (VL.D.ref S1.length) S := tyD_list (by unfold listAt; rw [hp])
      have ty2 : tyD "str" (VL.D.str "") S := rfl
      refine ⟨_, _, [some (.int c), some (.str "abcdefghijklmnopqrstuvwxyz"), some (.int (mixed c)), some (.ref st.length), some (.int at_), some (.ref S1.length), some (.int (0 + (i : Nat) * 1)), none], (S ++ VL.O.lst (cs.map fun c => .str ⟨#[c]⟩) :: j).set S1.length (.lst (xs.map .str ++ [.str ⟨cs.toArray⟩])), rfl, by simp -implicitDefEqProofs +decide only [varF_ap, cF_ap, opF_ap, opK_ap, bF_ap, boolK_ap, andT_ap, andK_ap, orT_ap, orK_ap, notT_ap, notK_ap, yesT_ap, andV_ap, andVK_ap, orV_ap, orVK_ap, notV_ap, notVK_ap, ifF_ap, ifFK_ap, nilA_ap, consA_ap, consK_ap, consJ_ap, tupA_ap, lstA_ap, newO_ap, dicF_ap, callF_ap, un1_ap, methF_ap, nonO_ap, someO_ap, someK_ap, slF_ap, slK_ap, slJ_ap, itF_ap, itA_ap, nilS_ap, bkS_ap, ctS_ap, seqS_ap, seqK_nx, seqK_rt, seqK_bk, seqK_ct, dropS_ap, dropK_ap, retS_ap, retK_ap, retN_ap, ifS_ap, ifK_ap, setS_ap, setK_ap, asgS_ap, asgK_ap, asgJ_ap, nameG_ap, nilG_ap, consG_ap, consGK_ap, fnF_ap, fnK_nx, fnK_rt, forS_ap, forK_ap, negD_ap, addI_ap, varK_ap, startE, yes2, isN, List.map_cons, List.map_nil, List.length_cons, List.length_nil, List.replicate, List.append_nil, List.cons_append, List.nil_append, List.getElem?_cons_zero, List.getElem?_cons_succ, List.set_cons_zero, List.set_cons_succ, R.bind_ok, R.bind_ex, R.bind_bad, R.noex_ok, if_true, if_false, Bool.false_eq_true, Bool.true_eq_false, ite_true, ite_false, reduceIte, Nat.reduceAdd, Nat.reduceSub, Nat.zero_add, Nat.sub_self, Nat.sub_zero, decide_true, decide_false, Bool.not_true, Bool.not_false, subD_ap, ltD_ap, leD_ap, gtD_ap, geD_ap, mulD_ap, modD_ap, divD_ap, powD_ap, tupK_ok, lstK_ok, methK_ok, tupG_ok, eqS_t, eqS_f, neS_t, neS_f, eqI_ap, neI_ap, inT_nil, inT_hit, inT_miss, ne_eq, not_false_eq_true, l0__law_names, ty, ty2, q0, jn, ap], _, xs ++ [⟨cs.toArray⟩], rfl, (hS.trans (Le.app _ _)).set (Nat.le_refl _), ?_, by rw [List.length_append, hl]; rfl, fun s hs => ?_⟩
      · rw [List.getElem?_set_self (List.getElem?_eq_some_iff.mp hp2).1, List.map_append]; rfl
      · rcases List.mem_append.mp hs with hs | hs
        · exact hn s hs
        · obtain rfl := List.mem_singleton.mp hs
          refine ⟨by rw [List.toList_toArray]; exact hcl, fun c hc => ?_⟩
          rw [List.toList_toArray, hcs] at hc
          obtain ⟨d, _, rfl⟩ := List.mem_map.mp hc
          exact d.2
  rw [intsD_len] at hl
  refine ⟨S1.length, xs, m, S, ?_, L1.trans hS, hp, hl, hm1, hm2, hn⟩
  subst he
  simp -implicitDefEqProofs +decide only [varF_ap, cF_ap, opF_ap, opK_ap, bF_ap, boolK_ap, andT_ap, andK_ap, orT_ap, orK_ap, notT_ap, notK_ap, yesT_ap, andV_ap, andVK_ap, orV_ap, orVK_ap, notV_ap, notVK_ap, ifF_ap, ifFK_ap, nilA_ap, consA_ap, consK_ap, consJ_ap, tupA_ap, lstA_ap, newO_ap, dicF_ap, callF_ap, un1_ap, methF_ap, nonO_ap, someO_ap, someK_ap, slF_ap, slK_ap, slJ_ap, itF_ap, itA_ap, nilS_ap, bkS_ap, ctS_ap, seqS_ap, seqK_nx, seqK_rt, seqK_bk, seqK_ct, dropS_ap, dropK_ap, retS_ap, retK_ap, retN_ap, ifS_ap, ifK_ap, setS_ap, setK_ap, asgS_ap, asgK_ap, asgJ_ap, nameG_ap, nilG_ap, consG_ap, consGK_ap, fnF_ap, fnK_nx, fnK_rt, forS_ap, forK_ap, negD_ap, addI_ap, varK_ap, startE, yes2, isN, List.map_cons, List.map_nil, List.length_cons, List.length_nil, List.replicate, List.append_nil, List.cons_append, List.nil_append, List.getElem?_cons_zero, List.getElem?_cons_succ, List.set_cons_zero, List.set_cons_succ, R.bind_ok, R.bind_ex, R.bind_bad, R.noex_ok, if_true, if_false, Bool.false_eq_true, Bool.true_eq_false, ite_true, ite_false, reduceIte, Nat.reduceAdd, Nat.reduceSub, Nat.zero_add, Nat.sub_self, Nat.sub_zero, decide_true, decide_false, Bool.not_true, Bool.not_false, subD_ap, ltD_ap, leD_ap, gtD_ap, geD_ap, mulD_ap, modD_ap, divD_ap, powD_ap, tupK_ok, lstK_ok, methK_ok, tupG_ok, eqS_t, eqS_f, neS_t, neS_f, eqI_ap, neI_ap, inT_nil, inT_hit, inT_miss, ne_eq, not_false_eq_true, f__law_names, b__law_names, mx, v25, v5, hm, d1, ln S1 (Le.refl _), m0, ← hat, r4, hf, sz (by decide : 0 ≤ 100)]
def fr (n0 : Str) (k : Nat) : Str := n0 ++ ⟨#[97 + k % 26]⟩ ++ ⟨#[97 + k / 26 % 26]⟩
theorem addS {a b : Str} {st : Sto} (h : a.length + b.length ≤ 1000) : addD (.str a) (.str b) st = .ok (.str (a ++ b)) st := by
  simp only [addD]; rw [if_pos (by rw [sizeLine_eq']; omega)]
theorem fresh_ok {S : Sto} {r : Nat} {n0 : Str} {ns : List Str} {k : Nat} (h : listAt S r = some ((n0 :: ns).map .str)) (hl : n0.length ≤ 900) : f__law_fresh [.ref r, .int k] S = .ok (.str (fr n0 k)) S := by
  have v26 : (26 : Int).natAbs.log2 < 9000 := by decide +kernel
  have i0 : ixD (.ref r) (.int 0) S = .ok (.str n0) S := ixD_list (k := 0) h rfl
  have i1 : ixD (.str "abcdefghijklmnopqrstuvwxyz") (.int ((k : Int) % 26)) S = .ok (.str ⟨#[97 + k % 26]⟩) S := by
    rw [show (k : Int) % 26 = ((k % 26 : Nat) : Int) by omega]; exact letter_at (by omega)
  have i2 : ixD (.str "abcdefghijklmnopqrstuvwxyz") (.int ((k : Int) / 26 % 26)) S = .ok (.str ⟨#[97 + k / 26 % 26]⟩) S := by
    rw [show (k : Int) / 26 % 26 = ((k / 26 % 26 : Nat) : Int) by omega]; exact letter_at (by omega)
  have a1 : addD (.str n0) (.str ⟨#[97 + k % 26]⟩) S = .ok (.str (n0 ++ ⟨#[97 + k % 26]⟩)) S := addS (by show n0.length + 1 ≤ _; omega)
  have a2 : addD (.str (n0 ++ ⟨#[97 + k % 26]⟩)) (.str ⟨#[97 + k / 26 % 26]⟩) S = .ok (.str (fr n0 k)) S := addS (by rw [Str.length_append]; show n0.length + 1 + 1 ≤ _; omega)
  simp -implicitDefEqProofs +decide only [varF_ap, cF_ap, opF_ap, opK_ap, bF_ap, boolK_ap, andT_ap, andK_ap, orT_ap, orK_ap, notT_ap, notK_ap, yesT_ap, andV_ap, andVK_ap, orV_ap, orVK_ap, notV_ap, notVK_ap, ifF_ap, ifFK_ap, nilA_ap, consA_ap, consK_ap, consJ_ap, tupA_ap, lstA_ap, newO_ap, dicF_ap, callF_ap, un1_ap, methF_ap, nonO_ap, someO_ap, someK_ap, slF_ap, slK_ap, slJ_ap, itF_ap, itA_ap, nilS_ap, bkS_ap, ctS_ap, seqS_ap, seqK_nx, seqK_rt, seqK_bk, seqK_ct, dropS_ap, dropK_ap, retS_ap, retK_ap, retN_ap, ifS_ap, ifK_ap, setS_ap, setK_ap, asgS_ap, asgK_ap, asgJ_ap, nameG_ap, nilG_ap, consG_ap, consGK_ap, fnF_ap, fnK_nx, fnK_rt, forS_ap, forK_ap, negD_ap, addI_ap, varK_ap, startE, yes2, isN, List.map_cons, List.map_nil, List.length_cons, List.length_nil, List.replicate, List.append_nil, List.cons_append, List.nil_append, List.getElem?_cons_zero, List.getElem?_cons_succ, List.set_cons_zero, List.set_cons_succ, R.bind_ok, R.bind_ex, R.bind_bad, R.noex_ok, if_true, if_false, Bool.false_eq_true, Bool.true_eq_false, ite_true, ite_false, reduceIte, Nat.reduceAdd, Nat.reduceSub, Nat.zero_add, Nat.sub_self, Nat.sub_zero, decide_true, decide_false, Bool.not_true, Bool.not_false, subD_ap, ltD_ap, leD_ap, gtD_ap, geD_ap, mulD_ap, modD_ap, divD_ap, powD_ap, tupK_ok, lstK_ok, methK_ok, tupG_ok, eqS_t, eqS_f, neS_t, neS_f, eqI_ap, neI_ap, inT_nil, inT_hit, inT_miss, ne_eq, not_false_eq_true, f__law_fresh, b__law_fresh, v26, i0, i1, i2, a1, a2]
theorem fr_len {n0 : Str} {k : Nat} : (fr n0 k).length = n0.length + 2 := by
  unfold fr
  rw [Str.length_append, Str.length_append]; rfl
theorem fri_len {n0 : Str} {k : Nat} : (fr n0 k ++ "i").length = n0.length + 3 := by
  rw [Str.length_append, fr_len]
  have : (Str.ofString "i").length = 1 := by decide +kernel
  rw [this]
theorem fr_inj {n0 : Str} {j k : Nat} (hj : j < 676) (hk : k < 676) (h : fr n0 j = fr n0 k) : j = k := by
  have h2 : (fr n0 j).cps.toList = (fr n0 k).cps.toList := by rw [h]
  unfold fr at h2
  simp only [Str.cps_append, Array.toList_append, List.append_assoc] at h2
  have h3 := List.append_cancel_left h2
  simp only [List.cons_append, List.nil_append, List.cons.injEq, and_true] at h3
  omega
theorem fri_inj {n0 : Str} {j k : Nat} (hj : j < 676) (hk : k < 676) (h : fr n0 j ++ "i" = fr n0 k ++ "i") : j = k := by
  refine fr_inj (n0 := n0) hj hk ?_
  have h2 : (fr n0 j ++ "i").cps.toList = (fr n0 k ++ "i").cps.toList := by rw [h]
  simp only [Str.cps_append, Array.toList_append] at h2
  have h3 := List.append_cancel_right h2
  cases hx : fr n0 j with | mk a => cases hy : fr n0 k with | mk b =>
  rw [hx, hy] at h3
  cases a; cases b; cases h3; rfl
theorem ne_len {a b : Str} (h : a.length ≠ b.length) : a ≠ b := fun e => h (e ▸ rfl)
end Law

namespace Law
open PySem L2 VL
theorem dget_snoc_ne {W : List (VL.D × VL.D)} {j k : Str} {v : VL.D} (h : j ≠ k) : dget (W ++ [(.str j, v)]) (.str k) = dget W (.str k) := by
  unfold dget
  rw [List.find?_append]
  have : keyQ (.str j) (.str k) = false := by simp [keyQ, h]
  simp [this]
theorem dget_snoc_eq {W : List (VL.D × VL.D)} {k : Str} {v : VL.D} (h : dget W (.str k) = none) : dget (W ++ [(.str k, v)]) (.str k) = some v := by
  unfold dget at *
  rw [Option.map_eq_none_iff] at h
  rw [List.find?_append, h]
  have : keyQ (.str k) (.str k) = true := by simp [keyQ]
  simp [this]
/-! dicts built -/
theorem keyQ_s {a b : Str} : keyQ (.str a) (.str b) = decide (a = b) := rfl
theorem keyQ_eq {d : VL.D} {k : Str} (h : keyQ d (.str k) = true) : d = .str k := by
  cases d <;> simp [keyQ] at h
  rw [h]
theorem dget_dput {W : List (VL.D × VL.D)} {k k' : Str} {v : VL.D} : dget (dput W (.str k) v) (.str k') = if k = k' then some v else dget W (.str k') := by
  unfold dput
  by_cases h : (W.any fun p => keyQ p.1 (.str k)) = true
  · rw [if_pos h]
    unfold dget
    induction W with
    | nil => cases h
    | cons p W ih =>
      rw [List.map_cons, List.find?_cons, List.find?_cons]
      by_cases hp : keyQ p.1 (.str k) = true
      · have e := keyQ_eq hp
        rw [if_pos hp]
        show Option.map _ (match keyQ p.1 (.str k') with | true => some (p.1, v) | false => _) = _
        rw [e, keyQ_s]
        by_cases hk : k = k'
        · rw [decide_eq_true hk, if_pos hk]; rfl
        · rw [decide_eq_false hk, if_neg hk]
          show Option.map (·.2) (List.find? (fun p : VL.D × VL.D => keyQ p.1 (.str k')) (W.map fun p => if keyQ p.1 (.str k) = true then (p.1, v) else p)) = Option.map (·.2) (List.find? (fun p : VL.D × VL.D => keyQ p.1 (.str k')) W)
          clear ih h hp e
          induction W with
          | nil => rfl
          | cons p W ih =>
            rw [List.map_cons, List.find?_cons, List.find?_cons]
            by_cases hp : keyQ p.1 (.str k) = true
            · have e := keyQ_eq hp
              rw [if_pos hp, e, keyQ_s, decide_eq_false hk]
              exact ih
            · rw [if_neg hp]
              split
              · rfl
              · exact ih
      · rw [if_neg hp]
        have h' : (W.any fun p => keyQ p.1 (.str k)) = true := by
          rw [List.any_cons, Bool.or_eq_true] at h
          exact h.resolve_left hp
        have ih := ih h'
        by_cases hq : keyQ p.1 (.str k') = true
        · rw [hq]
          by_cases hk : k = k'
          · exact absurd (hk ▸ hq) hp
          · rw [if_neg hk]
        · rw [Bool.eq_false_iff.mpr hq]
          exact ih
  · rw [if_neg h]
    have h0 : dget W (.str k) = none := by
      unfold dget
      rw [Option.map_eq_none_iff, List.find?_eq_none]
      rw [Bool.not_eq_true, List.any_eq_false] at h
      exact h
    by_cases hk : k = k'
    · subst hk
      rw [if_pos rfl, dget_snoc_eq h0]
    · rw [if_neg hk, dget_snoc_ne hk]
structure DicI (ns : List Str) (i : Nat) (hi : Int) (W : List (VL.D × VL.D)) : Prop where
  ok : keysOk W = true
  len : W.length ≤ i
  nd : (W.map (·.1)).Nodup
  fl : ∀ p ∈ W, flD p.2 = true
  has : ∀ k, (dget W (.str k)).isSome = true → k ∈ ns
  val : ∀ j s, j < i → ns[j]? = some s → ∃ v : Int, dget W (.str s) = some (.int v) ∧ 1 ≤ v ∧ v ≤ hi
theorem DicI.nil {ns : List Str} {hi : Int} : DicI ns 0 hi [] := ⟨rfl, Nat.le_refl _, List.nodup_nil, fun p h => (by cases h), fun k h => (by cases h), fun j s h => (by omega)⟩
theorem DicI.put {ns : List Str} {i : Nat} {hi v : Int} {s : Str} {W : List (VL.D × VL.D)} (h : DicI ns i hi W) (hs : ns[i]? = some s) (h1 : 1 ≤ v) (h2 : v ≤ hi) : DicI ns (i + 1) hi (dput W (.str s) (.int v)) := by
  have hm := List.mem_of_getElem? hs
  refine ⟨?_, ?_, ?_, ?_, fun k hk => ?_, fun j t hj ht => ?_⟩
  · have := h.ok
    unfold keysOk at this ⊢
    unfold dput
    split
    · rw [List.all_map]
      rw [List.all_eq_true] at this ⊢
      intro p hp
      show isKD (if keyQ p.1 (.str s) = true then (p.1, VL.D.int v) else p).1 = true
      split <;> exact this p hp
    · rw [List.all_append, this]; rfl
  · unfold dput
    have := h.len
    split
    · rw [List.length_map]; omega
    · rw [List.length_append]; show W.length + 1 ≤ _; omega
  · unfold dput
    split
    · have e : (W.map fun p => if keyQ p.1 (.str s) = true then (p.1, VL.D.int v) else p).map (·.1) = W.map (·.1) := by
        rw [List.map_map]
        refine List.map_congr_left fun p _ => ?_
        show (if keyQ p.1 (.str s) = true then (p.1, VL.D.int v) else p).1 = p.1
        split <;> rfl
      rw [e]; exact h.nd
    · rename_i hn
      rw [List.map_append, List.nodup_append]
      refine ⟨h.nd, by simp, fun a ha b hb e => ?_⟩
      obtain ⟨p, hp, rfl⟩ := List.mem_map.mp ha
      have e2 : b = .str s := by simpa using hb
      apply hn
      rw [List.any_eq_true]
      refine ⟨p, hp, ?_⟩
      rw [e, e2, keyQ_s, decide_eq_true rfl]
  · intro p hp
    unfold dput at hp
    split at hp
    · obtain ⟨q, hq, rfl⟩ := List.mem_map.mp hp
      split
      · rfl
      · exact h.fl q hq
    · rcases List.mem_append.mp hp with hp | hp
      · exact h.fl p hp
      · obtain rfl := List.mem_singleton.mp hp; rfl
  · rw [dget_dput] at hk
    split at hk
    · rename_i e; exact e ▸ hm
    · exact h.has k hk
  · rw [dget_dput]
    by_cases e : s = t
    · rw [if_pos e]; exact ⟨v, rfl, h1, h2⟩
    · rw [if_neg e]
      rcases Nat.lt_succ_iff_lt_or_eq.mp hj with hj | hj
      · exact h.val j t hj ht
      · subst hj
        rw [hs] at ht; cases ht
        exact absurd rfl e
theorem keys_ne {n0 : Str} {ns : List Str} {m k : Nat} (hn : ∀ s ∈ ns, Nm m s) (h0 : n0 ∈ ns) : (∀ s ∈ ns, fr n0 k ≠ s) ∧ ∀ s ∈ ns, fr n0 k ++ "i" ≠ s :=
  ⟨fun s hs => ne_len (by rw [fr_len, (hn s hs).len, (hn n0 h0).len]; omega), fun s hs => ne_len (by rw [fri_len, (hn s hs).len, (hn n0 h0).len]; omega)⟩
theorem DicI.none {ns : List Str} {i : Nat} {hi : Int} {W : List (VL.D × VL.D)} {k : Str} (h : DicI ns i hi W) (hk : ∀ s ∈ ns, k ≠ s) : dget W (.str k) = .none := by
  cases e : dget W (.str k) with
  | none => rfl
  | some d => exact absurd rfl (hk k (h.has k (by rw [e]; rfl)))
end Law

namespace Law
open PySem L2 VL
section
variable {P P' : List (VL.D × VL.D) → Prop} {a b e : VL.D} {x y qa qb : Int} {da db : Nat}
def seven : List Str := ["join", "left", "notin", "pour", "both", "either", "less"]
theorem fd1_wd {a b c d w : Int} (ha : a ≤ 5) (hb : b ≤ 5) (hc : c ≤ 5) (hd : d ≤ 5) : 0 ≤ fd [a, b, c, d, wd w] ∧ fd [a, b, c, d, wd w] ≤ 5 := fd5 ha hb hc hd wd_le
theorem fd4_end {a b c d z : Int} (h : z = 0) : fd [a, b, c, d, z] = fd [a, b, c, d] := by
  subst h
  unfold fd
  split
  · rfl
  · unfold fd
    split
    · rfl
    · exact fd_end rfl
theorem three {x y : Int} {st : Sto} : ∃ d, neD (.int x) (.int y) st = .ok (.bl d) st ∧ (3 : Int) * (if d = true then 1 else 0) = if x ≠ y then 3 else 0 := by
  by_cases h : x = y
  · exact ⟨false, by rw [neI_ap, decide_eq_true h]; rfl, by
      show (3 : Int) * 0 = if x ≠ y then 3 else 0
      rw [if_neg (fun k => k h)]; rfl⟩
  · exact ⟨true, by rw [neI_ap, decide_eq_false h]; rfl, by
      show (3 : Int) * 1 = if x ≠ y then 3 else 0
      rw [if_pos h]; rfl⟩
theorem t3_le {x y : Int} : (if x ≠ y then (3 : Int) else 0) ≤ 5 := by split <;> decide
theorem two_ok {w : Str} {n : Int} {st : Sto} (hw : w ∈ seven) (ha : En P x qa da a) (hb : En P y qb db b) : ∃ z q dz e S, f__law_two [.int n, .str w, a, b] st = .ok e S ∧ Le st S ∧ En P z q dz e := by
  obtain ⟨v, g, dq, rfl, hdq, hx1, hx2, hq1, hq2, h5⟩ := ha
  obtain ⟨u, i, dr, rfl, hdr, hy1, hy2, hr1, hr2, k5⟩ := hb
  have m3 : ∀ y, VL.MulOk 3 y := mul_l (by decide)
  have m2 : ∀ y, VL.MulOk 2 y := mul_l (by decide)
  have m8 : ∀ y, VL.MulOk 8 y := mul_l (by decide)
  have v13 : (13 : Int).natAbs.log2 < 9000 := by decide +kernel
  have v26 : (26 : Int).natAbs.log2 < 9000 := by decide +kernel
  by_cases h4 : w ∈ four
  · obtain ⟨d, ne, e3⟩ := three (x := x) (y := y) (st := st ++ [VL.O.lst [.int qa, .int qb]])
    have ty : tyD "list" (VL.D.ref st.length) (st ++ [VL.O.lst [.int qa, .int qb]]) := tyD_list listAt_last
    have ap : appD (.ref st.length) [.int (if x ≠ y then 3 else 0)] (st ++ [VL.O.lst [.int qa, .int qb]]) = .ok .non (st ++ [VL.O.lst [.int qa, .int qb, .int (if x ≠ y then 3 else 0)]]) := by
      rw [appD_ok get_last (by rw [sizeLine_eq']; show 2 < 16777216; decide), set_last]; rfl
    have mn : min x 12 = x := by omega
    refine ⟨x, fd [qa, qb, if x ≠ y then 3 else 0], 1 + max da db, .tup [.tup [.str w, v, u], .int (min x 12), .int (fd [qa, qb, if x ≠ y then 3 else 0]), .int (24 + 8 * 0 + g + i), .int (1 + max dq dr)], st ++ [VL.O.lst [.int qa, .int qb, .int (if x ≠ y then 3 else 0)]], ?_, Le.app _ _, _, _, _, by rw [mn], by omega, hx1, hx2, (fd3 hq2 hr2 t3_le).1, (fd3 hq2 hr2 t3_le).2, look_same h4 hq1 hr1 h5 k5⟩
    simp only [four, List.mem_cons, List.not_mem_nil, or_false] at h4
    generalize (if x ≠ y then (3 : Int) else 0) = t3 at *
    rcases h4 with rfl | rfl | rfl | rfl <;> simp -implicitDefEqProofs +decide only [varF_ap, cF_ap, opF_ap, opK_ap, bF_ap, boolK_ap, andT_ap, andK_ap, orT_ap, orK_ap, notT_ap, notK_ap, yesT_ap, andV_ap, andVK_ap, orV_ap, orVK_ap, notV_ap, notVK_ap, ifF_ap, ifFK_ap, nilA_ap, consA_ap, consK_ap, consJ_ap, tupA_ap, lstA_ap, newO_ap, dicF_ap, callF_ap, un1_ap, methF_ap, nonO_ap, someO_ap, someK_ap, slF_ap, slK_ap, slJ_ap, itF_ap, itA_ap, nilS_ap, bkS_ap, ctS_ap, seqS_ap, seqK_nx, seqK_rt, seqK_bk, seqK_ct, dropS_ap, dropK_ap, retS_ap, retK_ap, retN_ap, ifS_ap, ifK_ap, setS_ap, setK_ap, asgS_ap, asgK_ap, asgJ_ap, nameG_ap, nilG_ap, consG_ap, consGK_ap, fnF_ap, fnK_nx, fnK_rt, forS_ap, forK_ap, negD_ap, addI_ap, varK_ap, startE, yes2, isN, List.map_cons, List.map_nil, List.length_cons, List.length_nil, List.replicate, List.append_nil, List.cons_append, List.nil_append, List.getElem?_cons_zero, List.getElem?_cons_succ, List.set_cons_zero, List.set_cons_succ, R.bind_ok, R.bind_ex, R.bind_bad, R.noex_ok, if_true, if_false, Bool.false_eq_true, Bool.true_eq_false, ite_true, ite_false, reduceIte, Nat.reduceAdd, Nat.reduceSub, Nat.zero_add, Nat.sub_self, Nat.sub_zero, decide_true, decide_false, Bool.not_true, Bool.not_false, subD_ap, ltD_ap, leD_ap, gtD_ap, geD_ap, mulD_ap, modD_ap, divD_ap, powD_ap, tupK_ok, lstK_ok, methK_ok, tupG_ok, eqS_t, eqS_f, neS_t, neS_f, eqI_ap, neI_ap, inT_nil, inT_hit, inT_miss, ne_eq, not_false_eq_true, f__law_two, b__law_two, jx0, jx1, jx2, jx3, jx4, ty, ne, tf, m3, e3, ap, due3, m8, maxD_ok, minD_ok, sz (by decide : 2 ≤ 100), sz (by decide : 4 ≤ 100), sz (by decide : 3 ≤ 100), sz (by decide : 5 ≤ 100)]
  · have h3 : w ∈ tri := by
      simp only [seven, four, tri, List.mem_cons, List.not_mem_nil, or_false] at *
      grind
    obtain ⟨m, hm⟩ : ∃ m : Nat, n % 13 = m := ⟨(n % 13).toNat, by omega⟩
    obtain ⟨T0, hT0⟩ : ∃ T, T = st ++ [VL.O.lst [.int qa, .int qb]] := ⟨_, rfl⟩
    obtain ⟨r1, p1, S1, sp1, l1, g1, hl1⟩ := spots_ok (n := n / 13 + 2 * (n % 2)) (x := x) (m := m) (st := T0) hx1 hx2 (by omega)
    obtain ⟨r2, p2, S2, sp2, l2, g2, hl2⟩ := spots_ok (n := n / 26 + 2 * (1 - n % 2)) (x := y) (m := m) (st := S1) hy1 hy2 (by omega)
    have l0 : Le st T0 := hT0 ▸ Le.app _ _
    have q0 : T0[st.length]? = some (.lst [.int qa, .int qb]) := hT0 ▸ get_last
    have q2 : S2[st.length]? = some (.lst [.int qa, .int qb]) := (l1.trans l2).get q0
    obtain ⟨S3, hS3⟩ : ∃ S, S = S2 ++ [VL.O.lst [.int (bey p1 x), .int (bey p2 y)]] := ⟨_, rfl⟩
    obtain ⟨S4, hS4⟩ : ∃ S, S = S3 ++ [VL.O.lst [.int qa, .int qb, .int (bey p1 x), .int (bey p2 y)]] := ⟨_, rfl⟩
    have l3 : Le S2 S3 := hS3 ▸ Le.app _ _
    have l4 : Le S3 S4 := hS4 ▸ Le.app _ _
    have ad : addD (.ref st.length) (.ref S2.length) S3 = .ok (.ref S3.length) S4 := by
      rw [hS4]
      exact addD_lst (l3.get q2) (hS3 ▸ get_last) (by rw [sizeLine_eq']; show 4 ≤ 16777216; decide)
    obtain ⟨ps, hps⟩ : ∃ ps, ps = p1.zip p2 := ⟨_, rfl⟩
    have hpl : ps.length = m := by rw [hps, List.length_zip, hl1, hl2, Nat.min_self]
    have pd : ((p1.map VL.D.int).zip (p2.map VL.D.int)).map pairD = ps.map prD := by
      rw [hps, List.zip_map, List.map_map]; rfl
    have f1 : ps.map (·.1) = p1 := by rw [hps]; exact List.map_fst_zip (by omega)
    have f2 : ps.map (·.2) = p2 := by rw [hps]; exact List.map_snd_zip (by omega)
    have L14 : Le S1 S4 := (l2.trans l3).trans l4
    have L24 : Le S2 S4 := l3.trans l4
    have lz : ∀ w' : Str, lzF (consA (varF 8) (consA (varF 10) nilA)) [some (.int n), some (.str w'), some (.tup [v, .int x, .int qa, .int g, .int dq]), some (.tup [u, .int y, .int qb, .int i, .int dr]), some (.int x), some (.ref S3.length), some (.int m), none, some (.ref r1), some (.int (bey p1 x)), some (.ref r2), some (.int (bey p2 y))] S4 = .ok (.ref S4.length) (S4 ++ [.lst (ps.map prD)]) := fun w' => by
      unfold lzF
      simp -implicitDefEqProofs +decide only [varF_ap, cF_ap, opF_ap, opK_ap, bF_ap, boolK_ap, andT_ap, andK_ap, orT_ap, orK_ap, notT_ap, notK_ap, yesT_ap, andV_ap, andVK_ap, orV_ap, orVK_ap, notV_ap, notVK_ap, ifF_ap, ifFK_ap, nilA_ap, consA_ap, consK_ap, consJ_ap, tupA_ap, lstA_ap, newO_ap, dicF_ap, callF_ap, un1_ap, methF_ap, nonO_ap, someO_ap, someK_ap, slF_ap, slK_ap, slJ_ap, itF_ap, itA_ap, nilS_ap, bkS_ap, ctS_ap, seqS_ap, seqK_nx, seqK_rt, seqK_bk, seqK_ct, dropS_ap, dropK_ap, retS_ap, retK_ap, retN_ap, ifS_ap, ifK_ap, setS_ap, setK_ap, asgS_ap, asgK_ap, asgJ_ap, nameG_ap, nilG_ap, consG_ap, consGK_ap, fnF_ap, fnK_nx, fnK_rt, forS_ap, forK_ap, negD_ap, addI_ap, varK_ap, startE, yes2, isN, List.map_cons, List.map_nil, List.length_cons, List.length_nil, List.replicate, List.append_nil, List.cons_append, List.nil_append, List.getElem?_cons_zero, List.getElem?_cons_succ, List.set_cons_zero, List.set_cons_succ, R.bind_ok, R.bind_ex, R.bind_bad, R.noex_ok, if_true, if_false, Bool.false_eq_true, Bool.true_eq_false, ite_true, ite_false, reduceIte, Nat.reduceAdd, Nat.reduceSub, Nat.zero_add, Nat.sub_self, Nat.sub_zero, decide_true, decide_false, Bool.not_true, Bool.not_false, subD_ap, ltD_ap, leD_ap, gtD_ap, geD_ap, mulD_ap, modD_ap, divD_ap, powD_ap, tupK_ok, lstK_ok, methK_ok, tupG_ok, eqS_t, eqS_f, neS_t, neS_f, eqI_ap, neI_ap, inT_nil, inT_hit, inT_miss, ne_eq, not_false_eq_true]
      simp only [L14.listAt (listAt_lst g1), L24.listAt (listAt_lst g2), pd]
      rw [if_pos (by rw [List.length_map, List.length_map, hl1, hl2, sizeLine_eq']; omega)]
    obtain ⟨S5, hS5⟩ : ∃ S, S = S4 ++ [VL.O.lst (ps.map prD)] := ⟨_, rfl⟩
    rw [← hS5] at lz
    have l5 : Le S4 S5 := hS5 ▸ Le.app _ _
    have tp : tupleD [.ref S4.length] S5 = .ok (.tup (ps.map prD)) S5 := tupleD_list (hS5 ▸ listAt_last)
    have q5 : S5[S3.length]? = some (.lst [.int qa, .int qb, .int (bey p1 x), .int (bey p2 y)]) := l5.get (hS4 ▸ get_last)
    have LL : Le st S5 := ((l0.trans l1).trans L14).trans l5
    have k := look_pairs (ps := ps) h3 hq1 hr1 h5 k5 (by omega)
    rw [f1, f2] at k
    have p3 : st ++ [VL.O.lst [.int qa, .int qb]] = T0 := hT0.symm
    have p4 : S2 ++ [VL.O.lst [.int (bey p1 x), .int (bey p2 y)]] = S3 := hS3.symm
    by_cases hn : w = "notin"
    · subst hn
      have du : f__law_first_due [.ref S3.length] S5 = .ok (.int (fd [qa, qb, bey p1 x, bey p2 y])) S5 := due_ok (qs := [qa, qb, bey p1 x, bey p2 y]) (listAt_lst q5)
      rw [if_pos rfl, if_pos rfl, fd4_end rfl] at k
      have mn : min x 12 = x := by omega
      have rg := fd5 (e := 0) hq2 hr2 (bey_le5 (ps := p1) (w := x)) (bey_le5 (ps := p2) (w := y)) (by decide)
      rw [fd4_end rfl] at rg
      refine ⟨x, _, 1 + max da db, .tup [.tup [.str "notin", v, u, .tup (ps.map prD)], .int (min x 12), .int (fd [qa, qb, bey p1 x, bey p2 y]), .int (24 + 8 * m + g + i), .int (1 + max dq dr)], S5, ?_, LL, _, _, _, by rw [mn], by omega, hx1, hx2, rg.1, rg.2, k⟩
      simp -implicitDefEqProofs +decide only [varF_ap, cF_ap, opF_ap, opK_ap, bF_ap, boolK_ap, andT_ap, andK_ap, orT_ap, orK_ap, notT_ap, notK_ap, yesT_ap, andV_ap, andVK_ap, orV_ap, orVK_ap, notV_ap, notVK_ap, ifF_ap, ifFK_ap, nilA_ap, consA_ap, consK_ap, consJ_ap, tupA_ap, lstA_ap, newO_ap, dicF_ap, callF_ap, un1_ap, methF_ap, nonO_ap, someO_ap, someK_ap, slF_ap, slK_ap, slJ_ap, itF_ap, itA_ap, nilS_ap, bkS_ap, ctS_ap, seqS_ap, seqK_nx, seqK_rt, seqK_bk, seqK_ct, dropS_ap, dropK_ap, retS_ap, retK_ap, retN_ap, ifS_ap, ifK_ap, setS_ap, setK_ap, asgS_ap, asgK_ap, asgJ_ap, nameG_ap, nilG_ap, consG_ap, consGK_ap, fnF_ap, fnK_nx, fnK_rt, forS_ap, forK_ap, negD_ap, addI_ap, varK_ap, startE, yes2, isN, List.map_cons, List.map_nil, List.length_cons, List.length_nil, List.replicate, List.append_nil, List.cons_append, List.nil_append, List.getElem?_cons_zero, List.getElem?_cons_succ, List.set_cons_zero, List.set_cons_succ, R.bind_ok, R.bind_ex, R.bind_bad, R.noex_ok, if_true, if_false, Bool.false_eq_true, Bool.true_eq_false, ite_true, ite_false, reduceIte, Nat.reduceAdd, Nat.reduceSub, Nat.zero_add, Nat.sub_self, Nat.sub_zero, decide_true, decide_false, Bool.not_true, Bool.not_false, subD_ap, ltD_ap, leD_ap, gtD_ap, geD_ap, mulD_ap, modD_ap, divD_ap, powD_ap, tupK_ok, lstK_ok, methK_ok, tupG_ok, eqS_t, eqS_f, neS_t, neS_f, eqI_ap, neI_ap, inT_nil, inT_hit, inT_miss, ne_eq, not_false_eq_true, f__law_two, b__law_two, jx0, jx1, jx2, jx3, jx4, p3, hm, v13, v26, m2, sp1, sp2, p4, ad, lz, tp, du, m8, maxD_ok, minD_ok, sz (by decide : 2 ≤ 100), sz (by decide : 4 ≤ 100), sz (by decide : 5 ≤ 100)]
    · have ap : appD (.ref S3.length) [.int (wd (x + y))] S5 = .ok .non (S5.set S3.length (.lst [.int qa, .int qb, .int (bey p1 x), .int (bey p2 y), .int (wd (x + y))])) := by
        rw [appD_ok q5 (by rw [sizeLine_eq']; show 4 < 16777216; decide)]; rfl
      have ty : tyD "list" (VL.D.ref S3.length) S5 := tyD_list (listAt_lst q5)
      obtain ⟨S6, hS6⟩ : ∃ S, S = S5.set S3.length (VL.O.lst [.int qa, .int qb, .int (bey p1 x), .int (bey p2 y), .int (wd (x + y))]) := ⟨_, rfl⟩
      rw [← hS6] at ap
      have q6 : S6[S3.length]? = some (.lst [.int qa, .int qb, .int (bey p1 x), .int (bey p2 y), .int (wd (x + y))]) := by
        rw [hS6, List.getElem?_set_self (List.getElem?_eq_some_iff.mp q5).1]
      have du : f__law_first_due [.ref S3.length] S6 = .ok (.int (fd [qa, qb, bey p1 x, bey p2 y, wd (x + y)])) S6 := due_ok (qs := [qa, qb, bey p1 x, bey p2 y, wd (x + y)]) (listAt_lst q6)
      have LS3 : Le st S3 := ((l0.trans l1).trans l2).trans l3
      have L6 : Le st S6 := hS6 ▸ LL.set LS3.len
      rw [if_neg hn, if_neg hn] at k
      have rg := fd1_wd (w := x + y) hq2 hr2 (bey_le5 (ps := p1) (w := x)) (bey_le5 (ps := p2) (w := y))
      have nn : neD (.str w) (.str "notin") S5 = .ok (.bl true) S5 := neS_f hn
      refine ⟨min (x + y) 12, _, 1 + max da db, .tup [.tup [.str w, v, u, .tup (ps.map prD)], .int (min (x + y) 12), .int (fd [qa, qb, bey p1 x, bey p2 y, wd (x + y)]), .int (24 + 8 * m + g + i), .int (1 + max dq dr)], S6, ?_, L6, _, _, _, rfl, by omega, (min12 (by omega)).1, (min12 (by omega)).2, rg.1, rg.2, k.any fun h => by have := fd4_wd h; omega⟩
      simp only [tri, List.mem_cons, List.not_mem_nil, or_false] at h3
      rcases h3 with rfl | rfl | rfl
      · simp -implicitDefEqProofs +decide only [varF_ap, cF_ap, opF_ap, opK_ap, bF_ap, boolK_ap, andT_ap, andK_ap, orT_ap, orK_ap, notT_ap, notK_ap, yesT_ap, andV_ap, andVK_ap, orV_ap, orVK_ap, notV_ap, notVK_ap, ifF_ap, ifFK_ap, nilA_ap, consA_ap, consK_ap, consJ_ap, tupA_ap, lstA_ap, newO_ap, dicF_ap, callF_ap, un1_ap, methF_ap, nonO_ap, someO_ap, someK_ap, slF_ap, slK_ap, slJ_ap, itF_ap, itA_ap, nilS_ap, bkS_ap, ctS_ap, seqS_ap, seqK_nx, seqK_rt, seqK_bk, seqK_ct, dropS_ap, dropK_ap, retS_ap, retK_ap, retN_ap, ifS_ap, ifK_ap, setS_ap, setK_ap, asgS_ap, asgK_ap, asgJ_ap, nameG_ap, nilG_ap, consG_ap, consGK_ap, fnF_ap, fnK_nx, fnK_rt, forS_ap, forK_ap, negD_ap, addI_ap, varK_ap, startE, yes2, isN, List.map_cons, List.map_nil, List.length_cons, List.length_nil, List.replicate, List.append_nil, List.cons_append, List.nil_append, List.getElem?_cons_zero, List.getElem?_cons_succ, List.set_cons_zero, List.set_cons_succ, R.bind_ok, R.bind_ex, R.bind_bad, R.noex_ok, if_true, if_false, Bool.false_eq_true, Bool.true_eq_false, ite_true, ite_false, reduceIte, Nat.reduceAdd, Nat.reduceSub, Nat.zero_add, Nat.sub_self, Nat.sub_zero, decide_true, decide_false, Bool.not_true, Bool.not_false, subD_ap, ltD_ap, leD_ap, gtD_ap, geD_ap, mulD_ap, modD_ap, divD_ap, powD_ap, tupK_ok, lstK_ok, methK_ok, tupG_ok, eqS_t, eqS_f, neS_t, neS_f, eqI_ap, neI_ap, inT_nil, inT_hit, inT_miss, ne_eq, not_false_eq_true, f__law_two, b__law_two, jx0, jx1, jx2, jx3, jx4, p3, hm, v13, v26, m2, sp1, sp2, p4, ad, lz, tp, beyond_ok, ty, ap, du, m8, maxD_ok, minD_ok, sz (by decide : 2 ≤ 100), sz (by decide : 4 ≤ 100), sz (by decide : 5 ≤ 100)]
      · simp -implicitDefEqProofs +decide only [varF_ap, cF_ap, opF_ap, opK_ap, bF_ap, boolK_ap, andT_ap, andK_ap, orT_ap, orK_ap, notT_ap, notK_ap, yesT_ap, andV_ap, andVK_ap, orV_ap, orVK_ap, notV_ap, notVK_ap, ifF_ap, ifFK_ap, nilA_ap, consA_ap, consK_ap, consJ_ap, tupA_ap, lstA_ap, newO_ap, dicF_ap, callF_ap, un1_ap, methF_ap, nonO_ap, someO_ap, someK_ap, slF_ap, slK_ap, slJ_ap, itF_ap, itA_ap, nilS_ap, bkS_ap, ctS_ap, seqS_ap, seqK_nx, seqK_rt, seqK_bk, seqK_ct, dropS_ap, dropK_ap, retS_ap, retK_ap, retN_ap, ifS_ap, ifK_ap, setS_ap, setK_ap, asgS_ap, asgK_ap, asgJ_ap, nameG_ap, nilG_ap, consG_ap, consGK_ap, fnF_ap, fnK_nx, fnK_rt, forS_ap, forK_ap, negD_ap, addI_ap, varK_ap, startE, yes2, isN, List.map_cons, List.map_nil, List.length_cons, List.length_nil, List.replicate, List.append_nil, List.cons_append, List.nil_append, List.getElem?_cons_zero, List.getElem?_cons_succ, List.set_cons_zero, List.set_cons_succ, R.bind_ok, R.bind_ex, R.bind_bad, R.noex_ok, if_true, if_false, Bool.false_eq_true, Bool.true_eq_false, ite_true, ite_false, reduceIte, Nat.reduceAdd, Nat.reduceSub, Nat.zero_add, Nat.sub_self, Nat.sub_zero, decide_true, decide_false, Bool.not_true, Bool.not_false, subD_ap, ltD_ap, leD_ap, gtD_ap, geD_ap, mulD_ap, modD_ap, divD_ap, powD_ap, tupK_ok, lstK_ok, methK_ok, tupG_ok, eqS_t, eqS_f, neS_t, neS_f, eqI_ap, neI_ap, inT_nil, inT_hit, inT_miss, ne_eq, not_false_eq_true, f__law_two, b__law_two, jx0, jx1, jx2, jx3, jx4, p3, hm, v13, v26, m2, sp1, sp2, p4, ad, lz, tp, beyond_ok, ty, ap, du, m8, maxD_ok, minD_ok, sz (by decide : 2 ≤ 100), sz (by decide : 4 ≤ 100), sz (by decide : 5 ≤ 100)]
      · exact absurd rfl hn
end
end Law

namespace Law
open PySem L2 VL
section
variable {P P' : List (VL.D × VL.D) → Prop} {a b e : VL.D} {x y qa qb : Int} {da db : Nat}
theorem t3_eq {x z : Int} : (3 : Int) * (if (!decide (x = z)) = true then 1 else 0) = if x ≠ z then 3 else 0 := by
  by_cases h : x = z
  · rw [decide_eq_true h]
    show (3 : Int) * 0 = if x ≠ z then 3 else 0
    rw [if_neg (fun k => k h)]; rfl
  · rw [decide_eq_false h]
    show (3 : Int) * 1 = if x ≠ z then 3 else 0
    rw [if_pos h]; rfl
theorem rounds_ok {n : Int} {nm kn : Str} {st : Sto} (ha : En P x qa da a) (hb : En P y qb db b)
    (h1 : ∀ W, keysOk W = true → P' W → P W) (h2 : ∀ W, P' W → dget W (.str nm) = none) (h3 : ∀ W, keysOk W = true → P' W → P (W ++ [(.str nm, .int x)])) (h4 : ∀ W, P' W → ∃ z, dget W (.str kn) = some z) :
    ∃ q dz e S, f__law_rounds [.int n, a, b, .str nm, .str kn] st = .ok e S ∧ Le st S ∧ En P' x q dz e := by
  have hb' := hb
  obtain ⟨v, g, dq, rfl, hdq, hx1, hx2, hq1, hq2, h5⟩ := ha
  obtain ⟨u, i, dr, rfl, hdr, hy1, hy2, hr1, hr2, k5⟩ := hb
  obtain ⟨Q, hQ⟩ : ∃ Q : List (VL.D × VL.D) → Prop, Q = fun W => P W ∧ dget W (.str nm) = some (.int x) := ⟨_, rfl⟩
  have hL : LookR Q (.tup [.str "name", .str nm]) x 0 0 := look_name.mono fun W _ h => by rw [hQ] at h; exact h.2
  have hN : LookR P' (.tup [.str "name", .str nm]) x 1 0 := look_noname.mono fun W _ h => h2 W h
  have hnow : LookR P' v x qa da := h5.mono h1
  have hkept : LookR Q u y qb db := k5.mono fun W _ h => by rw [hQ] at h; exact h.1
  have hPQ : ∀ W, keysOk W = true → P' W → Q (W ++ [(.str nm, .int x)]) := fun W hW h => by
    rw [hQ]; exact ⟨h3 W hW h, dget_snoc_eq (h2 W h)⟩
  have m3 : ∀ y, VL.MulOk 3 y := mul_l (by decide)
  have v28 : (28 : Int).natAbs.log2 < 9000 := by decide +kernel
  have v8 : (8 : Int).natAbs.log2 < 9000 := by decide +kernel
  obtain ⟨many, hmany⟩ : ∃ m, m = 1 + n / 28 % 6 := ⟨_, rfl⟩
  have fdr : ∀ {q0 q1 q2 t : Int}, q0 ≤ 5 → q1 ≤ 5 → q2 ≤ 5 → t ≤ 5 → 0 ≤ fd [q0, q1, q2, t] ∧ fd [q0, q1, q2, t] ≤ 5 := fun {q0 q1 q2 t} a b c d => fd_range fun q hq => by
    simp only [List.mem_cons, List.not_mem_nil, or_false] at hq
    rcases hq with rfl | rfl | rfl | rfl <;> assumption
  have look : ∀ (k : Int) (u t : VL.D) (z q1 q2 : Int) (d1 d2 : Nat), LookR P' u x q1 d1 → 0 ≤ q1 → LookR Q t z q2 d2 → 0 ≤ q2 → LookR P' (.tup [.str "rounds", .str nm, .int k, u, t]) x (fd [0, q1, q2, 3 * (if (!decide (x = z)) = true then 1 else 0)]) (1 + max d1 d2) := fun k u t z q1 q2 d1 d2 hu n1 ht n2 => by
    rw [t3_eq, fd_0]
    exact look_rounds n1 n2 hu ht h2 hPQ
  have fin : ∀ (u t : VL.D) (z q1 q2 g' dd : Int) (d1 d2 : Nat), LookR P' u x q1 d1 → 0 ≤ q1 → q1 ≤ 5 → LookR Q t z q2 d2 → 0 ≤ q2 → q2 ≤ 5 → dd = ((1 + max d1 d2 : Nat) : Int) →
      En P' x (fd [0, q1, q2, 3 * (if (!decide (x = z)) = true then 1 else 0)]) (1 + max d1 d2) (.tup [.tup [.str "rounds", .str nm, .int many, u, t], .int x, .int (fd [0, q1, q2, 3 * (if (!decide (x = z)) = true then 1 else 0)]), .int g', .int dd]) := fun u t z q1 q2 g' dd d1 d2 hu n1 n1' ht n2 n2' hd =>
    ⟨_, _, _, rfl, hd, hx1, hx2, (fdr (by decide) n1' n2' (by rw [t3_eq]; exact t3_le)).1, (fdr (by decide) n1' n2' (by rw [t3_eq]; exact t3_le)).2, look many u t z q1 q2 d1 d2 hu n1 ht n2⟩
  have two : ∀ S0 : Sto, ∃ z q2 d2 t g2 dz S2 w, (∀ S : Sto, ixD (.ref S.length) (.int (n / 8 % 4)) (S ++ [.lst [.str "less", .str "pour", .str "notin", .str "join"]]) = .ok (.str w) (S ++ [.lst [.str "less", .str "pour", .str "notin", .str "join"]])) ∧ f__law_two [.int (n / 8), .str w, .tup [.tup [.str "name", .str nm], .int x, .int 0, .int 9, .int 0], .tup [u, .int y, .int qb, .int i, .int dr]] S0 = .ok (.tup [t, .int z, .int q2, .int g2, .int dz]) S2 ∧ Le S0 S2 ∧ dz = ((d2 : Nat) : Int) ∧ 0 ≤ q2 ∧ q2 ≤ 5 ∧ LookR Q t z q2 d2 := fun S0 => by
    obtain ⟨k, hk⟩ : ∃ k : Nat, n / 8 % 4 = k := ⟨(n / 8 % 4).toNat, by omega⟩
    obtain ⟨w, hw⟩ : ∃ w, (["less", "pour", "notin", "join"] : List Str)[k]? = some w := ⟨_, List.getElem?_eq_getElem (by show k < 4; omega)⟩
    have wm : w ∈ seven := by
      have := List.mem_of_getElem? hw
      simp only [seven, List.mem_cons, List.not_mem_nil, or_false] at *
      grind
    have eL : En Q x 0 0 (.tup [.tup [.str "name", .str nm], .int x, .int 0, .int 9, .int 0]) := ⟨_, _, _, rfl, rfl, hx1, hx2, by decide, by decide, hL⟩
    obtain ⟨z, q2, d2, e, S2, t1, l2, t, g2, dz, rfl, hdz, _, _, n1, n2, ht⟩ := two_ok (n := n / 8) (st := S0) wm eL (hb'.mono (Q := Q) fun W _ h => by rw [hQ] at h; exact h.1)
    exact ⟨z, q2, d2, t, g2, dz, S2, w, fun S => ixL hk (by
      show ((["less", "pour", "notin", "join"] : List Str).map VL.D.str)[k]? = _
      rw [List.getElem?_map, hw]; rfl), t1, l2, hdz, n1, n2, ht⟩
  have hc : n % 9 = 0 ∨ n % 9 = 1 ∨ n % 9 = 2 ∨ n % 9 = 3 ∨ n % 9 = 4 ∨ n % 9 = 5 ∨ n % 9 = 6 ∨ n % 9 = 7 ∨ n % 9 = 8 := by omega
  rcases hc with c | c | c | c | c | c | c | c | c
  · refine ⟨_, _, _, st ++ [.lst [.int 0, .int qa, .int 0, .int (3 * (if (!decide (x = x)) = true then 1 else 0))]], ?_, Le.app _ _, fin v (.tup [.str "name", .str nm]) x qa 0 (24 + g + 9) (1 + max dq 0) da 0 hnow hq1 hq2 hL (by decide) (by decide) (by omega)⟩
    simp -implicitDefEqProofs +decide only [varF_ap, cF_ap, opF_ap, opK_ap, bF_ap, boolK_ap, andT_ap, andK_ap, orT_ap, orK_ap, notT_ap, notK_ap, yesT_ap, andV_ap, andVK_ap, orV_ap, orVK_ap, notV_ap, notVK_ap, ifF_ap, ifFK_ap, nilA_ap, consA_ap, consK_ap, consJ_ap, tupA_ap, lstA_ap, newO_ap, dicF_ap, callF_ap, un1_ap, methF_ap, nonO_ap, someO_ap, someK_ap, slF_ap, slK_ap, slJ_ap, itF_ap, itA_ap, nilS_ap, bkS_ap, ctS_ap, seqS_ap, seqK_nx, seqK_rt, seqK_bk, seqK_ct, dropS_ap, dropK_ap, retS_ap, retK_ap, retN_ap, ifS_ap, ifK_ap, setS_ap, setK_ap, asgS_ap, asgK_ap, asgJ_ap, nameG_ap, nilG_ap, consG_ap, consGK_ap, fnF_ap, fnK_nx, fnK_rt, forS_ap, forK_ap, negD_ap, addI_ap, varK_ap, startE, yes2, isN, List.map_cons, List.map_nil, List.length_cons, List.length_nil, List.replicate, List.append_nil, List.cons_append, List.nil_append, List.getElem?_cons_zero, List.getElem?_cons_succ, List.set_cons_zero, List.set_cons_succ, R.bind_ok, R.bind_ex, R.bind_bad, R.noex_ok, if_true, if_false, Bool.false_eq_true, Bool.true_eq_false, ite_true, ite_false, reduceIte, Nat.reduceAdd, Nat.reduceSub, Nat.zero_add, Nat.sub_self, Nat.sub_zero, decide_true, decide_false, Bool.not_true, Bool.not_false, subD_ap, ltD_ap, leD_ap, gtD_ap, geD_ap, mulD_ap, modD_ap, divD_ap, powD_ap, tupK_ok, lstK_ok, methK_ok, tupG_ok, eqS_t, eqS_f, neS_t, neS_f, eqI_ap, neI_ap, inT_nil, inT_hit, inT_miss, ne_eq, not_false_eq_true, f__law_rounds, b__law_rounds, jx0, jx1, jx2, jx3, jx4, c, chainF, chainK, v28, ← hmany, tf, m3, due4, maxD_ok, sz (by decide : 2 ≤ 100), sz (by decide : 4 ≤ 100), sz (by decide : 5 ≤ 100)]
  · have e5 : ∀ t : Int, fd [5, qa, 0, t] = 5 := fun t => rfl
    refine ⟨5, 1 + max da 0, .tup [.tup [.str "rounds", .str kn, .int many, v, .tup [.str "name", .str nm]], .int x, .int (fd [5, qa, 0, 3 * (if (!decide (x = x)) = true then 1 else 0)]), .int (24 + g + 9), .int (1 + max dq 0)], st ++ [.lst [.int 5, .int qa, .int 0, .int (3 * (if (!decide (x = x)) = true then 1 else 0))]], ?_, Le.app _ _, _, _, _, by rw [e5], by omega, hx1, hx2, by decide, by decide, (look_known.mono fun W _ h => h4 W h).up (by omega)⟩
    simp -implicitDefEqProofs +decide only [varF_ap, cF_ap, opF_ap, opK_ap, bF_ap, boolK_ap, andT_ap, andK_ap, orT_ap, orK_ap, notT_ap, notK_ap, yesT_ap, andV_ap, andVK_ap, orV_ap, orVK_ap, notV_ap, notVK_ap, ifF_ap, ifFK_ap, nilA_ap, consA_ap, consK_ap, consJ_ap, tupA_ap, lstA_ap, newO_ap, dicF_ap, callF_ap, un1_ap, methF_ap, nonO_ap, someO_ap, someK_ap, slF_ap, slK_ap, slJ_ap, itF_ap, itA_ap, nilS_ap, bkS_ap, ctS_ap, seqS_ap, seqK_nx, seqK_rt, seqK_bk, seqK_ct, dropS_ap, dropK_ap, retS_ap, retK_ap, retN_ap, ifS_ap, ifK_ap, setS_ap, setK_ap, asgS_ap, asgK_ap, asgJ_ap, nameG_ap, nilG_ap, consG_ap, consGK_ap, fnF_ap, fnK_nx, fnK_rt, forS_ap, forK_ap, negD_ap, addI_ap, varK_ap, startE, yes2, isN, List.map_cons, List.map_nil, List.length_cons, List.length_nil, List.replicate, List.append_nil, List.cons_append, List.nil_append, List.getElem?_cons_zero, List.getElem?_cons_succ, List.set_cons_zero, List.set_cons_succ, R.bind_ok, R.bind_ex, R.bind_bad, R.noex_ok, if_true, if_false, Bool.false_eq_true, Bool.true_eq_false, ite_true, ite_false, reduceIte, Nat.reduceAdd, Nat.reduceSub, Nat.zero_add, Nat.sub_self, Nat.sub_zero, decide_true, decide_false, Bool.not_true, Bool.not_false, subD_ap, ltD_ap, leD_ap, gtD_ap, geD_ap, mulD_ap, modD_ap, divD_ap, powD_ap, tupK_ok, lstK_ok, methK_ok, tupG_ok, eqS_t, eqS_f, neS_t, neS_f, eqI_ap, neI_ap, inT_nil, inT_hit, inT_miss, ne_eq, not_false_eq_true, f__law_rounds, b__law_rounds, jx0, jx1, jx2, jx3, jx4, c, chainF, chainK, v28, ← hmany, tf, m3, due4, maxD_ok, sz (by decide : 2 ≤ 100), sz (by decide : 4 ≤ 100), sz (by decide : 5 ≤ 100)]
  · refine ⟨_, _, _, st ++ [.lst [.int 0, .int 1, .int 0, .int (3 * (if (!decide (x = x)) = true then 1 else 0))]], ?_, Le.app _ _, fin (.tup [.str "name", .str nm]) (.tup [.str "name", .str nm]) x 1 0 (24 + 9 + 9) (1 + max 0 0) 0 0 hN (by decide) (by decide) hL (by decide) (by decide) (by decide)⟩
    simp -implicitDefEqProofs +decide only [varF_ap, cF_ap, opF_ap, opK_ap, bF_ap, boolK_ap, andT_ap, andK_ap, orT_ap, orK_ap, notT_ap, notK_ap, yesT_ap, andV_ap, andVK_ap, orV_ap, orVK_ap, notV_ap, notVK_ap, ifF_ap, ifFK_ap, nilA_ap, consA_ap, consK_ap, consJ_ap, tupA_ap, lstA_ap, newO_ap, dicF_ap, callF_ap, un1_ap, methF_ap, nonO_ap, someO_ap, someK_ap, slF_ap, slK_ap, slJ_ap, itF_ap, itA_ap, nilS_ap, bkS_ap, ctS_ap, seqS_ap, seqK_nx, seqK_rt, seqK_bk, seqK_ct, dropS_ap, dropK_ap, retS_ap, retK_ap, retN_ap, ifS_ap, ifK_ap, setS_ap, setK_ap, asgS_ap, asgK_ap, asgJ_ap, nameG_ap, nilG_ap, consG_ap, consGK_ap, fnF_ap, fnK_nx, fnK_rt, forS_ap, forK_ap, negD_ap, addI_ap, varK_ap, startE, yes2, isN, List.map_cons, List.map_nil, List.length_cons, List.length_nil, List.replicate, List.append_nil, List.cons_append, List.nil_append, List.getElem?_cons_zero, List.getElem?_cons_succ, List.set_cons_zero, List.set_cons_succ, R.bind_ok, R.bind_ex, R.bind_bad, R.noex_ok, if_true, if_false, Bool.false_eq_true, Bool.true_eq_false, ite_true, ite_false, reduceIte, Nat.reduceAdd, Nat.reduceSub, Nat.zero_add, Nat.sub_self, Nat.sub_zero, decide_true, decide_false, Bool.not_true, Bool.not_false, subD_ap, ltD_ap, leD_ap, gtD_ap, geD_ap, mulD_ap, modD_ap, divD_ap, powD_ap, tupK_ok, lstK_ok, methK_ok, tupG_ok, eqS_t, eqS_f, neS_t, neS_f, eqI_ap, neI_ap, inT_nil, inT_hit, inT_miss, ne_eq, not_false_eq_true, f__law_rounds, b__law_rounds, jx0, jx1, jx2, jx3, jx4, c, chainF, chainK, v28, ← hmany, tf, m3, due4, maxD_ok, sz (by decide : 2 ≤ 100), sz (by decide : 4 ≤ 100), sz (by decide : 5 ≤ 100)]
  · refine ⟨_, _, _, st ++ [.lst [.int 0, .int qa, .int qb, .int (3 * (if (!decide (x = y)) = true then 1 else 0))]], ?_, Le.app _ _, fin v u y qa qb (24 + g + i) (1 + max dq dr) da db hnow hq1 hq2 hkept hr1 hr2 (by omega)⟩
    simp -implicitDefEqProofs +decide only [varF_ap, cF_ap, opF_ap, opK_ap, bF_ap, boolK_ap, andT_ap, andK_ap, orT_ap, orK_ap, notT_ap, notK_ap, yesT_ap, andV_ap, andVK_ap, orV_ap, orVK_ap, notV_ap, notVK_ap, ifF_ap, ifFK_ap, nilA_ap, consA_ap, consK_ap, consJ_ap, tupA_ap, lstA_ap, newO_ap, dicF_ap, callF_ap, un1_ap, methF_ap, nonO_ap, someO_ap, someK_ap, slF_ap, slK_ap, slJ_ap, itF_ap, itA_ap, nilS_ap, bkS_ap, ctS_ap, seqS_ap, seqK_nx, seqK_rt, seqK_bk, seqK_ct, dropS_ap, dropK_ap, retS_ap, retK_ap, retN_ap, ifS_ap, ifK_ap, setS_ap, setK_ap, asgS_ap, asgK_ap, asgJ_ap, nameG_ap, nilG_ap, consG_ap, consGK_ap, fnF_ap, fnK_nx, fnK_rt, forS_ap, forK_ap, negD_ap, addI_ap, varK_ap, startE, yes2, isN, List.map_cons, List.map_nil, List.length_cons, List.length_nil, List.replicate, List.append_nil, List.cons_append, List.nil_append, List.getElem?_cons_zero, List.getElem?_cons_succ, List.set_cons_zero, List.set_cons_succ, R.bind_ok, R.bind_ex, R.bind_bad, R.noex_ok, if_true, if_false, Bool.false_eq_true, Bool.true_eq_false, ite_true, ite_false, reduceIte, Nat.reduceAdd, Nat.reduceSub, Nat.zero_add, Nat.sub_self, Nat.sub_zero, decide_true, decide_false, Bool.not_true, Bool.not_false, subD_ap, ltD_ap, leD_ap, gtD_ap, geD_ap, mulD_ap, modD_ap, divD_ap, powD_ap, tupK_ok, lstK_ok, methK_ok, tupG_ok, eqS_t, eqS_f, neS_t, neS_f, eqI_ap, neI_ap, inT_nil, inT_hit, inT_miss, ne_eq, not_false_eq_true, f__law_rounds, b__law_rounds, jx0, jx1, jx2, jx3, jx4, c, chainF, chainK, v28, ← hmany, tf, m3, due4, maxD_ok, sz (by decide : 2 ≤ 100), sz (by decide : 4 ≤ 100), sz (by decide : 5 ≤ 100)]
  · have h5' : LookR Q (.tup [.str "rounds", .str nm, .int 2, .tup [.str "name", .str nm], .tup [.str "name", .str nm]]) x 5 1 := look_known.mono fun W _ h => by rw [hQ] at h; exact ⟨_, h.2⟩
    refine ⟨_, _, _, st ++ [.lst [.int 0, .int qa, .int 5, .int (3 * (if (!decide (x = x)) = true then 1 else 0))]], ?_, Le.app _ _, fin v (.tup [.str "rounds", .str nm, .int 2, .tup [.str "name", .str nm], .tup [.str "name", .str nm]]) x qa 5 (24 + g + 42) (1 + max dq 1) da 1 hnow hq1 hq2 h5' (by decide) (by decide) (by omega)⟩
    simp -implicitDefEqProofs +decide only [varF_ap, cF_ap, opF_ap, opK_ap, bF_ap, boolK_ap, andT_ap, andK_ap, orT_ap, orK_ap, notT_ap, notK_ap, yesT_ap, andV_ap, andVK_ap, orV_ap, orVK_ap, notV_ap, notVK_ap, ifF_ap, ifFK_ap, nilA_ap, consA_ap, consK_ap, consJ_ap, tupA_ap, lstA_ap, newO_ap, dicF_ap, callF_ap, un1_ap, methF_ap, nonO_ap, someO_ap, someK_ap, slF_ap, slK_ap, slJ_ap, itF_ap, itA_ap, nilS_ap, bkS_ap, ctS_ap, seqS_ap, seqK_nx, seqK_rt, seqK_bk, seqK_ct, dropS_ap, dropK_ap, retS_ap, retK_ap, retN_ap, ifS_ap, ifK_ap, setS_ap, setK_ap, asgS_ap, asgK_ap, asgJ_ap, nameG_ap, nilG_ap, consG_ap, consGK_ap, fnF_ap, fnK_nx, fnK_rt, forS_ap, forK_ap, negD_ap, addI_ap, varK_ap, startE, yes2, isN, List.map_cons, List.map_nil, List.length_cons, List.length_nil, List.replicate, List.append_nil, List.cons_append, List.nil_append, List.getElem?_cons_zero, List.getElem?_cons_succ, List.set_cons_zero, List.set_cons_succ, R.bind_ok, R.bind_ex, R.bind_bad, R.noex_ok, if_true, if_false, Bool.false_eq_true, Bool.true_eq_false, ite_true, ite_false, reduceIte, Nat.reduceAdd, Nat.reduceSub, Nat.zero_add, Nat.sub_self, Nat.sub_zero, decide_true, decide_false, Bool.not_true, Bool.not_false, subD_ap, ltD_ap, leD_ap, gtD_ap, geD_ap, mulD_ap, modD_ap, divD_ap, powD_ap, tupK_ok, lstK_ok, methK_ok, tupG_ok, eqS_t, eqS_f, neS_t, neS_f, eqI_ap, neI_ap, inT_nil, inT_hit, inT_miss, ne_eq, not_false_eq_true, f__law_rounds, b__law_rounds, jx0, jx1, jx2, jx3, jx4, c, chainF, chainK, v28, ← hmany, tf, m3, due4, maxD_ok, sz (by decide : 2 ≤ 100), sz (by decide : 4 ≤ 100), sz (by decide : 5 ≤ 100)]
  · obtain ⟨z, q2, d2, t, g2, dz, S2, w, ixw, t1, l2, hdz, n1, n2, ht⟩ := two (st ++ [.lst [.str "less", .str "pour", .str "notin", .str "join"]])
    refine ⟨_, _, _, S2 ++ [.lst [.int 0, .int qa, .int q2, .int (3 * (if (!decide (x = z)) = true then 1 else 0))]], ?_, ((Le.app _ _).trans l2).trans (Le.app _ _), fin v t z qa q2 (24 + g + g2) (1 + max dq dz) da d2 hnow hq1 hq2 ht n1 n2 (by omega)⟩
    simp -implicitDefEqProofs +decide only [varF_ap, cF_ap, opF_ap, opK_ap, bF_ap, boolK_ap, andT_ap, andK_ap, orT_ap, orK_ap, notT_ap, notK_ap, yesT_ap, andV_ap, andVK_ap, orV_ap, orVK_ap, notV_ap, notVK_ap, ifF_ap, ifFK_ap, nilA_ap, consA_ap, consK_ap, consJ_ap, tupA_ap, lstA_ap, newO_ap, dicF_ap, callF_ap, un1_ap, methF_ap, nonO_ap, someO_ap, someK_ap, slF_ap, slK_ap, slJ_ap, itF_ap, itA_ap, nilS_ap, bkS_ap, ctS_ap, seqS_ap, seqK_nx, seqK_rt, seqK_bk, seqK_ct, dropS_ap, dropK_ap, retS_ap, retK_ap, retN_ap, ifS_ap, ifK_ap, setS_ap, setK_ap, asgS_ap, asgK_ap, asgJ_ap, nameG_ap, nilG_ap, consG_ap, consGK_ap, fnF_ap, fnK_nx, fnK_rt, forS_ap, forK_ap, negD_ap, addI_ap, varK_ap, startE, yes2, isN, List.map_cons, List.map_nil, List.length_cons, List.length_nil, List.replicate, List.append_nil, List.cons_append, List.nil_append, List.getElem?_cons_zero, List.getElem?_cons_succ, List.set_cons_zero, List.set_cons_succ, R.bind_ok, R.bind_ex, R.bind_bad, R.noex_ok, if_true, if_false, Bool.false_eq_true, Bool.true_eq_false, ite_true, ite_false, reduceIte, Nat.reduceAdd, Nat.reduceSub, Nat.zero_add, Nat.sub_self, Nat.sub_zero, decide_true, decide_false, Bool.not_true, Bool.not_false, subD_ap, ltD_ap, leD_ap, gtD_ap, geD_ap, mulD_ap, modD_ap, divD_ap, powD_ap, tupK_ok, lstK_ok, methK_ok, tupG_ok, eqS_t, eqS_f, neS_t, neS_f, eqI_ap, neI_ap, inT_nil, inT_hit, inT_miss, ne_eq, not_false_eq_true, f__law_rounds, b__law_rounds, jx0, jx1, jx2, jx3, jx4, c, chainF, chainK, v28, v8, ixw, t1, ← hmany, tf, m3, due4, maxD_ok, sz (by decide : 2 ≤ 100), sz (by decide : 4 ≤ 100), sz (by decide : 5 ≤ 100)]
  · obtain ⟨z, q2, d2, t, g2, dz, S2, w, ixw, t1, l2, hdz, n1, n2, ht⟩ := two (st ++ [.lst [.str "less", .str "pour", .str "notin", .str "join"]])
    refine ⟨_, _, _, S2 ++ [.lst [.int 0, .int qa, .int q2, .int (3 * (if (!decide (x = z)) = true then 1 else 0))]], ?_, ((Le.app _ _).trans l2).trans (Le.app _ _), fin v t z qa q2 (24 + g + g2) (1 + max dq dz) da d2 hnow hq1 hq2 ht n1 n2 (by omega)⟩
    simp -implicitDefEqProofs +decide only [varF_ap, cF_ap, opF_ap, opK_ap, bF_ap, boolK_ap, andT_ap, andK_ap, orT_ap, orK_ap, notT_ap, notK_ap, yesT_ap, andV_ap, andVK_ap, orV_ap, orVK_ap, notV_ap, notVK_ap, ifF_ap, ifFK_ap, nilA_ap, consA_ap, consK_ap, consJ_ap, tupA_ap, lstA_ap, newO_ap, dicF_ap, callF_ap, un1_ap, methF_ap, nonO_ap, someO_ap, someK_ap, slF_ap, slK_ap, slJ_ap, itF_ap, itA_ap, nilS_ap, bkS_ap, ctS_ap, seqS_ap, seqK_nx, seqK_rt, seqK_bk, seqK_ct, dropS_ap, dropK_ap, retS_ap, retK_ap, retN_ap, ifS_ap, ifK_ap, setS_ap, setK_ap, asgS_ap, asgK_ap, asgJ_ap, nameG_ap, nilG_ap, consG_ap, consGK_ap, fnF_ap, fnK_nx, fnK_rt, forS_ap, forK_ap, negD_ap, addI_ap, varK_ap, startE, yes2, isN, List.map_cons, List.map_nil, List.length_cons, List.length_nil, List.replicate, List.append_nil, List.cons_append, List.nil_append, List.getElem?_cons_zero, List.getElem?_cons_succ, List.set_cons_zero, List.set_cons_succ, R.bind_ok, R.bind_ex, R.bind_bad, R.noex_ok, if_true, if_false, Bool.false_eq_true, Bool.true_eq_false, ite_true, ite_false, reduceIte, Nat.reduceAdd, Nat.reduceSub, Nat.zero_add, Nat.sub_self, Nat.sub_zero, decide_true, decide_false, Bool.not_true, Bool.not_false, subD_ap, ltD_ap, leD_ap, gtD_ap, geD_ap, mulD_ap, modD_ap, divD_ap, powD_ap, tupK_ok, lstK_ok, methK_ok, tupG_ok, eqS_t, eqS_f, neS_t, neS_f, eqI_ap, neI_ap, inT_nil, inT_hit, inT_miss, ne_eq, not_false_eq_true, f__law_rounds, b__law_rounds, jx0, jx1, jx2, jx3, jx4, c, chainF, chainK, v28, v8, ixw, t1, ← hmany, tf, m3, due4, maxD_ok, sz (by decide : 2 ≤ 100), sz (by decide : 4 ≤ 100), sz (by decide : 5 ≤ 100)]
  · obtain ⟨z, q2, d2, t, g2, dz, S2, w, ixw, t1, l2, hdz, n1, n2, ht⟩ := two (st ++ [.lst [.str "less", .str "pour", .str "notin", .str "join"]])
    obtain ⟨qv, hqv⟩ : ∃ q, q = fd [0, qa, q2, 3 * (if (!decide (x = z)) = true then 1 else 0)] := ⟨_, rfl⟩
    obtain ⟨S3, hS3⟩ : ∃ S, S = S2 ++ [VL.O.lst [.int 0, .int qa, .int q2, .int (3 * (if (!decide (x = z)) = true then 1 else 0))]] := ⟨_, rfl⟩
    have du : f__law_first_due [.ref S2.length] (S2 ++ [VL.O.lst [.int 0, .int qa, .int q2, .int (3 * (if (!decide (x = z)) = true then 1 else 0))]]) = .ok (.int qv) S3 := by rw [hqv, hS3]; exact due4
    have lk := look many v t z qa q2 da d2 hnow hq1 ht n1
    rw [← hqv] at lk
    have qr := fdr (q0 := 0) (t := 3 * (if (!decide (x = z)) = true then 1 else 0)) (by decide) hq2 n2 (by rw [t3_eq]; exact t3_le)
    rw [← hqv] at qr
    have lb := look_same (w := "both") (by decide) qr.1 (show (0 : Int) ≤ 1 by decide) lk hN
    rw [if_neg (fun k => k rfl), fd_end rfl] at lb
    have r2 : 0 ≤ fd [qv, 1] ∧ fd [qv, 1] ≤ 5 := fd_range fun q hq => by
      simp only [List.mem_cons, List.not_mem_nil, or_false] at hq
      rcases hq with rfl | rfl
      · exact qr.2
      · decide
    refine ⟨fd [qv, 1], 1 + max (1 + max da d2) 0, .tup [.tup [.str "both", .tup [.str "rounds", .str nm, .int many, v, t], .tup [.str "name", .str nm]], .int x, .int (fd [qv, 1]), .int (33 + (24 + g + g2)), .int (1 + (1 + max dq dz))], S3 ++ [.lst [.int qv, .int 1]], ?_, (((Le.app _ _).trans l2).trans (hS3 ▸ Le.app _ _ : Le S2 S3)).trans (Le.app _ _), _, _, _, rfl, by omega, hx1, hx2, r2.1, r2.2, lb⟩
    simp -implicitDefEqProofs +decide only [varF_ap, cF_ap, opF_ap, opK_ap, bF_ap, boolK_ap, andT_ap, andK_ap, orT_ap, orK_ap, notT_ap, notK_ap, yesT_ap, andV_ap, andVK_ap, orV_ap, orVK_ap, notV_ap, notVK_ap, ifF_ap, ifFK_ap, nilA_ap, consA_ap, consK_ap, consJ_ap, tupA_ap, lstA_ap, newO_ap, dicF_ap, callF_ap, un1_ap, methF_ap, nonO_ap, someO_ap, someK_ap, slF_ap, slK_ap, slJ_ap, itF_ap, itA_ap, nilS_ap, bkS_ap, ctS_ap, seqS_ap, seqK_nx, seqK_rt, seqK_bk, seqK_ct, dropS_ap, dropK_ap, retS_ap, retK_ap, retN_ap, ifS_ap, ifK_ap, setS_ap, setK_ap, asgS_ap, asgK_ap, asgJ_ap, nameG_ap, nilG_ap, consG_ap, consGK_ap, fnF_ap, fnK_nx, fnK_rt, forS_ap, forK_ap, negD_ap, addI_ap, varK_ap, startE, yes2, isN, List.map_cons, List.map_nil, List.length_cons, List.length_nil, List.replicate, List.append_nil, List.cons_append, List.nil_append, List.getElem?_cons_zero, List.getElem?_cons_succ, List.set_cons_zero, List.set_cons_succ, R.bind_ok, R.bind_ex, R.bind_bad, R.noex_ok, if_true, if_false, Bool.false_eq_true, Bool.true_eq_false, ite_true, ite_false, reduceIte, Nat.reduceAdd, Nat.reduceSub, Nat.zero_add, Nat.sub_self, Nat.sub_zero, decide_true, decide_false, Bool.not_true, Bool.not_false, subD_ap, ltD_ap, leD_ap, gtD_ap, geD_ap, mulD_ap, modD_ap, divD_ap, powD_ap, tupK_ok, lstK_ok, methK_ok, tupG_ok, eqS_t, eqS_f, neS_t, neS_f, eqI_ap, neI_ap, inT_nil, inT_hit, inT_miss, ne_eq, not_false_eq_true, f__law_rounds, b__law_rounds, jx0, jx1, jx2, jx3, jx4, c, chainF, chainK, v28, v8, ixw, t1, ← hmany, tf, m3, du, due2, maxD_ok, sz (by decide : 2 ≤ 100), sz (by decide : 3 ≤ 100), sz (by decide : 4 ≤ 100), sz (by decide : 5 ≤ 100)]
  · have hnw : LookR P' (.tup [.str "rounds", .str nm, .int 2, v, .tup [.str "name", .str nm]]) x qa (1 + max da 0) := by
      have k := look 2 v (.tup [.str "name", .str nm]) x qa 0 da 0 hnow hq1 hL (by decide)
      have e : fd [0, qa, 0, 3 * (if (!decide (x = x)) = true then 1 else 0)] = qa := by
        rw [t3_eq, if_neg (fun k => k rfl), fd_0]
        by_cases h : qa = 0
        · rw [h]; rfl
        · exact fd_pos (by omega)
      rw [e] at k
      exact k
    refine ⟨_, _, _, st ++ [.lst [.int 0, .int qa, .int 0, .int (3 * (if (!decide (x = x)) = true then 1 else 0))]], ?_, Le.app _ _, fin (.tup [.str "rounds", .str nm, .int 2, v, .tup [.str "name", .str nm]]) (.tup [.str "name", .str nm]) x qa 0 (24 + (42 + g) + 9) (1 + max (1 + dq) 0) (1 + max da 0) 0 hnw hq1 hq2 hL (by decide) (by decide) (by omega)⟩
    simp -implicitDefEqProofs +decide only [varF_ap, cF_ap, opF_ap, opK_ap, bF_ap, boolK_ap, andT_ap, andK_ap, orT_ap, orK_ap, notT_ap, notK_ap, yesT_ap, andV_ap, andVK_ap, orV_ap, orVK_ap, notV_ap, notVK_ap, ifF_ap, ifFK_ap, nilA_ap, consA_ap, consK_ap, consJ_ap, tupA_ap, lstA_ap, newO_ap, dicF_ap, callF_ap, un1_ap, methF_ap, nonO_ap, someO_ap, someK_ap, slF_ap, slK_ap, slJ_ap, itF_ap, itA_ap, nilS_ap, bkS_ap, ctS_ap, seqS_ap, seqK_nx, seqK_rt, seqK_bk, seqK_ct, dropS_ap, dropK_ap, retS_ap, retK_ap, retN_ap, ifS_ap, ifK_ap, setS_ap, setK_ap, asgS_ap, asgK_ap, asgJ_ap, nameG_ap, nilG_ap, consG_ap, consGK_ap, fnF_ap, fnK_nx, fnK_rt, forS_ap, forK_ap, negD_ap, addI_ap, varK_ap, startE, yes2, isN, List.map_cons, List.map_nil, List.length_cons, List.length_nil, List.replicate, List.append_nil, List.cons_append, List.nil_append, List.getElem?_cons_zero, List.getElem?_cons_succ, List.set_cons_zero, List.set_cons_succ, R.bind_ok, R.bind_ex, R.bind_bad, R.noex_ok, if_true, if_false, Bool.false_eq_true, Bool.true_eq_false, ite_true, ite_false, reduceIte, Nat.reduceAdd, Nat.reduceSub, Nat.zero_add, Nat.sub_self, Nat.sub_zero, decide_true, decide_false, Bool.not_true, Bool.not_false, subD_ap, ltD_ap, leD_ap, gtD_ap, geD_ap, mulD_ap, modD_ap, divD_ap, powD_ap, tupK_ok, lstK_ok, methK_ok, tupG_ok, eqS_t, eqS_f, neS_t, neS_f, eqI_ap, neI_ap, inT_nil, inT_hit, inT_miss, ne_eq, not_false_eq_true, f__law_rounds, b__law_rounds, jx0, jx1, jx2, jx3, jx4, c, chainF, chainK, v28, ← hmany, tf, m3, due4, maxD_ok, sz (by decide : 2 ≤ 100), sz (by decide : 4 ≤ 100), sz (by decide : 5 ≤ 100)]
end
end Law

namespace Law
open PySem L2 VL
section
variable {P P' : List (VL.D × VL.D) → Prop} {a b e : VL.D} {x y qa qb : Int} {da db : Nat}
def sixteen : List Str := ["sieve", "cols", "once", "count", "sum", "least", "most", "first", "join", "left", "notin", "pour", "both", "either", "less", "rounds"]
theorem next_ok {c n : Int} {nm kn : Str} {st : Sto} (hc2 : 3 ≤ c % 19) (ha : En P x qa da a) (hb : En P y qb db b)
    (h1 : ∀ W, keysOk W = true → P' W → P W) (h2 : ∀ W, P' W → dget W (.str nm) = none) (h3 : ∀ W, keysOk W = true → P' W → ∀ x, P (W ++ [(.str nm, .int x)])) (h4 : ∀ W, P' W → ∃ z, dget W (.str kn) = some z) :
    ∃ z q dz e S, f__law_next [.int c, .int n, a, b, .str nm, .str kn] st = .ok e S ∧ Le st S ∧ En P' z q dz e := by
  obtain ⟨k, hk16⟩ : ∃ k : Nat, c % 19 - 3 = k := ⟨(c % 19 - 3).toNat, by omega⟩
  obtain ⟨w, hw⟩ : ∃ w, sixteen[k]? = some w := ⟨_, List.getElem?_eq_getElem (by show k < 16; omega)⟩
  have wm : w ∈ sixteen := List.mem_of_getElem? hw
  have v19 : (19 : Int).natAbs.log2 < 9000 := by decide +kernel
  have iw : ∀ S : Sto, ixD (.ref S.length) (.int (k : Int)) (S ++ [.lst (sixteen.map .str)]) = .ok (.str w) (S ++ [.lst (sixteen.map .str)]) := fun S => ixD_list listAt_last (by
    rw [List.getElem?_map, hw]; rfl)
  simp only [sixteen, List.map_cons, List.map_nil] at iw
  have go : ∀ (a b : VL.D) (x y qa qb : Int) (da db : Nat), En P x qa da a → En P y qb db b → ∀ K : VL.D → Sto → Prop, (∀ z q dz e S, Le st S → En P' z q dz e → K e S) →
      (w = "rounds" → ∃ e S, f__law_rounds [.int n, a, b, .str nm, .str kn] (st ++ [.lst (sixteen.map .str)]) = .ok e S ∧ K e S) ∧ (w ∈ seven → ∃ e S, f__law_two [.int n, .str w, a, b] (st ++ [.lst (sixteen.map .str)]) = .ok e S ∧ K e S) ∧ (w ∈ words8 → ∃ e S, f__law_one [.int n, .str w, a] (st ++ [.lst (sixteen.map .str)]) = .ok e S ∧ K e S) := by
    intro a b x y qa qb da db ha hb K hK
    have l0 : Le st (st ++ [.lst (sixteen.map .str)]) := Le.app _ _
    refine ⟨fun _ => ?_, fun h => ?_, fun h => ?_⟩
    · obtain ⟨q, dz, e, S, q1, q2, q3⟩ := rounds_ok (P' := P') (n := n) (kn := kn) (st := st ++ [.lst (sixteen.map .str)]) ha hb h1 h2 (fun W hW h => h3 W hW h x) h4
      exact ⟨e, S, q1, hK _ _ _ _ _ (l0.trans q2) q3⟩
    · obtain ⟨z, q, dz, e, S, q1, q2, q3⟩ := two_ok (n := n) (st := st ++ [.lst (sixteen.map .str)]) h ha hb
      exact ⟨e, S, q1, hK _ _ _ _ _ (l0.trans q2) (q3.mono h1)⟩
    · obtain ⟨z, q, dz, e, S, q1, q2, q3⟩ := one_ok (n := n) (st := st ++ [.lst (sixteen.map .str)]) h ha
      exact ⟨e, S, q1, hK _ _ _ _ _ (l0.trans q2) (q3.mono h1)⟩
  have hs : c / 19 % 2 = 1 ∨ c / 19 % 2 = 0 := by omega
  have word : w = "rounds" ∨ (w ∈ seven ∧ w ≠ "rounds") ∨ (w ∈ words8 ∧ w ≠ "rounds" ∧ ∀ u ∈ seven, w ≠ u) := by
    simp only [sixteen, List.mem_cons, List.not_mem_nil, or_false] at wm
    rcases wm with rfl | rfl | rfl | rfl | rfl | rfl | rfl | rfl | rfl | rfl | rfl | rfl | rfl | rfl | rfl | rfl <;> decide
  have sw : ∀ w : Str, w ∈ seven → ∀ S : Sto, inSq false (.str w) (.tup [.str "join", .str "left", .str "notin", .str "pour", .str "both", .str "either", .str "less"]) S = .ok (.bl true) S := fun w h S => by
    simp only [seven, List.mem_cons, List.not_mem_nil, or_false] at h
    rcases h with rfl | rfl | rfl | rfl | rfl | rfl | rfl <;> simp -implicitDefEqProofs +decide only [varF_ap, cF_ap, opF_ap, opK_ap, bF_ap, boolK_ap, andT_ap, andK_ap, orT_ap, orK_ap, notT_ap, notK_ap, yesT_ap, andV_ap, andVK_ap, orV_ap, orVK_ap, notV_ap, notVK_ap, ifF_ap, ifFK_ap, nilA_ap, consA_ap, consK_ap, consJ_ap, tupA_ap, lstA_ap, newO_ap, dicF_ap, callF_ap, un1_ap, methF_ap, nonO_ap, someO_ap, someK_ap, slF_ap, slK_ap, slJ_ap, itF_ap, itA_ap, nilS_ap, bkS_ap, ctS_ap, seqS_ap, seqK_nx, seqK_rt, seqK_bk, seqK_ct, dropS_ap, dropK_ap, retS_ap, retK_ap, retN_ap, ifS_ap, ifK_ap, setS_ap, setK_ap, asgS_ap, asgK_ap, asgJ_ap, nameG_ap, nilG_ap, consG_ap, consGK_ap, fnF_ap, fnK_nx, fnK_rt, forS_ap, forK_ap, negD_ap, addI_ap, varK_ap, startE, yes2, isN, List.map_cons, List.map_nil, List.length_cons, List.length_nil, List.replicate, List.append_nil, List.cons_append, List.nil_append, List.getElem?_cons_zero, List.getElem?_cons_succ, List.set_cons_zero, List.set_cons_succ, R.bind_ok, R.bind_ex, R.bind_bad, R.noex_ok, if_true, if_false, Bool.false_eq_true, Bool.true_eq_false, ite_true, ite_false, reduceIte, Nat.reduceAdd, Nat.reduceSub, Nat.zero_add, Nat.sub_self, Nat.sub_zero, decide_true, decide_false, Bool.not_true, Bool.not_false, subD_ap, ltD_ap, leD_ap, gtD_ap, geD_ap, mulD_ap, modD_ap, divD_ap, powD_ap, tupK_ok, lstK_ok, methK_ok, tupG_ok, eqS_t, eqS_f, neS_t, neS_f, eqI_ap, neI_ap, inT_nil, inT_hit, inT_miss, ne_eq, not_false_eq_true]
  have sn : (∀ u ∈ seven, w ≠ u) → ∀ S : Sto, inSq false (.str w) (.tup [.str "join", .str "left", .str "notin", .str "pour", .str "both", .str "either", .str "less"]) S = .ok (.bl false) S := fun h S => by
    simp only [seven, List.mem_cons, List.not_mem_nil, or_false, forall_eq_or_imp, forall_eq] at h
    obtain ⟨n1, n2, n3, n4, n5, n6, n7⟩ := h
    simp -implicitDefEqProofs +decide only [varF_ap, cF_ap, opF_ap, opK_ap, bF_ap, boolK_ap, andT_ap, andK_ap, orT_ap, orK_ap, notT_ap, notK_ap, yesT_ap, andV_ap, andVK_ap, orV_ap, orVK_ap, notV_ap, notVK_ap, ifF_ap, ifFK_ap, nilA_ap, consA_ap, consK_ap, consJ_ap, tupA_ap, lstA_ap, newO_ap, dicF_ap, callF_ap, un1_ap, methF_ap, nonO_ap, someO_ap, someK_ap, slF_ap, slK_ap, slJ_ap, itF_ap, itA_ap, nilS_ap, bkS_ap, ctS_ap, seqS_ap, seqK_nx, seqK_rt, seqK_bk, seqK_ct, dropS_ap, dropK_ap, retS_ap, retK_ap, retN_ap, ifS_ap, ifK_ap, setS_ap, setK_ap, asgS_ap, asgK_ap, asgJ_ap, nameG_ap, nilG_ap, consG_ap, consGK_ap, fnF_ap, fnK_nx, fnK_rt, forS_ap, forK_ap, negD_ap, addI_ap, varK_ap, startE, yes2, isN, List.map_cons, List.map_nil, List.length_cons, List.length_nil, List.replicate, List.append_nil, List.cons_append, List.nil_append, List.getElem?_cons_zero, List.getElem?_cons_succ, List.set_cons_zero, List.set_cons_succ, R.bind_ok, R.bind_ex, R.bind_bad, R.noex_ok, if_true, if_false, Bool.false_eq_true, Bool.true_eq_false, ite_true, ite_false, reduceIte, Nat.reduceAdd, Nat.reduceSub, Nat.zero_add, Nat.sub_self, Nat.sub_zero, decide_true, decide_false, Bool.not_true, Bool.not_false, subD_ap, ltD_ap, leD_ap, gtD_ap, geD_ap, mulD_ap, modD_ap, divD_ap, powD_ap, tupK_ok, lstK_ok, methK_ok, tupG_ok, eqS_t, eqS_f, neS_t, neS_f, eqI_ap, neI_ap, inT_nil, inT_hit, inT_miss, ne_eq, not_false_eq_true, n1, n2, n3, n4, n5, n6, n7]
  rcases hs with hs | hs
  · obtain ⟨g1, g2, g3⟩ := go b a y x qb qa db da hb ha (fun e S => ∃ z q dz, Le st S ∧ En P' z q dz e) fun z q dz e S q1 q2 => ⟨z, q, dz, q1, q2⟩
    simp only [sixteen, List.map_cons, List.map_nil] at g1 g2 g3
    rcases word with h | ⟨h, h'⟩ | ⟨h, h', h''⟩
    · obtain ⟨e, S, r1, z, q, dz, r2, r3⟩ := g1 h
      subst h
      exact ⟨z, q, dz, e, S, by simp -implicitDefEqProofs +decide only [varF_ap, cF_ap, opF_ap, opK_ap, bF_ap, boolK_ap, andT_ap, andK_ap, orT_ap, orK_ap, notT_ap, notK_ap, yesT_ap, andV_ap, andVK_ap, orV_ap, orVK_ap, notV_ap, notVK_ap, ifF_ap, ifFK_ap, nilA_ap, consA_ap, consK_ap, consJ_ap, tupA_ap, lstA_ap, newO_ap, dicF_ap, callF_ap, un1_ap, methF_ap, nonO_ap, someO_ap, someK_ap, slF_ap, slK_ap, slJ_ap, itF_ap, itA_ap, nilS_ap, bkS_ap, ctS_ap, seqS_ap, seqK_nx, seqK_rt, seqK_bk, seqK_ct, dropS_ap, dropK_ap, retS_ap, retK_ap, retN_ap, ifS_ap, ifK_ap, setS_ap, setK_ap, asgS_ap, asgK_ap, asgJ_ap, nameG_ap, nilG_ap, consG_ap, consGK_ap, fnF_ap, fnK_nx, fnK_rt, forS_ap, forK_ap, negD_ap, addI_ap, varK_ap, startE, yes2, isN, List.map_cons, List.map_nil, List.length_cons, List.length_nil, List.replicate, List.append_nil, List.cons_append, List.nil_append, List.getElem?_cons_zero, List.getElem?_cons_succ, List.set_cons_zero, List.set_cons_succ, R.bind_ok, R.bind_ex, R.bind_bad, R.noex_ok, if_true, if_false, Bool.false_eq_true, Bool.true_eq_false, ite_true, ite_false, reduceIte, Nat.reduceAdd, Nat.reduceSub, Nat.zero_add, Nat.sub_self, Nat.sub_zero, decide_true, decide_false, Bool.not_true, Bool.not_false, subD_ap, ltD_ap, leD_ap, gtD_ap, geD_ap, mulD_ap, modD_ap, divD_ap, powD_ap, tupK_ok, lstK_ok, methK_ok, tupG_ok, eqS_t, eqS_f, neS_t, neS_f, eqI_ap, neI_ap, inT_nil, inT_hit, inT_miss, ne_eq, not_false_eq_true, f__law_next, b__law_next, parS_ap, parK_ap, hk16, v19, iw, hs, r1, sz (by decide : 16 ≤ 100)], r2, r3⟩
    · obtain ⟨e, S, r1, z, q, dz, r2, r3⟩ := g2 h
      exact ⟨z, q, dz, e, S, by simp -implicitDefEqProofs +decide only [varF_ap, cF_ap, opF_ap, opK_ap, bF_ap, boolK_ap, andT_ap, andK_ap, orT_ap, orK_ap, notT_ap, notK_ap, yesT_ap, andV_ap, andVK_ap, orV_ap, orVK_ap, notV_ap, notVK_ap, ifF_ap, ifFK_ap, nilA_ap, consA_ap, consK_ap, consJ_ap, tupA_ap, lstA_ap, newO_ap, dicF_ap, callF_ap, un1_ap, methF_ap, nonO_ap, someO_ap, someK_ap, slF_ap, slK_ap, slJ_ap, itF_ap, itA_ap, nilS_ap, bkS_ap, ctS_ap, seqS_ap, seqK_nx, seqK_rt, seqK_bk, seqK_ct, dropS_ap, dropK_ap, retS_ap, retK_ap, retN_ap, ifS_ap, ifK_ap, setS_ap, setK_ap, asgS_ap, asgK_ap, asgJ_ap, nameG_ap, nilG_ap, consG_ap, consGK_ap, fnF_ap, fnK_nx, fnK_rt, forS_ap, forK_ap, negD_ap, addI_ap, varK_ap, startE, yes2, isN, List.map_cons, List.map_nil, List.length_cons, List.length_nil, List.replicate, List.append_nil, List.cons_append, List.nil_append, List.getElem?_cons_zero, List.getElem?_cons_succ, List.set_cons_zero, List.set_cons_succ, R.bind_ok, R.bind_ex, R.bind_bad, R.noex_ok, if_true, if_false, Bool.false_eq_true, Bool.true_eq_false, ite_true, ite_false, reduceIte, Nat.reduceAdd, Nat.reduceSub, Nat.zero_add, Nat.sub_self, Nat.sub_zero, decide_true, decide_false, Bool.not_true, Bool.not_false, subD_ap, ltD_ap, leD_ap, gtD_ap, geD_ap, mulD_ap, modD_ap, divD_ap, powD_ap, tupK_ok, lstK_ok, methK_ok, tupG_ok, eqS_t, eqS_f, neS_t, neS_f, eqI_ap, neI_ap, inT_nil, inT_hit, inT_miss, ne_eq, not_false_eq_true, f__law_next, b__law_next, parS_ap, parK_ap, hk16, v19, iw, hs, r1, h', sw w h, sz (by decide : 16 ≤ 100), sz (by decide : 7 ≤ 100)], r2, r3⟩
    · obtain ⟨e, S, r1, z, q, dz, r2, r3⟩ := g3 h
      exact ⟨z, q, dz, e, S, by simp -implicitDefEqProofs +decide only [varF_ap, cF_ap, opF_ap, opK_ap, bF_ap, boolK_ap, andT_ap, andK_ap, orT_ap, orK_ap, notT_ap, notK_ap, yesT_ap, andV_ap, andVK_ap, orV_ap, orVK_ap, notV_ap, notVK_ap, ifF_ap, ifFK_ap, nilA_ap, consA_ap, consK_ap, consJ_ap, tupA_ap, lstA_ap, newO_ap, dicF_ap, callF_ap, un1_ap, methF_ap, nonO_ap, someO_ap, someK_ap, slF_ap, slK_ap, slJ_ap, itF_ap, itA_ap, nilS_ap, bkS_ap, ctS_ap, seqS_ap, seqK_nx, seqK_rt, seqK_bk, seqK_ct, dropS_ap, dropK_ap, retS_ap, retK_ap, retN_ap, ifS_ap, ifK_ap, setS_ap, setK_ap, asgS_ap, asgK_ap, asgJ_ap, nameG_ap, nilG_ap, consG_ap, consGK_ap, fnF_ap, fnK_nx, fnK_rt, forS_ap, forK_ap, negD_ap, addI_ap, varK_ap, startE, yes2, isN, List.map_cons, List.map_nil, List.length_cons, List.length_nil, List.replicate, List.append_nil, List.cons_append, List.nil_append, List.getElem?_cons_zero, List.getElem?_cons_succ, List.set_cons_zero, List.set_cons_succ, R.bind_ok, R.bind_ex, R.bind_bad, R.noex_ok, if_true, if_false, Bool.false_eq_true, Bool.true_eq_false, ite_true, ite_false, reduceIte, Nat.reduceAdd, Nat.reduceSub, Nat.zero_add, Nat.sub_self, Nat.sub_zero, decide_true, decide_false, Bool.not_true, Bool.not_false, subD_ap, ltD_ap, leD_ap, gtD_ap, geD_ap, mulD_ap, modD_ap, divD_ap, powD_ap, tupK_ok, lstK_ok, methK_ok, tupG_ok, eqS_t, eqS_f, neS_t, neS_f, eqI_ap, neI_ap, inT_nil, inT_hit, inT_miss, ne_eq, not_false_eq_true, f__law_next, b__law_next, parS_ap, parK_ap, hk16, v19, iw, hs, r1, h', sn h'', sz (by decide : 16 ≤ 100), sz (by decide : 7 ≤ 100)], r2, r3⟩
  · obtain ⟨g1, g2, g3⟩ := go a b x y qa qb da db ha hb (fun e S => ∃ z q dz, Le st S ∧ En P' z q dz e) fun z q dz e S q1 q2 => ⟨z, q, dz, q1, q2⟩
    simp only [sixteen, List.map_cons, List.map_nil] at g1 g2 g3
    rcases word with h | ⟨h, h'⟩ | ⟨h, h', h''⟩
    · obtain ⟨e, S, r1, z, q, dz, r2, r3⟩ := g1 h
      subst h
      exact ⟨z, q, dz, e, S, by simp -implicitDefEqProofs +decide only [varF_ap, cF_ap, opF_ap, opK_ap, bF_ap, boolK_ap, andT_ap, andK_ap, orT_ap, orK_ap, notT_ap, notK_ap, yesT_ap, andV_ap, andVK_ap, orV_ap, orVK_ap, notV_ap, notVK_ap, ifF_ap, ifFK_ap, nilA_ap, consA_ap, consK_ap, consJ_ap, tupA_ap, lstA_ap, newO_ap, dicF_ap, callF_ap, un1_ap, methF_ap, nonO_ap, someO_ap, someK_ap, slF_ap, slK_ap, slJ_ap, itF_ap, itA_ap, nilS_ap, bkS_ap, ctS_ap, seqS_ap, seqK_nx, seqK_rt, seqK_bk, seqK_ct, dropS_ap, dropK_ap, retS_ap, retK_ap, retN_ap, ifS_ap, ifK_ap, setS_ap, setK_ap, asgS_ap, asgK_ap, asgJ_ap, nameG_ap, nilG_ap, consG_ap, consGK_ap, fnF_ap, fnK_nx, fnK_rt, forS_ap, forK_ap, negD_ap, addI_ap, varK_ap, startE, yes2, isN, List.map_cons, List.map_nil, List.length_cons, List.length_nil, List.replicate, List.append_nil, List.cons_append, List.nil_append, List.getElem?_cons_zero, List.getElem?_cons_succ, List.set_cons_zero, List.set_cons_succ, R.bind_ok, R.bind_ex, R.bind_bad, R.noex_ok, if_true, if_false, Bool.false_eq_true, Bool.true_eq_false, ite_true, ite_false, reduceIte, Nat.reduceAdd, Nat.reduceSub, Nat.zero_add, Nat.sub_self, Nat.sub_zero, decide_true, decide_false, Bool.not_true, Bool.not_false, subD_ap, ltD_ap, leD_ap, gtD_ap, geD_ap, mulD_ap, modD_ap, divD_ap, powD_ap, tupK_ok, lstK_ok, methK_ok, tupG_ok, eqS_t, eqS_f, neS_t, neS_f, eqI_ap, neI_ap, inT_nil, inT_hit, inT_miss, ne_eq, not_false_eq_true, f__law_next, b__law_next, parS_ap, parK_ap, hk16, v19, iw, hs, r1, sz (by decide : 16 ≤ 100)], r2, r3⟩
    · obtain ⟨e, S, r1, z, q, dz, r2, r3⟩ := g2 h
      exact ⟨z, q, dz, e, S, by simp -implicitDefEqProofs +decide only [varF_ap, cF_ap, opF_ap, opK_ap, bF_ap, boolK_ap, andT_ap, andK_ap, orT_ap, orK_ap, notT_ap, notK_ap, yesT_ap, andV_ap, andVK_ap, orV_ap, orVK_ap, notV_ap, notVK_ap, ifF_ap, ifFK_ap, nilA_ap, consA_ap, consK_ap, consJ_ap, tupA_ap, lstA_ap, newO_ap, dicF_ap, callF_ap, un1_ap, methF_ap, nonO_ap, someO_ap, someK_ap, slF_ap, slK_ap, slJ_ap, itF_ap, itA_ap, nilS_ap, bkS_ap, ctS_ap, seqS_ap, seqK_nx, seqK_rt, seqK_bk, seqK_ct, dropS_ap, dropK_ap, retS_ap, retK_ap, retN_ap, ifS_ap, ifK_ap, setS_ap, setK_ap, asgS_ap, asgK_ap, asgJ_ap, nameG_ap, nilG_ap, consG_ap, consGK_ap, fnF_ap, fnK_nx, fnK_rt, forS_ap, forK_ap, negD_ap, addI_ap, varK_ap, startE, yes2, isN, List.map_cons, List.map_nil, List.length_cons, List.length_nil, List.replicate, List.append_nil, List.cons_append, List.nil_append, List.getElem?_cons_zero, List.getElem?_cons_succ, List.set_cons_zero, List.set_cons_succ, R.bind_ok, R.bind_ex, R.bind_bad, R.noex_ok, if_true, if_false, Bool.false_eq_true, Bool.true_eq_false, ite_true, ite_false, reduceIte, Nat.reduceAdd, Nat.reduceSub, Nat.zero_add, Nat.sub_self, Nat.sub_zero, decide_true, decide_false, Bool.not_true, Bool.not_false, subD_ap, ltD_ap, leD_ap, gtD_ap, geD_ap, mulD_ap, modD_ap, divD_ap, powD_ap, tupK_ok, lstK_ok, methK_ok, tupG_ok, eqS_t, eqS_f, neS_t, neS_f, eqI_ap, neI_ap, inT_nil, inT_hit, inT_miss, ne_eq, not_false_eq_true, f__law_next, b__law_next, parS_ap, parK_ap, hk16, v19, iw, hs, r1, h', sw w h, sz (by decide : 16 ≤ 100), sz (by decide : 7 ≤ 100)], r2, r3⟩
    · obtain ⟨e, S, r1, z, q, dz, r2, r3⟩ := g3 h
      exact ⟨z, q, dz, e, S, by simp -implicitDefEqProofs +decide only [varF_ap, cF_ap, opF_ap, opK_ap, bF_ap, boolK_ap, andT_ap, andK_ap, orT_ap, orK_ap, notT_ap, notK_ap, yesT_ap, andV_ap, andVK_ap, orV_ap, orVK_ap, notV_ap, notVK_ap, ifF_ap, ifFK_ap, nilA_ap, consA_ap, consK_ap, consJ_ap, tupA_ap, lstA_ap, newO_ap, dicF_ap, callF_ap, un1_ap, methF_ap, nonO_ap, someO_ap, someK_ap, slF_ap, slK_ap, slJ_ap, itF_ap, itA_ap, nilS_ap, bkS_ap, ctS_ap, seqS_ap, seqK_nx, seqK_rt, seqK_bk, seqK_ct, dropS_ap, dropK_ap, retS_ap, retK_ap, retN_ap, ifS_ap, ifK_ap, setS_ap, setK_ap, asgS_ap, asgK_ap, asgJ_ap, nameG_ap, nilG_ap, consG_ap, consGK_ap, fnF_ap, fnK_nx, fnK_rt, forS_ap, forK_ap, negD_ap, addI_ap, varK_ap, startE, yes2, isN, List.map_cons, List.map_nil, List.length_cons, List.length_nil, List.replicate, List.append_nil, List.cons_append, List.nil_append, List.getElem?_cons_zero, List.getElem?_cons_succ, List.set_cons_zero, List.set_cons_succ, R.bind_ok, R.bind_ex, R.bind_bad, R.noex_ok, if_true, if_false, Bool.false_eq_true, Bool.true_eq_false, ite_true, ite_false, reduceIte, Nat.reduceAdd, Nat.reduceSub, Nat.zero_add, Nat.sub_self, Nat.sub_zero, decide_true, decide_false, Bool.not_true, Bool.not_false, subD_ap, ltD_ap, leD_ap, gtD_ap, geD_ap, mulD_ap, modD_ap, divD_ap, powD_ap, tupK_ok, lstK_ok, methK_ok, tupG_ok, eqS_t, eqS_f, neS_t, neS_f, eqI_ap, neI_ap, inT_nil, inT_hit, inT_miss, ne_eq, not_false_eq_true, f__law_next, b__law_next, parS_ap, parK_ap, hk16, v19, iw, hs, r1, h', sn h'', sz (by decide : 16 ≤ 100), sz (by decide : 7 ≤ 100)], r2, r3⟩
end
/-! ### asked whether the answer fits -/
theorem tryKS_ap {i ie j : Nat} {fn : Fn} {fa : AF} {kinds : Str → Option (List Bool)} {env : EnvD} {st : Sto} {ds : List VL.D} {s : Sto} (h : fa env st = .ok ds s) : tryKS i ie j fn fa kinds env st = tryKK i ie j kinds env (fn ds s) := by
  unfold tryKS
  rw [h]; rfl
theorem fits_ok {P : List (VL.D × VL.D) → Prop} {v : VL.D} {w q : Int} {dp m : Nat} {W : List (VL.D × VL.D)} {st : Sto} (hv : LookR P v w q dp) (hdp : dp ≤ 26) (hq1 : 0 ≤ q) (hq2 : q ≤ 5) (hm : st[m]? = some (.dic W)) (hk : keysOk W = true) (hl : W.length ≤ 4) (hnd : (W.map (·.1)).Nodup) (hfl : ∀ p ∈ W, flD p.2 = true) (hP : P W) :
    ∃ S, f__law_fits [v, .ref m, .int w, .int q] st = .ok (.bl true) S ∧ Le st S := by
  obtain ⟨S1, hS1⟩ : ∃ S, S = st ++ [VL.O.dic W] := ⟨_, rfl⟩
  obtain ⟨S2, hS2⟩ : ∃ S, S = S1 ++ [VL.O.lst []] := ⟨_, rfl⟩
  have L1 : Le st S1 := hS1 ▸ Le.app _ _
  have L2 : Le S1 S2 := hS2 ▸ Le.app _ _
  have dd : dictD [.ref m] st = .ok (.ref st.length) S1 := by simp only [dictD, hm, hk, if_true, hS1]; rfl
  have g1 : S2[st.length]? = some (.dic W) := L2.get (hS1 ▸ get_last)
  have g2 : S2[S1.length]? = some (.lst []) := hS2 ▸ get_last
  obtain ⟨S3, lk, L3⟩ := hv 80 (by omega) W st.length S2 g1 hk (by omega) hP
  have p2 : S1 ++ [VL.O.lst []] = S2 := hS2.symm
  have same : ∀ S, Le S3 S → neDC (.ref st.length) (.ref m) S = .ok (.bl false) S := fun S h => by
    unfold neDC
    rw [if_pos ⟨_, _, W, rfl, rfl, (L3.trans h).get g1, (((L1.trans L2).trans L3).trans h).get hm, hk, hnd, hfl⟩]
  have fa : consA (varF 0) (consA (varF 4) nilA) [some v, some (.ref m), some (.int w), some (.int q), some (.ref st.length), some .non, some (.ref S1.length), none, none] S2 = .ok [v, .ref st.length] S2 := by simp -implicitDefEqProofs +decide only [varF_ap, cF_ap, opF_ap, opK_ap, bF_ap, boolK_ap, andT_ap, andK_ap, orT_ap, orK_ap, notT_ap, notK_ap, yesT_ap, andV_ap, andVK_ap, orV_ap, orVK_ap, notV_ap, notVK_ap, ifF_ap, ifFK_ap, nilA_ap, consA_ap, consK_ap, consJ_ap, tupA_ap, lstA_ap, newO_ap, dicF_ap, callF_ap, un1_ap, methF_ap, nonO_ap, someO_ap, someK_ap, slF_ap, slK_ap, slJ_ap, itF_ap, itA_ap, nilS_ap, bkS_ap, ctS_ap, seqS_ap, seqK_nx, seqK_rt, seqK_bk, seqK_ct, dropS_ap, dropK_ap, retS_ap, retK_ap, retN_ap, ifS_ap, ifK_ap, setS_ap, setK_ap, asgS_ap, asgK_ap, asgJ_ap, nameG_ap, nilG_ap, consG_ap, consGK_ap, fnF_ap, fnK_nx, fnK_rt, forS_ap, forK_ap, negD_ap, addI_ap, varK_ap, startE, yes2, isN, List.map_cons, List.map_nil, List.length_cons, List.length_nil, List.replicate, List.append_nil, List.cons_append, List.nil_append, List.getElem?_cons_zero, List.getElem?_cons_succ, List.set_cons_zero, List.set_cons_succ, R.bind_ok, R.bind_ex, R.bind_bad, R.noex_ok, if_true, if_false, Bool.false_eq_true, Bool.true_eq_false, ite_true, ite_false, reduceIte, Nat.reduceAdd, Nat.reduceSub, Nat.zero_add, Nat.sub_self, Nat.sub_zero, decide_true, decide_false, Bool.not_true, Bool.not_false, subD_ap, ltD_ap, leD_ap, gtD_ap, geD_ap, mulD_ap, modD_ap, divD_ap, powD_ap, tupK_ok, lstK_ok, methK_ok, tupG_ok, eqS_t, eqS_f, neS_t, neS_f, eqI_ap, neI_ap, inT_nil, inT_hit, inT_miss, ne_eq, not_false_eq_true]
  have LL : Le st S3 := (L1.trans L2).trans L3
  by_cases h0 : q = 0
  · subst h0
    rw [out0] at lk
    have tr : tryKS 5 7 6 (f_look 80) (consA (varF 0) (consA (varF 4) nilA)) kinds__law_fits [some v, some (.ref m), some (.int w), some (.int 0), some (.ref st.length), some .non, some (.ref S1.length), none, none] S2 = .ok (.nx [some v, some (.ref m), some (.int w), some (.int 0), some (.ref st.length), some (.int w), some (.ref S1.length), none, none]) S3 := by
      rw [tryKS_ap fa, lk]; rfl
    have eb : eqBL (.ref S1.length) (.ref S3.length) (S3 ++ [.lst []]) = .ok (.bl true) (S3 ++ [.lst []]) := by
      have e1 : listAt (S3 ++ [VL.O.lst []]) S1.length = some [] := listAt_app (listAt_lst (L3.get g2))
      have e2 : listAt (S3 ++ [VL.O.lst []]) S3.length = some [] := listAt_last
      simp only [eqBL, e1, e2, Option.bind_some, truO, if_true]
    have wh : ∀ (i : Int) S, f__law_whole [.int i] S = .ok (.bl true) S := fun i S => by
      have g := isi_ok (d := .int i) (st := S) (T := "int") rfl (by decide)
      have g2 := isi_ok (d := .int i) (st := S) (T := "bool") rfl (by decide)
      have e1 : isT (.int i) S "int" = true := by simp [isT, tyOfD]
      have e2 : isT (.int i) S "bool" = false := by simp [isT, tyOfD]
      rw [e1] at g
      rw [e2] at g2
      simp -implicitDefEqProofs +decide only [varF_ap, cF_ap, opF_ap, opK_ap, bF_ap, boolK_ap, andT_ap, andK_ap, orT_ap, orK_ap, notT_ap, notK_ap, yesT_ap, andV_ap, andVK_ap, orV_ap, orVK_ap, notV_ap, notVK_ap, ifF_ap, ifFK_ap, nilA_ap, consA_ap, consK_ap, consJ_ap, tupA_ap, lstA_ap, newO_ap, dicF_ap, callF_ap, un1_ap, methF_ap, nonO_ap, someO_ap, someK_ap, slF_ap, slK_ap, slJ_ap, itF_ap, itA_ap, nilS_ap, bkS_ap, ctS_ap, seqS_ap, seqK_nx, seqK_rt, seqK_bk, seqK_ct, dropS_ap, dropK_ap, retS_ap, retK_ap, retN_ap, ifS_ap, ifK_ap, setS_ap, setK_ap, asgS_ap, asgK_ap, asgJ_ap, nameG_ap, nilG_ap, consG_ap, consGK_ap, fnF_ap, fnK_nx, fnK_rt, forS_ap, forK_ap, negD_ap, addI_ap, varK_ap, startE, yes2, isN, List.map_cons, List.map_nil, List.length_cons, List.length_nil, List.replicate, List.append_nil, List.cons_append, List.nil_append, List.getElem?_cons_zero, List.getElem?_cons_succ, List.set_cons_zero, List.set_cons_succ, R.bind_ok, R.bind_ex, R.bind_bad, R.noex_ok, if_true, if_false, Bool.false_eq_true, Bool.true_eq_false, ite_true, ite_false, reduceIte, Nat.reduceAdd, Nat.reduceSub, Nat.zero_add, Nat.sub_self, Nat.sub_zero, decide_true, decide_false, Bool.not_true, Bool.not_false, subD_ap, ltD_ap, leD_ap, gtD_ap, geD_ap, mulD_ap, modD_ap, divD_ap, powD_ap, tupK_ok, lstK_ok, methK_ok, tupG_ok, eqS_t, eqS_f, neS_t, neS_f, eqI_ap, neI_ap, inT_nil, inT_hit, inT_miss, ne_eq, not_false_eq_true, f__law_whole, b__law_whole, g, g2]
    have ww : ∀ S, eqD (.int w) (.int w) S = .ok (.bl true) S := fun S => by rw [eqI_ap, decide_eq_true rfl]
    refine ⟨S3 ++ [.lst []], ?_, LL.trans (Le.app _ _)⟩
    simp -implicitDefEqProofs +decide only [varF_ap, cF_ap, opF_ap, opK_ap, bF_ap, boolK_ap, andT_ap, andK_ap, orT_ap, orK_ap, notT_ap, notK_ap, yesT_ap, andV_ap, andVK_ap, orV_ap, orVK_ap, notV_ap, notVK_ap, ifF_ap, ifFK_ap, nilA_ap, consA_ap, consK_ap, consJ_ap, tupA_ap, lstA_ap, newO_ap, dicF_ap, callF_ap, un1_ap, methF_ap, nonO_ap, someO_ap, someK_ap, slF_ap, slK_ap, slJ_ap, itF_ap, itA_ap, nilS_ap, bkS_ap, ctS_ap, seqS_ap, seqK_nx, seqK_rt, seqK_bk, seqK_ct, dropS_ap, dropK_ap, retS_ap, retK_ap, retN_ap, ifS_ap, ifK_ap, setS_ap, setK_ap, asgS_ap, asgK_ap, asgJ_ap, nameG_ap, nilG_ap, consG_ap, consGK_ap, fnF_ap, fnK_nx, fnK_rt, forS_ap, forK_ap, negD_ap, addI_ap, varK_ap, startE, yes2, isN, List.map_cons, List.map_nil, List.length_cons, List.length_nil, List.replicate, List.append_nil, List.cons_append, List.nil_append, List.getElem?_cons_zero, List.getElem?_cons_succ, List.set_cons_zero, List.set_cons_succ, R.bind_ok, R.bind_ex, R.bind_bad, R.noex_ok, if_true, if_false, Bool.false_eq_true, Bool.true_eq_false, ite_true, ite_false, reduceIte, Nat.reduceAdd, Nat.reduceSub, Nat.zero_add, Nat.sub_self, Nat.sub_zero, decide_true, decide_false, Bool.not_true, Bool.not_false, subD_ap, ltD_ap, leD_ap, gtD_ap, geD_ap, mulD_ap, modD_ap, divD_ap, powD_ap, tupK_ok, lstK_ok, methK_ok, tupG_ok, eqS_t, eqS_f, neS_t, neS_f, eqI_ap, neI_ap, inT_nil, inT_hit, inT_miss, ne_eq, not_false_eq_true, f__law_fits, b__law_fits, dd, p2, tr, same S3 (Le.refl _), eb, wh, ww, sz (by decide : 0 ≤ 100)]
  · rw [outN h0] at lk
    obtain ⟨bs, hbs, hb⟩ : ∃ bs, kinds__law_fits (clsN q) = some bs ∧ bs = [decide (q = 1), decide (q = 2), decide (q = 3), decide (q = 4), decide (q = 5), true, false, false, false, false, false, false, false] := by
      have hc : q = 1 ∨ q = 2 ∨ q = 3 ∨ q = 4 ∨ q = 5 := by omega
      rcases hc with rfl | rfl | rfl | rfl | rfl <;> exact ⟨_, rfl, by decide⟩
    obtain ⟨S4, hS4⟩ : ∃ S, S = S3 ++ [VL.O.lst (bs.map .bl)] := ⟨_, rfl⟩
    have L4 : Le S3 S4 := hS4 ▸ Le.app _ _
    have tr : tryKS 5 7 6 (f_look 80) (consA (varF 0) (consA (varF 4) nilA)) kinds__law_fits [some v, some (.ref m), some (.int w), some (.int q), some (.ref st.length), some .non, some (.ref S1.length), none, none] S2 = .ok (.nx [some v, some (.ref m), some (.int w), some (.int q), some (.ref st.length), some .non, some (.ref S3.length), none, none]) S4 := by
      rw [tryKS_ap fa, lk]
      simp only [tryKK, hbs]
      rw [if_pos (by show 7 < 9; decide), hS4]; rfl
    have r6 : rng2D [.int 1, .int 6] S4 = .ok (intsD 1 1 5, []) S4 := by
      rw [rng2_ok (by decide) (by decide) (by decide) (by decide)]; rfl
    obtain ⟨j, e1⟩ := lcF_all (st := S4) (s := S4) (c := []) (ds := intsD 1 1 5) (it := itA rng2D (consA (cF (.int 1)) (consA (cF (.int 6)) nilA))) (vs := [8]) (gf := nameG 8) (te := opF eqD (varF 3) (varF 8)) (env := [some v, some (.ref m), some (.int w), some (.int q), some (.ref st.length), some .non, some (.ref S3.length), none, none])
      (fun d => match d with | .int k => .bl (decide (q = k)) | _ => .non) (by simp -implicitDefEqProofs +decide only [varF_ap, cF_ap, opF_ap, opK_ap, bF_ap, boolK_ap, andT_ap, andK_ap, orT_ap, orK_ap, notT_ap, notK_ap, yesT_ap, andV_ap, andVK_ap, orV_ap, orVK_ap, notV_ap, notVK_ap, ifF_ap, ifFK_ap, nilA_ap, consA_ap, consK_ap, consJ_ap, tupA_ap, lstA_ap, newO_ap, dicF_ap, callF_ap, un1_ap, methF_ap, nonO_ap, someO_ap, someK_ap, slF_ap, slK_ap, slJ_ap, itF_ap, itA_ap, nilS_ap, bkS_ap, ctS_ap, seqS_ap, seqK_nx, seqK_rt, seqK_bk, seqK_ct, dropS_ap, dropK_ap, retS_ap, retK_ap, retN_ap, ifS_ap, ifK_ap, setS_ap, setK_ap, asgS_ap, asgK_ap, asgJ_ap, nameG_ap, nilG_ap, consG_ap, consGK_ap, fnF_ap, fnK_nx, fnK_rt, forS_ap, forK_ap, negD_ap, addI_ap, varK_ap, startE, yes2, isN, List.map_cons, List.map_nil, List.length_cons, List.length_nil, List.replicate, List.append_nil, List.cons_append, List.nil_append, List.getElem?_cons_zero, List.getElem?_cons_succ, List.set_cons_zero, List.set_cons_succ, R.bind_ok, R.bind_ex, R.bind_bad, R.noex_ok, if_true, if_false, Bool.false_eq_true, Bool.true_eq_false, ite_true, ite_false, reduceIte, Nat.reduceAdd, Nat.reduceSub, Nat.zero_add, Nat.sub_self, Nat.sub_zero, decide_true, decide_false, Bool.not_true, Bool.not_false, subD_ap, ltD_ap, leD_ap, gtD_ap, geD_ap, mulD_ap, modD_ap, divD_ap, powD_ap, tupK_ok, lstK_ok, methK_ok, tupG_ok, eqS_t, eqS_f, neS_t, neS_f, eqI_ap, neI_ap, inT_nil, inT_hit, inT_miss, ne_eq, not_false_eq_true, r6]) chk_nil (by rw [intsD_len, sizeLine_eq']; decide) fun d hd S hS => by
        obtain ⟨i, _, rfl⟩ := ints_mem hd
        exact ⟨_, [], rfl, by rw [List.append_nil]; simp -implicitDefEqProofs +decide only [varF_ap, cF_ap, opF_ap, opK_ap, bF_ap, boolK_ap, andT_ap, andK_ap, orT_ap, orK_ap, notT_ap, notK_ap, yesT_ap, andV_ap, andVK_ap, orV_ap, orVK_ap, notV_ap, notVK_ap, ifF_ap, ifFK_ap, nilA_ap, consA_ap, consK_ap, consJ_ap, tupA_ap, lstA_ap, newO_ap, dicF_ap, callF_ap, un1_ap, methF_ap, nonO_ap, someO_ap, someK_ap, slF_ap, slK_ap, slJ_ap, itF_ap, itA_ap, nilS_ap, bkS_ap, ctS_ap, seqS_ap, seqK_nx, seqK_rt, seqK_bk, seqK_ct, dropS_ap, dropK_ap, retS_ap, retK_ap, retN_ap, ifS_ap, ifK_ap, setS_ap, setK_ap, asgS_ap, asgK_ap, asgJ_ap, nameG_ap, nilG_ap, consG_ap, consGK_ap, fnF_ap, fnK_nx, fnK_rt, forS_ap, forK_ap, negD_ap, addI_ap, varK_ap, startE, yes2, isN, List.map_cons, List.map_nil, List.length_cons, List.length_nil, List.replicate, List.append_nil, List.cons_append, List.nil_append, List.getElem?_cons_zero, List.getElem?_cons_succ, List.set_cons_zero, List.set_cons_succ, R.bind_ok, R.bind_ex, R.bind_bad, R.noex_ok, if_true, if_false, Bool.false_eq_true, Bool.true_eq_false, ite_true, ite_false, reduceIte, Nat.reduceAdd, Nat.reduceSub, Nat.zero_add, Nat.sub_self, Nat.sub_zero, decide_true, decide_false, Bool.not_true, Bool.not_false, subD_ap, ltD_ap, leD_ap, gtD_ap, geD_ap, mulD_ap, modD_ap, divD_ap, powD_ap, tupK_ok, lstK_ok, methK_ok, tupG_ok, eqS_t, eqS_f, neS_t, neS_f, eqI_ap, neI_ap, inT_nil, inT_hit, inT_miss, ne_eq, not_false_eq_true, wipeE]⟩
    have m1 : (intsD 1 1 5).map (fun d => match d with | .int k => VL.D.bl (decide (q = k)) | _ => .non) = [.bl (decide (q = 1)), .bl (decide (q = 2)), .bl (decide (q = 3)), .bl (decide (q = 4)), .bl (decide (q = 5))] := rfl
    rw [m1] at e1
    obtain ⟨five, hfive⟩ : ∃ f, f = [VL.D.bl (decide (q = 1)), .bl (decide (q = 2)), .bl (decide (q = 3)), .bl (decide (q = 4)), .bl (decide (q = 5))] := ⟨_, rfl⟩
    rw [← hfive] at e1
    have q0 : q0__law_fits [some v, some (.ref m), some (.int w), some (.int q), some (.ref st.length), some .non, some (.ref S3.length), none, none] S4 = _ := e1
    obtain ⟨S5, hS5⟩ : ∃ S, S = S4 ++ VL.O.lst five :: j := ⟨_, rfl⟩
    rw [← hS5] at q0
    have L5 : Le S4 S5 := hS5 ▸ Le.app _ _
    obtain ⟨S6, hS6⟩ : ∃ S, S = S5 ++ [VL.O.lst [.bl true]] := ⟨_, rfl⟩
    obtain ⟨S7, hS7⟩ : ∃ S, S = S6 ++ [VL.O.lst (five ++ [.bl true])] := ⟨_, rfl⟩
    obtain ⟨S8, hS8⟩ : ∃ S, S = S7 ++ [VL.O.lst [.bl false]] := ⟨_, rfl⟩
    obtain ⟨S9, hS9⟩ : ∃ S, S = S8 ++ [VL.O.lst (List.replicate 7 (VL.D.bl false))] := ⟨_, rfl⟩
    obtain ⟨S10, hS10⟩ : ∃ S, S = S9 ++ [VL.O.lst ((five ++ [.bl true]) ++ List.replicate 7 (VL.D.bl false))] := ⟨_, rfl⟩
    have L6 : Le S5 S6 := hS6 ▸ Le.app _ _
    have L7 : Le S6 S7 := hS7 ▸ Le.app _ _
    have L8 : Le S7 S8 := hS8 ▸ Le.app _ _
    have L9 : Le S8 S9 := hS9 ▸ Le.app _ _
    have L10 : Le S9 S10 := hS10 ▸ Le.app _ _
    have f5 : five.length = 5 := by rw [hfive]; rfl
    have ad1 : addD (.ref S4.length) (.ref S5.length) S6 = .ok (.ref S6.length) S7 := by
      rw [hS7]
      exact addD_lst (L6.get (hS5 ▸ get_at)) (hS6 ▸ get_last) (by rw [f5, sizeLine_eq']; show 6 ≤ 16777216; decide)
    have rp : repD (.ref S7.length) (.int 7) S8 = .ok (.ref S8.length) S9 := by
      have e : S8[S7.length]? = some (.lst [.bl false]) := hS8 ▸ get_last
      unfold repD
      simp only [e]
      rw [if_pos ⟨by decide, by decide, by rw [sizeLine_eq']; decide⟩, hS9]
      rfl
    have ad2 : addD (.ref S6.length) (.ref S8.length) S9 = .ok (.ref S9.length) S10 := by
      rw [hS10]
      exact addD_lst ((L8.trans L9).get (hS7 ▸ get_last)) (hS9 ▸ get_last) (by rw [List.length_append, f5, List.length_replicate, sizeLine_eq']; show 13 ≤ 16777216; decide)
    have eb : eqBL (.ref S3.length) (.ref S9.length) S10 = .ok (.bl true) S10 := by
      have e1 : listAt S10 S3.length = some (bs.map .bl) := (((((L5.trans L6).trans L7).trans L8).trans L9).trans L10).listAt (hS4 ▸ listAt_last)
      have e2 : listAt S10 S9.length = some (bs.map .bl) := by
        rw [hS10, listAt_last, hb, hfive]; rfl
      simp only [eqBL, e1, e2, Option.bind_some, truO_map, if_true]
    have p6 : S5 ++ [VL.O.lst [.bl true]] = S6 := hS6.symm
    have p8 : S7 ++ [VL.O.lst [.bl false]] = S8 := hS8.symm
    have nz : eqD (.int q) (.int 0) S4 = .ok (.bl false) S4 := by rw [eqI_ap, decide_eq_false h0]
    refine ⟨S10, ?_, ((((((LL.trans L4).trans L5).trans L6).trans L7).trans L8).trans L9).trans L10⟩
    simp -implicitDefEqProofs +decide only [varF_ap, cF_ap, opF_ap, opK_ap, bF_ap, boolK_ap, andT_ap, andK_ap, orT_ap, orK_ap, notT_ap, notK_ap, yesT_ap, andV_ap, andVK_ap, orV_ap, orVK_ap, notV_ap, notVK_ap, ifF_ap, ifFK_ap, nilA_ap, consA_ap, consK_ap, consJ_ap, tupA_ap, lstA_ap, newO_ap, dicF_ap, callF_ap, un1_ap, methF_ap, nonO_ap, someO_ap, someK_ap, slF_ap, slK_ap, slJ_ap, itF_ap, itA_ap, nilS_ap, bkS_ap, ctS_ap, seqS_ap, seqK_nx, seqK_rt, seqK_bk, seqK_ct, dropS_ap, dropK_ap, retS_ap, retK_ap, retN_ap, ifS_ap, ifK_ap, setS_ap, setK_ap, asgS_ap, asgK_ap, asgJ_ap, nameG_ap, nilG_ap, consG_ap, consGK_ap, fnF_ap, fnK_nx, fnK_rt, forS_ap, forK_ap, negD_ap, addI_ap, varK_ap, startE, yes2, isN, List.map_cons, List.map_nil, List.length_cons, List.length_nil, List.replicate, List.append_nil, List.cons_append, List.nil_append, List.getElem?_cons_zero, List.getElem?_cons_succ, List.set_cons_zero, List.set_cons_succ, R.bind_ok, R.bind_ex, R.bind_bad, R.noex_ok, if_true, if_false, Bool.false_eq_true, Bool.true_eq_false, ite_true, ite_false, reduceIte, Nat.reduceAdd, Nat.reduceSub, Nat.zero_add, Nat.sub_self, Nat.sub_zero, decide_true, decide_false, Bool.not_true, Bool.not_false, subD_ap, ltD_ap, leD_ap, gtD_ap, geD_ap, mulD_ap, modD_ap, divD_ap, powD_ap, tupK_ok, lstK_ok, methK_ok, tupG_ok, eqS_t, eqS_f, neS_t, neS_f, eqI_ap, neI_ap, inT_nil, inT_hit, inT_miss, ne_eq, not_false_eq_true, f__law_fits, b__law_fits, dd, p2, tr, same S4 L4, nz, q0, p6, ad1, p8, rp, ad2, eb, sz (by decide : 0 ≤ 100), sz (by decide : 1 ≤ 100)]
end Law

namespace Law
open PySem L2 VL
/-- the dicts in which a view made before step k is good -/
def Gd (n0 : Str) (ns : List Str) (W0 : List (VL.D × VL.D)) (k : Nat) (W : List (VL.D × VL.D)) : Prop := (∀ s ∈ ns, dget W (.str s) = dget W0 (.str s)) ∧ (∀ k', k' < k → dget W (.str (fr n0 k')) = none) ∧ dget W (.str (n0 ++ "q")) = none
theorem Gd.down {n0 : Str} {ns : List Str} {W0 W : List (VL.D × VL.D)} {k j : Nat} (h : Gd n0 ns W0 k W) (hj : j ≤ k) : Gd n0 ns W0 j W := ⟨h.1, fun k' hk => h.2.1 k' (by omega), h.2.2⟩
def TE (n0 : Str) (ns : List Str) (W0 : List (VL.D × VL.D)) (k : Nat) (e : VL.D) : Prop := ∃ w q dp, dp ≤ 26 ∧ En (Gd n0 ns W0 k) w q dp e
theorem TE.up {n0 : Str} {ns : List Str} {W0 : List (VL.D × VL.D)} {k j : Nat} {e : VL.D} (h : TE n0 ns W0 j e) (hj : j ≤ k) : TE n0 ns W0 k e := by
  obtain ⟨w, q, dp, h1, h2⟩ := h
  exact ⟨w, q, dp, h1, h2.mono fun W _ h => h.down hj⟩
def tabT (W : List (VL.D × VL.D)) (d : VL.D) : VL.D := .tup [.tup [.str "name", d], (dget W d).getD .non, .int 0, .int 9, .int 0]
theorem q_len {n0 : Str} : (n0 ++ "q" : Str).length = n0.length + 1 := by
  rw [Str.length_append]
  have : (Str.ofString "q").length = 1 := by decide +kernel
  rw [this]
theorem true_law : ∀ ns : List Int, ns.length ≤ 63 → ∃ st, f_law [.ref 0] [.rl (ns.map VL.D.int)] = .ok (.bl true) st := fun sc hsc => by
  have h0 : listAt [VL.O.rl (sc.map VL.D.int)] 0 = some (sc.map VL.D.int) := rfl
  generalize [VL.O.rl (sc.map VL.D.int)] = T0 at h0
  have v4 : (4 : Int).natAbs.log2 < 9000 := by decide +kernel
  have v19 : (19 : Int).natAbs.log2 < 9000 := by decide +kernel
  have v38 : (38 : Int).natAbs.log2 < 9000 := by decide +kernel
  obtain ⟨r, ns, m, T1, q1, L1, g1, hn4, hm1, hm2, hN⟩ := names_ok (c := sc.getD 0 0) (st := T0)
  obtain ⟨n0, ns', hns⟩ : ∃ n0 ns', ns = n0 :: ns' := by
    cases ns with
    | nil => cases hn4
    | cons a l => exact ⟨a, l, rfl⟩
  have hn0 : n0 ∈ ns := hns ▸ List.mem_cons_self
  have hl0 := (hN n0 hn0).len
  have ca : ∀ S, Le T0 S → ∀ k : Nat, f__law_cell_at [.ref 0, .int k] S = .ok (.int (sc.getD k 0)) S := fun S h k => cell_at_ok (h.listAt h0)
  have ca0 : f__law_cell_at [.ref 0, .int 0] T0 = .ok (.int (sc.getD 0 0)) T0 := ca _ (Le.refl _) 0
  obtain ⟨T3, hT3⟩ : ∃ S, S = T1 ++ [VL.O.dic []] := ⟨_, rfl⟩
  have L3 : Le T1 T3 := hT3 ▸ Le.app _ _
  have ga : T3[T1.length]? = some (.dic []) := hT3 ▸ get_last
  have r4 : rng1D [.int 4] T3 = .ok (intsD 0 1 4, []) T3 := rng1_ok (w := 4) (by decide)
  obtain ⟨e', T4, f4, z, W, he, L4, gW, iW⟩ := forL_inv (c := []) (gf := nameG 3) (b := l0_law) (ds := intsD 0 1 4) (env := [some (.ref 0), some (.ref r), some (.ref T1.length), none, none, none, none, none, none, none, none]) (st := T3)
    (fun i env S => ∃ z W, env = [some (.ref 0), some (.ref r), some (.ref T1.length), z, none, none, none, none, none, none, none] ∧ Le T1 S ∧ S[T1.length]? = some (.dic W) ∧ DicI ns i 12 W)
    ⟨none, [], rfl, L3, ga, .nil⟩ (fun _ _ _ _ => ChkOk.nil) fun i x env S hi ⟨z, W, he, LS, gW, iW⟩ => by
      subst he
      obtain ⟨hi4, rfl⟩ := intsD_get hi
      obtain ⟨s, hs⟩ : ∃ s, ns[i]? = some s := ⟨_, List.getElem?_eq_getElem (by omega)⟩
      have e0 : (0 : Int) + (i : Nat) * 1 = (i : Nat) := by omega
      rw [e0]
      have c1 : f__law_cell_at [.ref 0, .int (1 + (i : Nat))] S = .ok (.int (sc.getD (1 + i) 0)) S := by
        rw [show (1 : Int) + (i : Nat) = ((1 + i : Nat) : Int) by omega]
        exact ca S (L1.trans LS) _
      have ix : ixD (.ref r) (.int (i : Nat)) S = .ok (.str s) S := ixD_list (LS.listAt (listAt_lst g1)) (by rw [List.getElem?_map, hs]; rfl)
      generalize sc.getD (1 + i) 0 = c at c1
      have lt1 : decide (W.length < sizeLine) = true := decide_eq_true (by have := iW.len; rw [sizeLine_eq']; omega)
      obtain ⟨W', hW'⟩ : ∃ W', W' = dput W (.str s) (.int (1 + c % 12)) := ⟨_, rfl⟩
      have hWl := (List.getElem?_eq_some_iff.mp gW).1
      have p1 : dputS (opF addD (cF (.int 1)) (opF modD (callF f__law_cell_at (consA (varF 0) (consA (opF addD (cF (.int 1)) (varF 3)) nilA))) (cF (.int 12)))) (varF 2) (opF ixD (varF 1) (varF 3)) [some (.ref 0), some (.ref r), some (.ref T1.length), some (.int (i : Nat)), none, none, none, none, none, none, none] S = .ok (.nx [some (.ref 0), some (.ref r), some (.ref T1.length), some (.int (i : Nat)), none, none, none, none, none, none, none]) (S.set T1.length (.dic W')) := by
        unfold dputS
        simp -implicitDefEqProofs +decide only [varF_ap, cF_ap, opF_ap, opK_ap, bF_ap, boolK_ap, andT_ap, andK_ap, orT_ap, orK_ap, notT_ap, notK_ap, yesT_ap, andV_ap, andVK_ap, orV_ap, orVK_ap, notV_ap, notVK_ap, ifF_ap, ifFK_ap, nilA_ap, consA_ap, consK_ap, consJ_ap, tupA_ap, lstA_ap, newO_ap, dicF_ap, callF_ap, un1_ap, methF_ap, nonO_ap, someO_ap, someK_ap, slF_ap, slK_ap, slJ_ap, itF_ap, itA_ap, nilS_ap, bkS_ap, ctS_ap, seqS_ap, seqK_nx, seqK_rt, seqK_bk, seqK_ct, dropS_ap, dropK_ap, retS_ap, retK_ap, retN_ap, ifS_ap, ifK_ap, setS_ap, setK_ap, asgS_ap, asgK_ap, asgJ_ap, nameG_ap, nilG_ap, consG_ap, consGK_ap, fnF_ap, fnK_nx, fnK_rt, forS_ap, forK_ap, negD_ap, addI_ap, varK_ap, startE, yes2, isN, List.map_cons, List.map_nil, List.length_cons, List.length_nil, List.replicate, List.append_nil, List.cons_append, List.nil_append, List.getElem?_cons_zero, List.getElem?_cons_succ, List.set_cons_zero, List.set_cons_succ, R.bind_ok, R.bind_ex, R.bind_bad, R.noex_ok, if_true, if_false, Bool.false_eq_true, Bool.true_eq_false, ite_true, ite_false, reduceIte, Nat.reduceAdd, Nat.reduceSub, Nat.zero_add, Nat.sub_self, Nat.sub_zero, decide_true, decide_false, Bool.not_true, Bool.not_false, subD_ap, ltD_ap, leD_ap, gtD_ap, geD_ap, mulD_ap, modD_ap, divD_ap, powD_ap, tupK_ok, lstK_ok, methK_ok, tupG_ok, eqS_t, eqS_f, neS_t, neS_f, eqI_ap, neI_ap, inT_nil, inT_hit, inT_miss, ne_eq, not_false_eq_true, c1, ix]
        simp only [gW, iW.ok, isKD, lt1, Bool.and_self, if_true, hW']
      refine ⟨_, _, [some (.ref 0), some (.ref r), some (.ref T1.length), some (.int (i : Nat)), none, none, none, none, none, none, none], S.set T1.length (.dic W'), rfl, p1, _, W', rfl, LS.set (Nat.le_refl _), by rw [List.getElem?_set_self hWl], hW' ▸ iW.put hs (by omega) (by omega)⟩
  rw [intsD_len] at iW
  subst he
  have nW : ∀ s ∈ ns, ∃ w : Int, dget W (.str s) = some (.int w) ∧ 1 ≤ w ∧ w ≤ 12 := fun s hs => by
    obtain ⟨j, hj⟩ := List.getElem?_of_mem hs
    exact iW.val j s (by have := (List.getElem?_eq_some_iff.mp hj).1; omega) hj
  have gn : listAt T4 r = some (ns.map .str) := L4.listAt (listAt_lst g1)
  obtain ⟨j5, e5⟩ := lcF_all (st := T4) (s := T4) (c := chkAt T4 r) (ds := ns.map .str) (it := itF (varF 1)) (vs := [5]) (gf := nameG 5) (te := tupA (consA (tupA (consA (cF (.str "name")) (consA (varF 5) nilA))) (consA (opF dixD (varF 2) (varF 5)) (consA (cF (.int 0)) (consA (cF (.int 9)) (consA (cF (.int 0)) nilA)))))) (env := [some (.ref 0), some (.ref r), some (.ref T1.length), z, none, none, none, none, none, none, none])
    (tabT W) (by simp -implicitDefEqProofs only [varF_ap, cF_ap, opF_ap, opK_ap, bF_ap, boolK_ap, andT_ap, andK_ap, orT_ap, orK_ap, notT_ap, notK_ap, yesT_ap, andV_ap, andVK_ap, orV_ap, orVK_ap, notV_ap, notVK_ap, ifF_ap, ifFK_ap, nilA_ap, consA_ap, consK_ap, consJ_ap, tupA_ap, tupK_ap, lstA_ap, lstK_ap, newO_ap, dicF_ap, callF_ap, un1_ap, methF_ap, methK_ap, nonO_ap, someO_ap, someK_ap, slF_ap, slK_ap, slJ_ap, itF_ap, itA_ap, nilS_ap, bkS_ap, ctS_ap, seqS_ap, seqK_nx, seqK_rt, seqK_bk, seqK_ct, dropS_ap, dropK_ap, retS_ap, retK_ap, retN_ap, ifS_ap, ifK_ap, setS_ap, setK_ap, asgS_ap, asgK_ap, asgJ_ap, nameG_ap, nilG_ap, consG_ap, consGK_ap, tupG_ap, fnF_ap, fnK_nx, fnK_rt, forS_ap, forK_ap, intD_ap, negD_ap, addI_ap, varK_ap, startE, yes2, isN, List.map_cons, List.map_nil, List.length_cons, List.length_nil, List.replicate, List.append_nil, List.cons_append, List.nil_append, List.getElem?_cons_zero, List.getElem?_cons_succ, List.set_cons_zero, List.set_cons_succ, R.bind_ok, R.bind_ex, R.bind_bad, R.noex_ok, if_true, if_false, Bool.false_eq_true, Bool.true_eq_false, ite_true, ite_false, reduceIte, Nat.reduceAdd, Nat.reduceSub, Nat.zero_add, Nat.sub_self, Nat.sub_zero, decide_true, decide_false, Bool.not_true, Bool.not_false, itD_list gn]) chk_at (by rw [List.length_map, sizeLine_eq']; omega) fun d hd S hS => by
      obtain ⟨s, hs, rfl⟩ := List.mem_map.mp hd
      obtain ⟨w, hw, _⟩ := nW s hs
      have x1 : dixD (.ref T1.length) (.str s) S = .ok (.int w) S := by simp only [dixD, hS.get gW, iW.ok, isKD, Bool.and_self, if_true, hw]
      exact ⟨_, [], rfl, by rw [List.append_nil]; simp -implicitDefEqProofs +decide only [varF_ap, cF_ap, opF_ap, opK_ap, bF_ap, boolK_ap, andT_ap, andK_ap, orT_ap, orK_ap, notT_ap, notK_ap, yesT_ap, andV_ap, andVK_ap, orV_ap, orVK_ap, notV_ap, notVK_ap, ifF_ap, ifFK_ap, nilA_ap, consA_ap, consK_ap, consJ_ap, tupA_ap, lstA_ap, newO_ap, dicF_ap, callF_ap, un1_ap, methF_ap, nonO_ap, someO_ap, someK_ap, slF_ap, slK_ap, slJ_ap, itF_ap, itA_ap, nilS_ap, bkS_ap, ctS_ap, seqS_ap, seqK_nx, seqK_rt, seqK_bk, seqK_ct, dropS_ap, dropK_ap, retS_ap, retK_ap, retN_ap, ifS_ap, ifK_ap, setS_ap, setK_ap, asgS_ap, asgK_ap, asgJ_ap, nameG_ap, nilG_ap, consG_ap, consGK_ap, fnF_ap, fnK_nx, fnK_rt, forS_ap, forK_ap, negD_ap, addI_ap, varK_ap, startE, yes2, isN, List.map_cons, List.map_nil, List.length_cons, List.length_nil, List.replicate, List.append_nil, List.cons_append, List.nil_append, List.getElem?_cons_zero, List.getElem?_cons_succ, List.set_cons_zero, List.set_cons_succ, R.bind_ok, R.bind_ex, R.bind_bad, R.noex_ok, if_true, if_false, Bool.false_eq_true, Bool.true_eq_false, ite_true, ite_false, reduceIte, Nat.reduceAdd, Nat.reduceSub, Nat.zero_add, Nat.sub_self, Nat.sub_zero, decide_true, decide_false, Bool.not_true, Bool.not_false, subD_ap, ltD_ap, leD_ap, gtD_ap, geD_ap, mulD_ap, modD_ap, divD_ap, powD_ap, tupK_ok, lstK_ok, methK_ok, tupG_ok, eqS_t, eqS_f, neS_t, neS_f, eqI_ap, neI_ap, inT_nil, inT_hit, inT_miss, ne_eq, not_false_eq_true, wipeE, x1, tabT, hw, Option.getD_some, sz (by decide : 2 ≤ 100), sz (by decide : 5 ≤ 100)]⟩
  have q5 : q0_law [some (.ref 0), some (.ref r), some (.ref T1.length), z, none, none, none, none, none, none, none] T4 = _ := e5
  obtain ⟨tabs, htabs⟩ : ∃ t, t = (ns.map VL.D.str).map (tabT W) := ⟨_, rfl⟩
  rw [← htabs] at q5
  have tl : tabs.length = 4 := by rw [htabs, List.length_map, List.length_map, hn4]
  obtain ⟨ent, hent⟩ : ∃ e, e = VL.D.tup [.tup [.str "name", .str (n0 ++ "q")], .int 2, .int 1, .int 9, .int 0] := ⟨_, rfl⟩
  obtain ⟨T4', hT4'⟩ : ∃ S, S = T4 ++ VL.O.lst tabs :: j5 := ⟨_, rfl⟩
  obtain ⟨T5, hT5⟩ : ∃ S, S = T4 ++ VL.O.lst (tabs ++ [ent]) :: j5 := ⟨_, rfl⟩
  have i0 : ixD (.ref r) (.int 0) T4' = .ok (.str n0) T4' := ixD_list (k := 0) (hT4' ▸ listAt_app gn) (by rw [hns]; rfl)
  have aq : ∀ S, addD (.str n0) (.str "q") S = .ok (.str (n0 ++ "q")) S := fun S => addS (by
    have : (Str.ofString "q").length = 1 := by decide +kernel
    rw [this]; omega)
  have ty : tyD "list" (VL.D.ref T4.length) T4' := tyD_list (hT4' ▸ listAt_at)
  have ap : appD (.ref T4.length) [ent] T4' = .ok .non T5 := by
    rw [appD_ok (hT4' ▸ get_at) (by rw [tl, sizeLine_eq']; decide), hT4', hT5, set_at]
  rw [← hT4'] at q5
  have L5 : Le T4 T5 := hT5 ▸ Le.app _ _
  have g5 : listAt T5 T4.length = some (tabs ++ [ent]) := hT5 ▸ listAt_at
  have LT5 : Le T1 T5 := L4.trans L5
  have tab : ∀ s ∈ ns, ∀ k, TE n0 ns W k (tabT W (.str s)) := fun s hs k => by
    obtain ⟨w, hw, hw1, hw2⟩ := nW s hs
    exact ⟨w, 0, 0, by decide, .tup [.str "name", .str s], 9, 0, by unfold tabT; rw [hw]; rfl, rfl, hw1, hw2, by decide, by decide, look_name.mono fun W' _ h => by rw [h.1 s hs]; exact hw⟩
  have tabq : ∀ k, TE n0 ns W k ent := fun k => ⟨2, 1, 0, by decide, .tup [.str "name", .str (n0 ++ "q")], 9, 0, hent, rfl, by decide, by decide, by decide, by decide, look_noname.mono fun W' _ h => h.2.2⟩
  have pick : ∀ i : Int, 0 ≤ i → i < 5 → ∃ e, (∀ k, TE n0 ns W k e) ∧ ∀ S, Le T5 S → ixD (.ref T4.length) (.int i) S = .ok e S := fun i hi1 hi2 => by
    obtain ⟨k, rfl⟩ : ∃ k : Nat, i = k := ⟨i.toNat, by omega⟩
    by_cases h4 : k < 4
    · obtain ⟨s, hs⟩ : ∃ s, ns[k]? = some s := ⟨_, List.getElem?_eq_getElem (by omega)⟩
      exact ⟨_, tab s (List.mem_of_getElem? hs), fun S h => ixD_list (h.listAt g5) (by rw [List.getElem?_append_left (by omega), htabs, List.getElem?_map, List.getElem?_map, hs]; rfl)⟩
    · exact ⟨_, tabq, fun S h => ixD_list (h.listAt g5) (by rw [List.getElem?_append_right (by omega), show k - tabs.length = 0 by omega]; rfl)⟩
  have L05 : Le T0 T5 := L1.trans LT5
  have ca5 : f__law_cell_at [.ref 0, .int 5] T5 = .ok (.int (sc.getD 5 0)) T5 := ca _ L05 5
  obtain ⟨now0, n1, n2⟩ := pick (sc.getD 5 0 % 4) (by omega) (by omega)
  obtain ⟨kept0, p1, p2⟩ := pick (sc.getD 5 0 / 4 % 5) (by omega) (by omega)
  have ln : lenD [.ref 0] T5 = .ok (.int sc.length) T5 := by rw [lenD_list (L05.listAt h0), List.length_map]
  obtain ⟨mm, hmm, hmm2⟩ : ∃ mm : Nat, (min (sc.length : Int) 63 - 6).toNat = mm ∧ mm + 6 ≤ max 6 sc.length := ⟨_, rfl, by omega⟩
  have rg : rng2D [.int 6, .int (min (sc.length : Int) 63)] T5 = .ok (intsD 6 1 mm, []) T5 := by
    rw [rng2_ok (by decide) (by decide) (by omega) (by omega), hmm]
  have r64 : ∀ x : Int, VL.MulOk 64 x := mul_l (by decide)
  have gWS : ∀ S, Le T5 S → S[T1.length]? = some (.dic W) := fun S h => (L5.trans h).get gW
  have iWl : W.length ≤ 4 := iW.len
  have GW : ∀ k, Gd n0 ns W k W := fun k => ⟨fun _ _ => rfl, fun k' _ => iW.none (keys_ne hN hn0).1, iW.none fun s hs => ne_len (by rw [q_len, (hN s hs).len]; omega)⟩
  have fits : ∀ k e S, TE n0 ns W k e → Le T5 S → ∃ v w q g dq S', e = .tup [v, .int w, .int q, .int g, .int dq] ∧ f__law_fits [v, .ref T1.length, .int w, .int q] S = .ok (.bl true) S' ∧ Le S S' := fun k e S ⟨w, q, dp, hdp, v, g, dq, he, hdq, b1, b2, b3, b4, hv⟩ hS => by
    obtain ⟨S', f1, f2⟩ := fits_ok hv hdp b3 b4 (gWS S hS) iW.ok iWl iW.nd iW.fl (GW k)
    exact ⟨v, w, q, g, dq, S', he, f1, f2⟩
  obtain ⟨TL, hTL⟩ : ∃ TL : SF, TL = ifS (orT (bF (opF gtD (opF ixD (varF 6) (cF (.int 3))) (cF (.int 1900)))) (bF (opF gtD (opF ixD (varF 6) (cF (.int 4))) (cF (.int 25))))) (seqS (ifS (notT (bF (callF f__law_fits (consA (opF ixD (varF 10) (cF (.int 0))) (consA (varF 2) (consA (opF ixD (varF 10) (cF (.int 1))) (consA (opF ixD (varF 10) (cF (.int 2))) nilA))))))) (retS (cF (.bl false))) nilS)
    (setS 6 (opF ixD (varF 4) (opF modD (opF divD (varF 9) (cF (.int 19))) (cF (.int 4)))))) nilS := ⟨_, rfl⟩
  have l1e : l1_law = seqS (setS 9 (opF ixD (varF 0) (varF 8)))
    (seqS (setS 10 (varF 6))
    (seqS (ifS (bF (opF ltD (opF modD (varF 9) (cF (.int 19))) (cF (.int 3)))) (seqS (setS 7 (varF 6))
    (setS 6 (opF ixD (varF 4) (opF ixD (lstA (consA (opF modD (opF divD (varF 9) (cF (.int 19))) (cF (.int 4))) (consA (cF (.int 4)) nilA))) (callF int1D (consA (opF eqD (opF modD (varF 9) (cF (.int 19))) (cF (.int 2))) nilA)))))) (setS 6 (callF f__law_next (consA (varF 9) (consA (callF f__law_mixed (consA (opF addD (opF mulD (cF (.int 64)) (varF 9)) (varF 8)) nilA)) (consA (varF 6) (consA (varF 7) (consA (callF f__law_fresh (consA (varF 1) (consA (varF 8) nilA))) (consA (opF ixD (varF 1) (opF modD (opF divD (varF 9) (cF (.int 38))) (cF (.int 4)))) nilA))))))))) TL)) := by rw [hTL]; rfl
  -- the steps
  obtain ⟨e', T6, f6, now, kept, e8, e9, e10, rfl, L6, kn, kk⟩ := forL_inv (c := []) (gf := nameG 8) (b := l1_law) (ds := intsD 6 1 mm) (env := [some (.ref 0), some (.ref r), some (.ref T1.length), z, some (.ref T4.length), none, some now0, some kept0, none, none, none]) (st := T5)
    (fun i env S => ∃ now kept e8 e9 e10, env = [some (.ref 0), some (.ref r), some (.ref T1.length), z, some (.ref T4.length), none, some now, some kept, e8, e9, e10] ∧ Le T5 S ∧ TE n0 ns W (6 + i) now ∧ TE n0 ns W (6 + i) kept)
    ⟨now0, kept0, none, none, none, rfl, Le.refl _, n1 _, p1 _⟩ (fun _ _ _ _ => ChkOk.nil) fun i x env S hi ⟨now, kept, e8, e9, e10, he, LS, kn, kk⟩ => by
      subst he
      obtain ⟨him, rfl⟩ := intsD_get hi
      rw [show (6 : Int) + (i : Nat) * 1 = ((6 + i : Nat) : Int) by omega]
      have hk6 : 6 + i < sc.length := by omega
      obtain ⟨c, hc⟩ : ∃ c, sc[6 + i]? = some c := ⟨_, List.getElem?_eq_getElem hk6⟩
      have ic : ixD (.ref 0) (.int ((6 + i : Nat) : Int)) S = .ok (.int c) S := ixD_list ((L05.trans LS).listAt h0) (by rw [List.getElem?_map, hc]; rfl)
      obtain ⟨t, t1, t2⟩ := pick (c / 19 % 4) (by omega) (by omega)
      have tail : ∀ (nw kp : VL.D) (S' : Sto), Le T5 S' → (∃ w q dp, En (Gd n0 ns W (6 + i + 1)) w q dp nw) → ∃ nw' S2, TE n0 ns W (6 + (i + 1)) nw' ∧ Le S' S2 ∧
          TL [some (.ref 0), some (.ref r), some (.ref T1.length), z, some (.ref T4.length), none, some nw, some kp, some (.int ((6 + i : Nat) : Int)), some (.int c), some now] S' = .ok (.nx [some (.ref 0), some (.ref r), some (.ref T1.length), z, some (.ref T4.length), none, some nw', some kp, some (.int ((6 + i : Nat) : Int)), some (.int c), some now]) S2 := by
        intro nw kp S' hS' ⟨w, q, dp, v, g, dq, hnow, hq, b1, b2, b3, b4, b5⟩
        have j3 : ixD nw (.int 3) S' = .ok (.int g) S' := by rw [hnow]; exact jx3
        have j4 : ixD nw (.int 4) S' = .ok (.int dq) S' := by rw [hnow]; exact jx4
        obtain ⟨v', w', q', g', dq', S2, hlast, ft, ls⟩ := fits (6 + i) now S' kn hS'
        have a0 : ∀ S, ixD now (.int 0) S = .ok v' S := fun S => by rw [hlast]; exact jx0
        have a1 : ∀ S, ixD now (.int 1) S = .ok (.int w') S := fun S => by rw [hlast]; exact jx1
        have a2 : ∀ S, ixD now (.int 2) S = .ok (.int q') S := fun S => by rw [hlast]; exact jx2
        by_cases c1 : g > 1900
        · have d1 : decide (g > 1900) = true := decide_eq_true c1
          exact ⟨t, S2, t1 _, ls, by rw [hTL]; simp -implicitDefEqProofs +decide only [varF_ap, cF_ap, opF_ap, opK_ap, bF_ap, boolK_ap, andT_ap, andK_ap, orT_ap, orK_ap, notT_ap, notK_ap, yesT_ap, andV_ap, andVK_ap, orV_ap, orVK_ap, notV_ap, notVK_ap, ifF_ap, ifFK_ap, nilA_ap, consA_ap, consK_ap, consJ_ap, tupA_ap, lstA_ap, newO_ap, dicF_ap, callF_ap, un1_ap, methF_ap, nonO_ap, someO_ap, someK_ap, slF_ap, slK_ap, slJ_ap, itF_ap, itA_ap, nilS_ap, bkS_ap, ctS_ap, seqS_ap, seqK_nx, seqK_rt, seqK_bk, seqK_ct, dropS_ap, dropK_ap, retS_ap, retK_ap, retN_ap, ifS_ap, ifK_ap, setS_ap, setK_ap, asgS_ap, asgK_ap, asgJ_ap, nameG_ap, nilG_ap, consG_ap, consGK_ap, fnF_ap, fnK_nx, fnK_rt, forS_ap, forK_ap, negD_ap, addI_ap, varK_ap, startE, yes2, isN, List.map_cons, List.map_nil, List.length_cons, List.length_nil, List.replicate, List.append_nil, List.cons_append, List.nil_append, List.getElem?_cons_zero, List.getElem?_cons_succ, List.set_cons_zero, List.set_cons_succ, R.bind_ok, R.bind_ex, R.bind_bad, R.noex_ok, if_true, if_false, Bool.false_eq_true, Bool.true_eq_false, ite_true, ite_false, reduceIte, Nat.reduceAdd, Nat.reduceSub, Nat.zero_add, Nat.sub_self, Nat.sub_zero, decide_true, decide_false, Bool.not_true, Bool.not_false, subD_ap, ltD_ap, leD_ap, gtD_ap, geD_ap, mulD_ap, modD_ap, divD_ap, powD_ap, tupK_ok, lstK_ok, methK_ok, tupG_ok, eqS_t, eqS_f, neS_t, neS_f, eqI_ap, neI_ap, inT_nil, inT_hit, inT_miss, ne_eq, not_false_eq_true, j3, j4, d1, a0, a1, a2, ft, v19, t2 S2 (hS'.trans ls)]⟩
        · have d1 : decide (g > 1900) = false := decide_eq_false c1
          by_cases c2 : dq > 25
          · have d2 : decide (dq > 25) = true := decide_eq_true c2
            exact ⟨t, S2, t1 _, ls, by rw [hTL]; simp -implicitDefEqProofs +decide only [varF_ap, cF_ap, opF_ap, opK_ap, bF_ap, boolK_ap, andT_ap, andK_ap, orT_ap, orK_ap, notT_ap, notK_ap, yesT_ap, andV_ap, andVK_ap, orV_ap, orVK_ap, notV_ap, notVK_ap, ifF_ap, ifFK_ap, nilA_ap, consA_ap, consK_ap, consJ_ap, tupA_ap, lstA_ap, newO_ap, dicF_ap, callF_ap, un1_ap, methF_ap, nonO_ap, someO_ap, someK_ap, slF_ap, slK_ap, slJ_ap, itF_ap, itA_ap, nilS_ap, bkS_ap, ctS_ap, seqS_ap, seqK_nx, seqK_rt, seqK_bk, seqK_ct, dropS_ap, dropK_ap, retS_ap, retK_ap, retN_ap, ifS_ap, ifK_ap, setS_ap, setK_ap, asgS_ap, asgK_ap, asgJ_ap, nameG_ap, nilG_ap, consG_ap, consGK_ap, fnF_ap, fnK_nx, fnK_rt, forS_ap, forK_ap, negD_ap, addI_ap, varK_ap, startE, yes2, isN, List.map_cons, List.map_nil, List.length_cons, List.length_nil, List.replicate, List.append_nil, List.cons_append, List.nil_append, List.getElem?_cons_zero, List.getElem?_cons_succ, List.set_cons_zero, List.set_cons_succ, R.bind_ok, R.bind_ex, R.bind_bad, R.noex_ok, if_true, if_false, Bool.false_eq_true, Bool.true_eq_false, ite_true, ite_false, reduceIte, Nat.reduceAdd, Nat.reduceSub, Nat.zero_add, Nat.sub_self, Nat.sub_zero, decide_true, decide_false, Bool.not_true, Bool.not_false, subD_ap, ltD_ap, leD_ap, gtD_ap, geD_ap, mulD_ap, modD_ap, divD_ap, powD_ap, tupK_ok, lstK_ok, methK_ok, tupG_ok, eqS_t, eqS_f, neS_t, neS_f, eqI_ap, neI_ap, inT_nil, inT_hit, inT_miss, ne_eq, not_false_eq_true, j3, j4, d1, d2, a0, a1, a2, ft, v19, t2 S2 (hS'.trans ls)]⟩
          · have d2 : decide (dq > 25) = false := decide_eq_false c2
            exact ⟨nw, S', ⟨w, q, dp, by omega, v, g, dq, hnow, hq, b1, b2, b3, b4, b5⟩, Le.refl _, by rw [hTL]; simp -implicitDefEqProofs +decide only [varF_ap, cF_ap, opF_ap, opK_ap, bF_ap, boolK_ap, andT_ap, andK_ap, orT_ap, orK_ap, notT_ap, notK_ap, yesT_ap, andV_ap, andVK_ap, orV_ap, orVK_ap, notV_ap, notVK_ap, ifF_ap, ifFK_ap, nilA_ap, consA_ap, consK_ap, consJ_ap, tupA_ap, lstA_ap, newO_ap, dicF_ap, callF_ap, un1_ap, methF_ap, nonO_ap, someO_ap, someK_ap, slF_ap, slK_ap, slJ_ap, itF_ap, itA_ap, nilS_ap, bkS_ap, ctS_ap, seqS_ap, seqK_nx, seqK_rt, seqK_bk, seqK_ct, dropS_ap, dropK_ap, retS_ap, retK_ap, retN_ap, ifS_ap, ifK_ap, setS_ap, setK_ap, asgS_ap, asgK_ap, asgJ_ap, nameG_ap, nilG_ap, consG_ap, consGK_ap, fnF_ap, fnK_nx, fnK_rt, forS_ap, forK_ap, negD_ap, addI_ap, varK_ap, startE, yes2, isN, List.map_cons, List.map_nil, List.length_cons, List.length_nil, List.replicate, List.append_nil, List.cons_append, List.nil_append, List.getElem?_cons_zero, List.getElem?_cons_succ, List.set_cons_zero, List.set_cons_succ, R.bind_ok, R.bind_ex, R.bind_bad, R.noex_ok, if_true, if_false, Bool.false_eq_true, Bool.true_eq_false, ite_true, ite_false, reduceIte, Nat.reduceAdd, Nat.reduceSub, Nat.zero_add, Nat.sub_self, Nat.sub_zero, decide_true, decide_false, Bool.not_true, Bool.not_false, subD_ap, ltD_ap, leD_ap, gtD_ap, geD_ap, mulD_ap, modD_ap, divD_ap, powD_ap, tupK_ok, lstK_ok, methK_ok, tupG_ok, eqS_t, eqS_f, neS_t, neS_f, eqI_ap, neI_ap, inT_nil, inT_hit, inT_miss, ne_eq, not_false_eq_true, j3, j4, d1, d2]⟩
      by_cases hc2 : c % 19 < 3
      · have d : decide (c % 19 < 3) = true := decide_eq_true hc2
        obtain ⟨i5, hi5, ixp⟩ : ∃ i5 : Int, (0 ≤ i5 ∧ i5 < 5) ∧ ∀ S : Sto, ixD (.ref S.length) (.int (if decide (c % 19 = 2) = true then 1 else 0)) (S ++ [.lst [.int (c / 19 % 4), .int 4]]) = .ok (.int i5) (S ++ [.lst [.int (c / 19 % 4), .int 4]]) := by
          by_cases h : c % 19 = 2
          · exact ⟨4, by decide, fun S => by rw [if_pos (decide_eq_true h)]; exact ixL (k := 1) rfl rfl⟩
          · exact ⟨c / 19 % 4, by omega, fun S => by rw [if_neg (by rw [decide_eq_false h]; exact Bool.false_ne_true)]; exact ixL (k := 0) rfl rfl⟩
        obtain ⟨t', t1', t2'⟩ := pick i5 hi5.1 hi5.2
        obtain ⟨w, q, dp, _, hE⟩ := t1' (6 + i + 1)
        obtain ⟨now', S2, k1, lk, k2⟩ := tail t' now (S ++ [.lst [.int (c / 19 % 4), .int 4]]) (LS.trans (Le.app _ _)) ⟨w, q, dp, hE⟩
        have t3 := t2' (S ++ [.lst [.int (c / 19 % 4), .int 4]]) (LS.trans (Le.app _ _))
        exact ⟨_, _, _, S2, rfl, by simp -implicitDefEqProofs +decide only [varF_ap, cF_ap, opF_ap, opK_ap, bF_ap, boolK_ap, andT_ap, andK_ap, orT_ap, orK_ap, notT_ap, notK_ap, yesT_ap, andV_ap, andVK_ap, orV_ap, orVK_ap, notV_ap, notVK_ap, ifF_ap, ifFK_ap, nilA_ap, consA_ap, consK_ap, consJ_ap, tupA_ap, lstA_ap, newO_ap, dicF_ap, callF_ap, un1_ap, methF_ap, nonO_ap, someO_ap, someK_ap, slF_ap, slK_ap, slJ_ap, itF_ap, itA_ap, nilS_ap, bkS_ap, ctS_ap, seqS_ap, seqK_nx, seqK_rt, seqK_bk, seqK_ct, dropS_ap, dropK_ap, retS_ap, retK_ap, retN_ap, ifS_ap, ifK_ap, setS_ap, setK_ap, asgS_ap, asgK_ap, asgJ_ap, nameG_ap, nilG_ap, consG_ap, consGK_ap, fnF_ap, fnK_nx, fnK_rt, forS_ap, forK_ap, negD_ap, addI_ap, varK_ap, startE, yes2, isN, List.map_cons, List.map_nil, List.length_cons, List.length_nil, List.replicate, List.append_nil, List.cons_append, List.nil_append, List.getElem?_cons_zero, List.getElem?_cons_succ, List.set_cons_zero, List.set_cons_succ, R.bind_ok, R.bind_ex, R.bind_bad, R.noex_ok, if_true, if_false, Bool.false_eq_true, Bool.true_eq_false, ite_true, ite_false, reduceIte, Nat.reduceAdd, Nat.reduceSub, Nat.zero_add, Nat.sub_self, Nat.sub_zero, decide_true, decide_false, Bool.not_true, Bool.not_false, subD_ap, ltD_ap, leD_ap, gtD_ap, geD_ap, mulD_ap, modD_ap, divD_ap, powD_ap, tupK_ok, lstK_ok, methK_ok, tupG_ok, eqS_t, eqS_f, neS_t, neS_f, eqI_ap, neI_ap, inT_nil, inT_hit, inT_miss, ne_eq, not_false_eq_true, l1e, ic, d, v19, tf, ixp, t3, k2, sz (by decide : 2 ≤ 100)], now', now, some (.int ((6 + i : Nat) : Int)), some (.int c), some now, rfl, (LS.trans (Le.app _ _)).trans lk, k1, kn.up (by omega)⟩
      · have d : decide (c % 19 < 3) = false := decide_eq_false hc2
        obtain ⟨x, qx, da, _, ha⟩ := kn
        obtain ⟨y, qy, db, hdb, hb⟩ := kk
        have gr : listAt S r = some (ns.map .str) := (LT5.trans LS).listAt (listAt_lst g1)
        have fresh := fresh_ok (S := S) (r := r) (n0 := n0) (ns := ns') (k := 6 + i) (by rw [← hns]; exact gr) (by omega)
        have mx := mixed_ok (c := 64 * c + ((6 + i : Nat) : Int)) (st := S)
        obtain ⟨kn1, kn2⟩ := keys_ne (k := 6 + i) hN hn0
        obtain ⟨k38, hk38⟩ : ∃ k : Nat, c / 38 % 4 = k := ⟨(c / 38 % 4).toNat, by omega⟩
        obtain ⟨s, hs⟩ : ∃ s, ns[k38]? = some s := ⟨_, List.getElem?_eq_getElem (by omega)⟩
        have is : ixD (.ref r) (.int (k38 : Int)) S = .ok (.str s) S := ixD_list gr (by rw [List.getElem?_map, hs]; rfl)
        obtain ⟨ws, hws, _⟩ := nW s (List.mem_of_getElem? hs)
        obtain ⟨w', q', dz, e, S', x1, x2, x3⟩ := next_ok (P := Gd n0 ns W (6 + i)) (P' := Gd n0 ns W (6 + i + 1)) (n := mixed (64 * c + ((6 + i : Nat) : Int))) (nm := fr n0 (6 + i)) (kn := s) (st := S) (by omega : 3 ≤ c % 19) ha hb
          (fun W _ h => h.down (by omega)) (fun W h => h.2.1 (6 + i) (by omega)) (fun W' _ h x => ⟨fun s hs => by rw [dget_snoc_ne (kn1 s hs)]; exact h.1 s hs, fun k' hk' => by
            rw [dget_snoc_ne (fun e => by have := fr_inj (by omega) (by omega) e; omega)]
            exact h.2.1 k' (by omega), by rw [dget_snoc_ne (ne_len (by rw [fr_len, q_len]; omega))]; exact h.2.2⟩)
          (fun W' h => ⟨_, (h.1 s (List.mem_of_getElem? hs)).trans hws⟩)
        obtain ⟨now', S2, k1, lk, k2⟩ := tail e kept S' (LS.trans x2) ⟨w', q', dz, x3⟩
        exact ⟨_, _, _, S2, rfl, by simp -implicitDefEqProofs +decide only [varF_ap, cF_ap, opF_ap, opK_ap, bF_ap, boolK_ap, andT_ap, andK_ap, orT_ap, orK_ap, notT_ap, notK_ap, yesT_ap, andV_ap, andVK_ap, orV_ap, orVK_ap, notV_ap, notVK_ap, ifF_ap, ifFK_ap, nilA_ap, consA_ap, consK_ap, consJ_ap, tupA_ap, lstA_ap, newO_ap, dicF_ap, callF_ap, un1_ap, methF_ap, nonO_ap, someO_ap, someK_ap, slF_ap, slK_ap, slJ_ap, itF_ap, itA_ap, nilS_ap, bkS_ap, ctS_ap, seqS_ap, seqK_nx, seqK_rt, seqK_bk, seqK_ct, dropS_ap, dropK_ap, retS_ap, retK_ap, retN_ap, ifS_ap, ifK_ap, setS_ap, setK_ap, asgS_ap, asgK_ap, asgJ_ap, nameG_ap, nilG_ap, consG_ap, consGK_ap, fnF_ap, fnK_nx, fnK_rt, forS_ap, forK_ap, negD_ap, addI_ap, varK_ap, startE, yes2, isN, List.map_cons, List.map_nil, List.length_cons, List.length_nil, List.replicate, List.append_nil, List.cons_append, List.nil_append, List.getElem?_cons_zero, List.getElem?_cons_succ, List.set_cons_zero, List.set_cons_succ, R.bind_ok, R.bind_ex, R.bind_bad, R.noex_ok, if_true, if_false, Bool.false_eq_true, Bool.true_eq_false, ite_true, ite_false, reduceIte, Nat.reduceAdd, Nat.reduceSub, Nat.zero_add, Nat.sub_self, Nat.sub_zero, decide_true, decide_false, Bool.not_true, Bool.not_false, subD_ap, ltD_ap, leD_ap, gtD_ap, geD_ap, mulD_ap, modD_ap, divD_ap, powD_ap, tupK_ok, lstK_ok, methK_ok, tupG_ok, eqS_t, eqS_f, neS_t, neS_f, eqI_ap, neI_ap, inT_nil, inT_hit, inT_miss, ne_eq, not_false_eq_true, l1e, ic, d, r64, mx, fresh, v38, hk38, is, x1, k2], now', kept, some (.int ((6 + i : Nat) : Int)), some (.int c), some now, rfl, (LS.trans x2).trans lk, k1, TE.up ⟨y, qy, db, hdb, hb⟩ (by omega)⟩
  obtain ⟨v1, w1, qq1, g1', d1', S1, h1, ft1, ls1⟩ := fits _ now T6 kn L6
  obtain ⟨v2, w2, qq2, g2', d2', S2, h2, ft2, ls2⟩ := fits _ kept S1 kk (L6.trans ls1)
  have a0 : ∀ S, ixD now (.int 0) S = .ok v1 S := fun S => by rw [h1]; exact jx0
  have a1 : ∀ S, ixD now (.int 1) S = .ok (.int w1) S := fun S => by rw [h1]; exact jx1
  have a2 : ∀ S, ixD now (.int 2) S = .ok (.int qq1) S := fun S => by rw [h1]; exact jx2
  have b0 : ∀ S, ixD kept (.int 0) S = .ok v2 S := fun S => by rw [h2]; exact jx0
  have b1 : ∀ S, ixD kept (.int 1) S = .ok (.int w2) S := fun S => by rw [h2]; exact jx1
  have b2 : ∀ S, ixD kept (.int 2) S = .ok (.int qq2) S := fun S => by rw [h2]; exact jx2
  have p6 : T1 ++ [VL.O.dic []] = T3 := hT3.symm
  subst hent
  have nn2 := n2 T5 (Le.refl _)
  have pp2 := p2 T5 (Le.refl _)
  exact ⟨S2, by simp -implicitDefEqProofs +decide only [varF_ap, cF_ap, opF_ap, opK_ap, bF_ap, boolK_ap, andT_ap, andK_ap, orT_ap, orK_ap, notT_ap, notK_ap, yesT_ap, andV_ap, andVK_ap, orV_ap, orVK_ap, notV_ap, notVK_ap, ifF_ap, ifFK_ap, nilA_ap, consA_ap, consK_ap, consJ_ap, tupA_ap, lstA_ap, newO_ap, dicF_ap, callF_ap, un1_ap, methF_ap, nonO_ap, someO_ap, someK_ap, slF_ap, slK_ap, slJ_ap, itF_ap, itA_ap, nilS_ap, bkS_ap, ctS_ap, seqS_ap, seqK_nx, seqK_rt, seqK_bk, seqK_ct, dropS_ap, dropK_ap, retS_ap, retK_ap, retN_ap, ifS_ap, ifK_ap, setS_ap, setK_ap, asgS_ap, asgK_ap, asgJ_ap, nameG_ap, nilG_ap, consG_ap, consGK_ap, fnF_ap, fnK_nx, fnK_rt, forS_ap, forK_ap, negD_ap, addI_ap, varK_ap, startE, yes2, isN, List.map_cons, List.map_nil, List.length_cons, List.length_nil, List.replicate, List.append_nil, List.cons_append, List.nil_append, List.getElem?_cons_zero, List.getElem?_cons_succ, List.set_cons_zero, List.set_cons_succ, R.bind_ok, R.bind_ex, R.bind_bad, R.noex_ok, if_true, if_false, Bool.false_eq_true, Bool.true_eq_false, ite_true, ite_false, reduceIte, Nat.reduceAdd, Nat.reduceSub, Nat.zero_add, Nat.sub_self, Nat.sub_zero, decide_true, decide_false, Bool.not_true, Bool.not_false, subD_ap, ltD_ap, leD_ap, gtD_ap, geD_ap, mulD_ap, modD_ap, divD_ap, powD_ap, tupK_ok, lstK_ok, methK_ok, tupG_ok, eqS_t, eqS_f, neS_t, neS_f, eqI_ap, neI_ap, inT_nil, inT_hit, inT_miss, ne_eq, not_false_eq_true, f_law, b_law, ca0, q1, p6, r4, f4, q5, ty, i0, aq, ap, ca5, nn2, v4, pp2, ln, minD_ok, rg, f6, a0, a1, a2, b0, b1, b2, ft1, ft2, sz (by decide : 2 ≤ 100), sz (by decide : 5 ≤ 100)]⟩
end Law

namespace Law
open PySem PySem.Spec PyProof.Rows L2 VL RZ RT
def topS (i : Nat) : Stmt := PySem.Challenge.pw_viewkeep_k11_not_let_by.main.body.getD i (.Pass ⟨0, 0, 0, 0⟩)
abbrev s_not_beyond : Stmt := topS 18
theorem sc_not_beyond : FnScope ["places", "width", "place"] ["places", "width"] (defScope s_not_beyond) := ⟨rfl, rfl, rfl, by decide +kernel, rfl, by decide +kernel, by decide +kernel⟩
abbrev s_not_wide : Stmt := topS 19
theorem sc_not_wide : FnScope ["width"] ["width"] (defScope s_not_wide) := ⟨rfl, rfl, rfl, by decide +kernel, rfl, by decide +kernel, by decide +kernel⟩
abbrev s__law_cell_at : Stmt := topS 24
theorem sc__law_cell_at : FnScope ["_law_script", "_law_k"] ["_law_script", "_law_k"] (defScope s__law_cell_at) := ⟨rfl, rfl, rfl, by decide +kernel, rfl, by decide +kernel, by decide +kernel⟩
abbrev s__law_whole : Stmt := topS 25
theorem sc__law_whole : FnScope ["_law_found"] ["_law_found"] (defScope s__law_whole) := ⟨rfl, rfl, rfl, by decide +kernel, rfl, by decide +kernel, by decide +kernel⟩
abbrev s__law_mixed : Stmt := topS 26
theorem sc__law_mixed : FnScope ["_law_cell"] ["_law_cell"] (defScope s__law_mixed) := ⟨rfl, rfl, rfl, by decide +kernel, rfl, by decide +kernel, by decide +kernel⟩
abbrev s__law_digits : Stmt := topS 27
theorem sc__law_digits : FnScope ["_law_number", "_law_many", "_law_top", "_law_found", "_law_k"] ["_law_number", "_law_many", "_law_top"] (defScope s__law_digits) := ⟨rfl, rfl, rfl, by decide +kernel, rfl, by decide +kernel, by decide +kernel⟩
abbrev s__law_fresh : Stmt := topS 29
theorem sc__law_fresh : FnScope ["_law_names_here", "_law_k", "_law_letters"] ["_law_names_here", "_law_k"] (defScope s__law_fresh) := ⟨rfl, rfl, rfl, by decide +kernel, rfl, by decide +kernel, by decide +kernel⟩
abbrev s__law_first_due : Stmt := topS 30
theorem sc__law_first_due : FnScope ["_law_dues", "_law_due"] ["_law_dues"] (defScope s__law_first_due) := ⟨rfl, rfl, rfl, by decide +kernel, rfl, by decide +kernel, by decide +kernel⟩
abbrev s__law_beyond : Stmt := topS 32
theorem sc__law_beyond : FnScope ["_law_wide"] ["_law_wide"] (defScope s__law_beyond) := ⟨rfl, rfl, rfl, by decide +kernel, rfl, by decide +kernel, by decide +kernel⟩
abbrev s__law_asking : Stmt := topS 33
theorem sc__law_asking : FnScope ["_law_number", "_law_at", "_law_some"] ["_law_number", "_law_at"] (defScope s__law_asking) := ⟨rfl, rfl, rfl, by decide +kernel, rfl, by decide +kernel, by decide +kernel⟩
abbrev s__law_term : Stmt := topS 34
theorem sc__law_term : FnScope ["_law_number", "_law_at", "_law_none", "_law_some"] ["_law_number", "_law_at"] (defScope s__law_term) := ⟨rfl, rfl, rfl, by decide +kernel, rfl, by decide +kernel, by decide +kernel⟩
abbrev s_look_two : Stmt := topS 21
theorem sc_look_two : FnScope ["view", "one", "other", "word", "pair"] ["view", "one", "other"] (defScope s_look_two) := ⟨rfl, rfl, rfl, by decide +kernel, rfl, by decide +kernel, by decide +kernel⟩
abbrev s__law_names : Stmt := topS 28
theorem sc__law_names : FnScope ["_law_cell", "_law_letters", "_law_number", "_law_base", "_law_at", "_law_names_here", "_law_j", "_law_k"] ["_law_cell"] (defScope s__law_names) := ⟨rfl, rfl, rfl, by decide +kernel, rfl, by decide +kernel, by decide +kernel⟩
abbrev s__law_spots : Stmt := topS 31
theorem sc__law_spots : FnScope ["_law_number", "_law_many", "_law_wide", "_law_found"] ["_law_number", "_law_many", "_law_wide"] (defScope s__law_spots) := ⟨rfl, rfl, rfl, by decide +kernel, rfl, by decide +kernel, by decide +kernel⟩
abbrev s__law_one : Stmt := topS 35
theorem sc__law_one : FnScope ["_law_number", "_law_word", "_law_now", "_law_wide", "_law_spots_here", "_law_due", "_law_asked", "_law_k", "_law_view", "_law_order", "_law_p", "_law_by"] ["_law_number", "_law_word", "_law_now"] (defScope s__law_one) := ⟨rfl, rfl, rfl, by decide +kernel, rfl, by decide +kernel, by decide +kernel⟩
abbrev s__law_two : Stmt := topS 36
theorem sc__law_two : FnScope ["_law_number", "_law_word", "_law_now", "_law_kept", "_law_wide", "_law_dues", "_law_more", "_law_view", "_law_one_here", "_law_due", "_law_other", "_law_late"] ["_law_number", "_law_word", "_law_now", "_law_kept"] (defScope s__law_two) := ⟨rfl, rfl, rfl, by decide +kernel, rfl, by decide +kernel, by decide +kernel⟩
abbrev s__law_rounds : Stmt := topS 37
theorem sc__law_rounds : FnScope ["_law_number", "_law_now", "_law_kept", "_law_name", "_law_known", "_law_way", "_law_leaf", "_law_inner", "_law_first", "_law_view", "_law_due", "_law_made"] ["_law_number", "_law_now", "_law_kept", "_law_name", "_law_known"] (defScope s__law_rounds) := ⟨rfl, rfl, rfl, by decide +kernel, rfl, by decide +kernel, by decide +kernel⟩
abbrev s__law_next : Stmt := topS 38
theorem sc__law_next : FnScope ["_law_cell", "_law_number", "_law_now", "_law_kept", "_law_name", "_law_known", "_law_word"] ["_law_cell", "_law_number", "_law_now", "_law_kept", "_law_name", "_law_known"] (defScope s__law_next) := ⟨rfl, rfl, rfl, by decide +kernel, rfl, by decide +kernel, by decide +kernel⟩
abbrev s_places_in : Stmt := topS 16
theorem sc_places_in : FnScope ["expr", "found", "piece"] ["expr"] (defScope s_places_in) := ⟨rfl, rfl, rfl, by decide +kernel, rfl, by decide +kernel, by decide +kernel⟩
abbrev s_places_of : Stmt := topS 17
theorem sc_places_of : FnScope ["view", "word", "found", "expr", "pair"] ["view"] (defScope s_places_of) := ⟨rfl, rfl, rfl, by decide +kernel, rfl, by decide +kernel, by decide +kernel⟩
abbrev s_look_rounds : Stmt := topS 20
theorem sc_look_rounds : FnScope ["view", "widths", "width", "within"] ["view", "widths"] (defScope s_look_rounds) := ⟨rfl, rfl, rfl, by decide +kernel, rfl, by decide +kernel, by decide +kernel⟩
abbrev s_look : Stmt := topS 22
theorem sc_look : FnScope ["view", "widths", "word", "width"] ["view", "widths"] (defScope s_look) := ⟨rfl, rfl, rfl, by decide +kernel, rfl, by decide +kernel, by decide +kernel⟩
abbrev s__law_fits : Stmt := topS 39
theorem sc__law_fits : FnScope ["_law_view", "_law_widths", "_law_wide", "_law_due", "_law_handed", "_law_found", "_law_kinds", "e", "_law_k"] ["_law_view", "_law_widths", "_law_wide", "_law_due"] (defScope s__law_fits) := ⟨rfl, rfl, rfl, by decide +kernel, rfl, by decide +kernel, by decide +kernel⟩
abbrev s_law : Stmt := topS 40
theorem sc_law : FnScope ["_law_script", "_law_names_here", "_law_widths", "_law_j", "_law_tables", "_law_name", "_law_now", "_law_kept", "_law_k", "_law_cell", "_law_last"] ["_law_script"] (defScope s_law) := ⟨rfl, rfl, rfl, by decide +kernel, rfl, by decide +kernel, by decide +kernel⟩
/-! ### the defs as they stand -/
structure Tx (K : PySem.W.Frag) (mg : Str → Option Value) where
  a_not_beyond : Addr
  d_not_beyond : FuncData
  F_not_beyond : Fun K "not_beyond" "not_beyond" s_not_beyond a_not_beyond d_not_beyond
  g_not_beyond : mg "not_beyond" = some (.ref a_not_beyond)
  b_not_beyond : Binds K d_not_beyond ["places", "width"] []
  a_not_wide : Addr
  d_not_wide : FuncData
  F_not_wide : Fun K "not_wide" "not_wide" s_not_wide a_not_wide d_not_wide
  g_not_wide : mg "not_wide" = some (.ref a_not_wide)
  b_not_wide : Binds K d_not_wide ["width"] []
  a__law_cell_at : Addr
  d__law_cell_at : FuncData
  F__law_cell_at : Fun K "_law_cell_at" "_law_cell_at" s__law_cell_at a__law_cell_at d__law_cell_at
  g__law_cell_at : mg "_law_cell_at" = some (.ref a__law_cell_at)
  b__law_cell_at : Binds K d__law_cell_at ["_law_script", "_law_k"] []
  a__law_whole : Addr
  d__law_whole : FuncData
  F__law_whole : Fun K "_law_whole" "_law_whole" s__law_whole a__law_whole d__law_whole
  g__law_whole : mg "_law_whole" = some (.ref a__law_whole)
  b__law_whole : Binds K d__law_whole ["_law_found"] []
  a__law_mixed : Addr
  d__law_mixed : FuncData
  F__law_mixed : Fun K "_law_mixed" "_law_mixed" s__law_mixed a__law_mixed d__law_mixed
  g__law_mixed : mg "_law_mixed" = some (.ref a__law_mixed)
  b__law_mixed : Binds K d__law_mixed ["_law_cell"] []
  a__law_digits : Addr
  d__law_digits : FuncData
  F__law_digits : Fun K "_law_digits" "_law_digits" s__law_digits a__law_digits d__law_digits
  g__law_digits : mg "_law_digits" = some (.ref a__law_digits)
  b__law_digits : Binds K d__law_digits ["_law_number", "_law_many", "_law_top"] []
  a__law_fresh : Addr
  d__law_fresh : FuncData
  F__law_fresh : Fun K "_law_fresh" "_law_fresh" s__law_fresh a__law_fresh d__law_fresh
  g__law_fresh : mg "_law_fresh" = some (.ref a__law_fresh)
  b__law_fresh : Binds K d__law_fresh ["_law_names_here", "_law_k"] []
  a__law_first_due : Addr
  d__law_first_due : FuncData
  F__law_first_due : Fun K "_law_first_due" "_law_first_due" s__law_first_due a__law_first_due d__law_first_due
  g__law_first_due : mg "_law_first_due" = some (.ref a__law_first_due)
  b__law_first_due : Binds K d__law_first_due ["_law_dues"] []
  a__law_beyond : Addr
  d__law_beyond : FuncData
  F__law_beyond : Fun K "_law_beyond" "_law_beyond" s__law_beyond a__law_beyond d__law_beyond
  g__law_beyond : mg "_law_beyond" = some (.ref a__law_beyond)
  b__law_beyond : Binds K d__law_beyond ["_law_wide"] []
  a__law_asking : Addr
  d__law_asking : FuncData
  F__law_asking : Fun K "_law_asking" "_law_asking" s__law_asking a__law_asking d__law_asking
  g__law_asking : mg "_law_asking" = some (.ref a__law_asking)
  b__law_asking : Binds K d__law_asking ["_law_number", "_law_at"] []
  a__law_term : Addr
  d__law_term : FuncData
  F__law_term : Fun K "_law_term" "_law_term" s__law_term a__law_term d__law_term
  g__law_term : mg "_law_term" = some (.ref a__law_term)
  b__law_term : Binds K d__law_term ["_law_number", "_law_at"] []
  a_look_two : Addr
  d_look_two : FuncData
  F_look_two : Fun K "look_two" "look_two" s_look_two a_look_two d_look_two
  g_look_two : mg "look_two" = some (.ref a_look_two)
  b_look_two : Binds K d_look_two ["view", "one", "other"] []
  a__law_names : Addr
  d__law_names : FuncData
  F__law_names : Fun K "_law_names" "_law_names" s__law_names a__law_names d__law_names
  g__law_names : mg "_law_names" = some (.ref a__law_names)
  b__law_names : Binds K d__law_names ["_law_cell"] []
  a__law_spots : Addr
  d__law_spots : FuncData
  F__law_spots : Fun K "_law_spots" "_law_spots" s__law_spots a__law_spots d__law_spots
  g__law_spots : mg "_law_spots" = some (.ref a__law_spots)
  b__law_spots : Binds K d__law_spots ["_law_number", "_law_many", "_law_wide"] []
  a__law_one : Addr
  d__law_one : FuncData
  F__law_one : Fun K "_law_one" "_law_one" s__law_one a__law_one d__law_one
  g__law_one : mg "_law_one" = some (.ref a__law_one)
  b__law_one : Binds K d__law_one ["_law_number", "_law_word", "_law_now"] []
  a__law_two : Addr
  d__law_two : FuncData
  F__law_two : Fun K "_law_two" "_law_two" s__law_two a__law_two d__law_two
  g__law_two : mg "_law_two" = some (.ref a__law_two)
  b__law_two : Binds K d__law_two ["_law_number", "_law_word", "_law_now", "_law_kept"] []
  a__law_rounds : Addr
  d__law_rounds : FuncData
  F__law_rounds : Fun K "_law_rounds" "_law_rounds" s__law_rounds a__law_rounds d__law_rounds
  g__law_rounds : mg "_law_rounds" = some (.ref a__law_rounds)
  b__law_rounds : Binds K d__law_rounds ["_law_number", "_law_now", "_law_kept", "_law_name", "_law_known"] []
  a__law_next : Addr
  d__law_next : FuncData
  F__law_next : Fun K "_law_next" "_law_next" s__law_next a__law_next d__law_next
  g__law_next : mg "_law_next" = some (.ref a__law_next)
  b__law_next : Binds K d__law_next ["_law_cell", "_law_number", "_law_now", "_law_kept", "_law_name", "_law_known"] []
  a_places_in : Addr
  d_places_in : FuncData
  F_places_in : Fun K "places_in" "places_in" s_places_in a_places_in d_places_in
  g_places_in : mg "places_in" = some (.ref a_places_in)
  b_places_in : Binds K d_places_in ["expr"] []
  a_places_of : Addr
  d_places_of : FuncData
  F_places_of : Fun K "places_of" "places_of" s_places_of a_places_of d_places_of
  g_places_of : mg "places_of" = some (.ref a_places_of)
  b_places_of : Binds K d_places_of ["view"] []
  a_look_rounds : Addr
  d_look_rounds : FuncData
  F_look_rounds : Fun K "look_rounds" "look_rounds" s_look_rounds a_look_rounds d_look_rounds
  g_look_rounds : mg "look_rounds" = some (.ref a_look_rounds)
  b_look_rounds : Binds K d_look_rounds ["view", "widths"] []
  a_look : Addr
  d_look : FuncData
  F_look : Fun K "look" "look" s_look a_look d_look
  g_look : mg "look" = some (.ref a_look)
  b_look : Binds K d_look ["view", "widths"] []
  a__law_fits : Addr
  d__law_fits : FuncData
  F__law_fits : Fun K "_law_fits" "_law_fits" s__law_fits a__law_fits d__law_fits
  g__law_fits : mg "_law_fits" = some (.ref a__law_fits)
  b__law_fits : Binds K d__law_fits ["_law_view", "_law_widths", "_law_wide", "_law_due"] []
  a_law : Addr
  d_law : FuncData
  F_law : Fun K "law" "law" s_law a_law d_law
  g_law : mg "law" = some (.ref a_law)
  b_law : Binds K d_law ["_law_script"] []
  z_ValueError : mg "ValueError" = none
  z_bool : mg "bool" = none
  z_dict : mg "dict" = none
  z_int : mg "int" = none
  z_isinstance : mg "isinstance" = none
  z_len : mg "len" = none
  z_list : mg "list" = none
  z_max : mg "max" = none
  z_min : mg "min" = none
  z_range : mg "range" = none
  z_tuple : mg "tuple" = none
  z_zip : mg "zip" = none
  e_ViewError : Addr
  x_ViewError : mg "ViewError" = some (.ref e_ViewError)
  e_NoName : Addr
  x_NoName : mg "NoName" = some (.ref e_NoName)
  e_NoPlace : Addr
  x_NoPlace : mg "NoPlace" = some (.ref e_NoPlace)
  e_Unlike : Addr
  x_Unlike : mg "Unlike" = some (.ref e_Unlike)
  e_Wide : Addr
  x_Wide : mg "Wide" = some (.ref e_Wide)
  e_Twice : Addr
  x_Twice : mg "Twice" = some (.ref e_Twice)
  e_NoText : Addr
  x_NoText : mg "NoText" = some (.ref e_NoText)
  e_TooLarge : Addr
  x_TooLarge : mg "TooLarge" = some (.ref e_TooLarge)
  e_NoWidth : Addr
  x_NoWidth : mg "NoWidth" = some (.ref e_NoWidth)
  e_NoRow : Addr
  x_NoRow : mg "NoRow" = some (.ref e_NoRow)
  e_NoCount : Addr
  x_NoCount : mg "NoCount" = some (.ref e_NoCount)
  e_Short : Addr
  x_Short : mg "Short" = some (.ref e_Short)
  e_NoChange : Addr
  x_NoChange : mg "NoChange" = some (.ref e_NoChange)
  r_NoName : ExcR K e_NoName [.type "ValueError", .type "Exception", .type "BaseException", .type "object"] "ValueError.__new__"
  r_NoPlace : ExcR K e_NoPlace [.type "ValueError", .type "Exception", .type "BaseException", .type "object"] "ValueError.__new__"
  r_Unlike : ExcR K e_Unlike [.type "ValueError", .type "Exception", .type "BaseException", .type "object"] "ValueError.__new__"
  r_Wide : ExcR K e_Wide [.type "ValueError", .type "Exception", .type "BaseException", .type "object"] "ValueError.__new__"
  r_Twice : ExcR K e_Twice [.type "ValueError", .type "Exception", .type "BaseException", .type "object"] "ValueError.__new__"
  kd : ∀ c bs, kinds__law_fits c = some bs → ∃ D, mg c = some (.ref D) ∧ PySem.W.exmOne K (.ref D) (.ref e_ViewError) = some true ∧ ExcC K D ∧ KitAll K D [V.ref e_NoName, V.ref e_NoPlace, V.ref e_Unlike, V.ref e_Wide, V.ref e_Twice, V.ty "ValueError", V.ref e_NoText, V.ref e_NoRow, V.ref e_NoWidth, V.ref e_NoCount, V.ref e_TooLarge, V.ref e_Short, V.ref e_NoChange] bs ∧ bs.length ≤ sizeLine
  v_MOST : ∃ u, mg "MOST" = some u ∧ RelV (V.int 12) u
section
variable {P : Program} {w : World} {K : PySem.W.Frag} {mg : Str → Option Value} {base : Heap}
theorem ok_not_beyond (T : Tx K mg) : FnOk P w K mg base (L2.CX P w) (1) T.a_not_beyond T.d_not_beyond ["places", "width"] (SpD ⟨P, w, K, mg, B0⟩ 2 f_not_beyond) := by
  refine fn1 T.F_not_beyond sc_not_beyond rfl rfl fun cdv A outer s H E hr => ?_
  exact (lss_one (ls_for (passes_of rfl) rfl (li_seq (le_var (pv 0))) (lg_name (pg_name (i := 2) sc_not_beyond.nd rfl (by first | exact Or.inl rfl | exact Or.inr rfl))) (lss_one (ls_if (lt_cmp op_geD (le_var (pv 2)) (le_var (pv 1)) (nomark _)) (lss_one (ls_raise rfl (takes_of rfl rfl rfl rfl) PySem.F.excBase_ValueError T.x_NoPlace T.r_NoPlace)) lss_nil))))
theorem ok_not_wide (T : Tx K mg) : FnOk P w K mg base (L2.CX P w) (1) T.a_not_wide T.d_not_wide ["width"] (SpD ⟨P, w, K, mg, B0⟩ 1 f_not_wide) := by
  refine fn1 T.F_not_wide sc_not_wide rfl rfl fun cdv A outer s H E hr => ?_
  exact (lss_cons (ls_if (lt_cmp op_gtD (le_var (pv 0)) (le_gc (by rfl) T.v_MOST (fun _ _ => .int _)) (nomark _)) (lss_one (ls_raise rfl (takes_of rfl rfl rfl rfl) PySem.F.excBase_ValueError T.x_Wide T.r_Wide)) lss_nil)
    (lss_one (ls_ret (le_var (pv 0)))))
theorem ok__law_cell_at (T : Tx K mg) : FnOk P w K mg base CX0 (1) T.a__law_cell_at T.d__law_cell_at ["_law_script", "_law_k"] (Sp0 ⟨P, w, K, mg, B0⟩ 2 f__law_cell_at) := by
  refine fn0 T.F__law_cell_at sc__law_cell_at rfl rfl fun cdv A outer s H E hr => ?_
  exact (lss_cons (ls_if (lt_cmp op_ltD (le_var (pv 1)) (le_callB call_lenD (by rfl) T.z_len (by decide +kernel) (la_cons (le_var (pv 0)) la_nil)) (nomark _)) (lss_one (ls_ret (le_ix ix_D (le_var (pv 0)) (le_var (pv 1)) (fun _ _ => rfl)))) lss_nil)
    (lss_one (ls_ret le_int)))
theorem ok__law_whole (T : Tx K mg) : FnOk P w K mg base CX0 (1) T.a__law_whole T.d__law_whole ["_law_found"] (Sp0 ⟨P, w, K, mg, B0⟩ 1 f__law_whole) := by
  refine fn0 T.F__law_whole sc__law_whole rfl rfl fun cdv A outer s H E hr => ?_
  exact (lss_one (ls_ret (le_and (le_callB call_isiD (by rfl) T.z_isinstance (by decide +kernel) (la_cons (le_var (pv 0)) (la_cons (le_ty (by rfl) T.z_int (by decide +kernel)) la_nil))) (le_and1 (le_not (le_callB call_isiD (by rfl) T.z_isinstance (by decide +kernel) (la_cons (le_var (pv 0)) (la_cons (le_ty (by rfl) T.z_bool (by decide +kernel)) la_nil))))))))
theorem ok__law_mixed (T : Tx K mg) : FnOk P w K mg base CX0 (1) T.a__law_mixed T.d__law_mixed ["_law_cell"] (Sp0 ⟨P, w, K, mg, B0⟩ 1 f__law_mixed) := by
  refine fn0 T.F__law_mixed sc__law_mixed rfl rfl fun cdv A outer s H E hr => ?_
  exact (lss_one (ls_ret (le_op op_addD (le_op op_modD (le_op op_mulD (le_var (pv 0)) le_int) le_int) (le_op op_mulD le_int (le_op op_modD (le_var (pv 0)) (le_op op_powD le_int le_int))))))
theorem ok__law_digits (T : Tx K mg) : FnOk P w K mg base CX0 (1) T.a__law_digits T.d__law_digits ["_law_number", "_law_many", "_law_top"] (Sp0 ⟨P, w, K, mg, B0⟩ 3 f__law_digits) := by
  refine fn0 T.F__law_digits sc__law_digits rfl rfl fun cdv A outer s H E hr => ?_
  exact (lss_cons (ls_set (i := 3) sc__law_digits.nd (le_lst la_nil))
    (lss_cons (ls_for PassesOwn.never rfl (li_rng1 (by rfl) T.z_range (la_cons (le_var (pv 1)) la_nil)) (lg_name (pg_name (i := 4) sc__law_digits.nd rfl (by first | exact Or.inl rfl | exact Or.inr rfl))) (lss_cons (ls_expr (le_bm PySem.F.plainAttrs_list PySem.F.slot_list_append PySem.F.type_list_append mt_appD (le_var (pv 3)) (la_cons (le_op op_modD (le_var (pv 0)) (le_var (pv 2))) la_nil)))
    (lss_one (ls_set (i := 0) sc__law_digits.nd (le_op op_divD (le_var (pv 0)) (le_var (pv 2)))))))
    (lss_one (ls_ret (le_var (pv 3))))))
theorem ok__law_fresh (T : Tx K mg) : FnOk P w K mg base CX0 (1) T.a__law_fresh T.d__law_fresh ["_law_names_here", "_law_k"] (Sp0 ⟨P, w, K, mg, B0⟩ 2 f__law_fresh) := by
  refine fn0 T.F__law_fresh sc__law_fresh rfl rfl fun cdv A outer s H E hr => ?_
  exact (lss_cons (ls_set (i := 2) sc__law_fresh.nd le_str)
    (lss_one (ls_ret (le_op op_addD (le_op op_addD (le_ix ix_D (le_var (pv 0)) le_int (fun _ _ => rfl)) (le_ix ix_D (le_var (pv 2)) (le_op op_modD (le_var (pv 1)) le_int) (fun _ _ => rfl))) (le_ix ix_D (le_var (pv 2)) (le_op op_modD (le_op op_divD (le_var (pv 1)) le_int) le_int) (fun _ _ => rfl))))))
theorem ok__law_first_due (T : Tx K mg) : FnOk P w K mg base CX0 (1) T.a__law_first_due T.d__law_first_due ["_law_dues"] (Sp0 ⟨P, w, K, mg, B0⟩ 1 f__law_first_due) := by
  refine fn0 T.F__law_first_due sc__law_first_due rfl rfl fun cdv A outer s H E hr => ?_
  exact (lss_cons (ls_for PassesOwn.never rfl (li_seq (le_var (pv 0))) (lg_name (pg_name (i := 1) sc__law_first_due.nd rfl (by first | exact Or.inl rfl | exact Or.inr rfl))) (lss_one (ls_if (lt_cmp op_gtD (le_var (pv 1)) le_int (nomark _)) (lss_one (ls_ret (le_var (pv 1)))) lss_nil)))
    (lss_one (ls_ret le_int)))
theorem ok__law_beyond (T : Tx K mg) : FnOk P w K mg base CX0 (1) T.a__law_beyond T.d__law_beyond ["_law_wide"] (Sp0 ⟨P, w, K, mg, B0⟩ 1 f__law_beyond) := by
  refine fn0 T.F__law_beyond sc__law_beyond rfl rfl fun cdv A outer s H E hr => ?_
  exact (lss_one (ls_ret (le_op op_mulD le_int (le_callTy call_int1D (by rfl) T.z_int (by decide +kernel) (la_cons (le_cmp op_gtD (le_var (pv 0)) le_int (nomark _)) la_nil)))))
theorem ok__law_asking (T : Tx K mg) : FnOk P w K mg base CX0 (1) T.a__law_asking T.d__law_asking ["_law_number", "_law_at"] (Sp0 ⟨P, w, K, mg, B0⟩ 2 f__law_asking) := by
  refine fn0 T.F__law_asking sc__law_asking rfl rfl fun cdv A outer s H E hr => ?_
  exact (lss_cons (ls_set (i := 2) sc__law_asking.nd (le_lst (la_cons (le_tup (la_cons le_str (la_cons (le_var (pv 1)) (la_cons (le_tup (la_cons le_str (la_cons le_int la_nil))) la_nil)))) (la_cons (le_tup (la_cons le_str (la_cons (le_tup (la_cons le_str (la_cons (le_var (pv 1)) (la_cons (le_tup (la_cons le_str la_nil)) la_nil)))) la_nil))) (la_cons (le_tup (la_cons le_str (la_cons (le_tup (la_cons le_str (la_cons le_int (la_cons (le_var (pv 1)) la_nil)))) (la_cons (le_tup (la_cons le_str (la_cons le_int la_nil))) la_nil)))) la_nil)))))
    (lss_cons (ls_set (i := 2) sc__law_asking.nd (le_op op_addD (le_var (pv 2)) (le_lst (la_cons (le_tup (la_cons le_str (la_cons (le_tup (la_cons le_str (la_cons (le_tup (la_cons le_str la_nil)) (la_cons (le_tup (la_cons le_str la_nil)) la_nil)))) (la_cons (le_tup (la_cons le_str (la_cons (le_tup (la_cons le_str (la_cons le_int la_nil))) (la_cons (le_var (pv 1)) la_nil)))) la_nil)))) la_nil))))
    (lss_cons (ls_set (i := 2) sc__law_asking.nd (le_op op_addD (le_var (pv 2)) (le_lst (la_cons (le_tup (la_cons le_str (la_cons (le_tup (la_cons le_str la_nil)) (la_cons (le_tup (la_cons le_str (la_cons (le_var (pv 1)) (la_cons (le_tup (la_cons le_str la_nil)) la_nil)))) la_nil)))) la_nil))))
    (lss_cons (ls_set (i := 2) sc__law_asking.nd (le_op op_addD (le_var (pv 2)) (le_lst (la_cons (le_tup (la_cons le_str (la_cons (le_tup (la_cons le_str (la_cons le_int (la_cons (le_var (pv 1)) la_nil)))) (la_cons (le_tup (la_cons le_str la_nil)) la_nil)))) (la_cons (le_tup (la_cons le_str (la_cons (le_tup (la_cons le_str (la_cons le_int la_nil))) (la_cons (le_tup (la_cons le_str (la_cons (le_tup (la_cons le_str (la_cons le_int la_nil))) (la_cons (le_var (pv 1)) la_nil)))) la_nil)))) la_nil)))))
    (lss_cons (ls_set (i := 2) sc__law_asking.nd (le_op op_addD (le_var (pv 2)) (le_lst (la_cons (le_tup (la_cons le_str (la_cons (le_tup (la_cons le_str (la_cons (le_tup (la_cons le_str (la_cons (le_var (pv 1)) (la_cons (le_tup (la_cons le_str (la_cons le_int la_nil))) la_nil)))) (la_cons (le_tup (la_cons le_str la_nil)) (la_cons (le_tup (la_cons le_str (la_cons le_int la_nil))) la_nil))))) (la_cons (le_tup (la_cons le_str (la_cons le_int la_nil))) la_nil)))) la_nil))))
    (lss_one (ls_ret (le_ix ix_D (le_var (pv 2)) (le_op op_modD (le_var (pv 0)) le_int) (fun _ _ => rfl)))))))))
theorem ok__law_term (T : Tx K mg) : FnOk P w K mg base CX0 (1) T.a__law_term T.d__law_term ["_law_number", "_law_at"] (Sp0 ⟨P, w, K, mg, B0⟩ 2 f__law_term) := by
  refine fn0 T.F__law_term sc__law_term rfl rfl fun cdv A outer s H E hr => ?_
  exact (lss_cons (ls_set (i := 2) sc__law_term.nd (le_tup (la_cons le_str (la_cons (le_tup (la_cons le_str (la_cons le_int la_nil))) (la_cons (le_tup (la_cons le_str la_nil)) la_nil)))))
    (lss_cons (ls_set (i := 3) sc__law_term.nd (le_lst (la_cons (le_tup (la_cons le_str (la_cons (le_tup (la_cons le_str (la_cons le_int la_nil))) (la_cons (le_var (pv 1)) la_nil)))) (la_cons (le_tup (la_cons le_str (la_cons (le_var (pv 1)) (la_cons (le_tup (la_cons le_str (la_cons le_int la_nil))) la_nil)))) (la_cons (le_tup (la_cons le_str (la_cons le_int (la_cons (le_var (pv 1)) la_nil)))) (la_cons (le_tup (la_cons le_str (la_cons le_int (la_cons (le_var (pv 1)) la_nil)))) (la_cons (le_tup (la_cons le_str (la_cons le_int (la_cons (le_var (pv 1)) la_nil)))) (la_cons (le_var (pv 1)) la_nil))))))))
    (lss_cons (ls_set (i := 3) sc__law_term.nd (le_op op_addD (le_var (pv 3)) (le_lst (la_cons (le_tup (la_cons le_str (la_cons (le_tup (la_cons le_str (la_cons (le_var (pv 1)) (la_cons (le_tup (la_cons le_str (la_cons le_int la_nil))) la_nil)))) (la_cons (le_tup (la_cons le_str la_nil)) (la_cons (le_tup (la_cons le_str (la_cons le_int la_nil))) la_nil))))) (la_cons (le_tup (la_cons le_str (la_cons (le_var (pv 2)) (la_cons (le_var (pv 1)) (la_cons (le_tup (la_cons le_str la_nil)) la_nil))))) la_nil)))))
    (lss_cons (ls_set (i := 3) sc__law_term.nd (le_op op_addD (le_var (pv 3)) (le_lst (la_cons (le_tup (la_cons le_str (la_cons (le_var (pv 2)) (la_cons (le_tup (la_cons le_str la_nil)) (la_cons (le_var (pv 1)) la_nil))))) (la_cons (le_tup (la_cons le_str (la_cons (le_tup (la_cons le_str (la_cons (le_tup (la_cons le_str (la_cons (le_tup (la_cons le_str (la_cons le_int la_nil))) (la_cons (le_var (pv 1)) la_nil)))) la_nil))) (la_cons (le_tup (la_cons le_str (la_cons le_int la_nil))) (la_cons (le_tup (la_cons le_str (la_cons le_int la_nil))) la_nil))))) la_nil)))))
    (lss_one (ls_ret (le_ix ix_D (le_var (pv 3)) (le_op op_modD (le_var (pv 0)) le_int) (fun _ _ => rfl))))))))
theorem ok_look_two (T : Tx K mg) : FnOk P w K mg base (L2.CX P w) (2) T.a_look_two T.d_look_two ["view", "one", "other"] (SpD ⟨P, w, K, mg, B0⟩ 3 f_look_two) := by
  refine fn1 T.F_look_two sc_look_two rfl rfl fun cdv A outer s H E hr => ?_
  exact (lss_cons (ls_set (i := 3) sc_look_two.nd (le_ix ix_D (le_var (pv 0)) le_int (fun _ _ => rfl)))
    (lss_cons (ls_if (lt_cmp op_inD (le_var (pv 3)) (le_tup (la_cons le_str (la_cons le_str (la_cons le_str (la_cons le_str la_nil))))) (by rfl)) (lss_cons (ls_if (lt_cmp (op_neDD hr.units) (le_var (pv 1)) (le_var (pv 2)) (nomark _)) (lss_one (ls_raise rfl (takes_of rfl rfl rfl rfl) PySem.F.excBase_ValueError T.x_Unlike T.r_Unlike)) lss_nil)
    (lss_one (ls_ret (le_var (pv 1))))) lss_nil)
    (lss_cons (ls_expr (le_callQ (ok_not_beyond T) (hr.mono (by omega)) T.g_not_beyond T.F_not_beyond.kp T.b_not_beyond (takes_of rfl rfl rfl rfl) (la_cons (le_lc (own := [("pair", 4)]) rfl sc_look_two.nd (li_seq (le_ix ix_D (le_var (pv 0)) le_int (fun _ _ => rfl))) (blkOk_by (own := [("pair", 4)]) (N := ["view", "one", "other", "word", "pair"]) (sc := defScope s_look_two) (by decide +kernel)) (fun _ _ _ _ _ => (lgw_name (pg_name (i := 4) sc_look_two.nd rfl (by first | exact Or.inl rfl | exact Or.inr rfl)) (by decide))) (fun _ _ _ _ _ => lts_nil) (fun _ _ _ _ _ => (le_ix ix_D (le_var (pv 4)) le_int (fun _ _ => rfl)))) (la_cons (le_var (pv 1)) la_nil)) (len_cons (len_cons (fun _ _ _ _ h => len_nil h)))))
    (lss_cons (ls_expr (le_callQ (ok_not_beyond T) (hr.mono (by omega)) T.g_not_beyond T.F_not_beyond.kp T.b_not_beyond (takes_of rfl rfl rfl rfl) (la_cons (le_lc (own := [("pair", 4)]) rfl sc_look_two.nd (li_seq (le_ix ix_D (le_var (pv 0)) le_int (fun _ _ => rfl))) (blkOk_by (own := [("pair", 4)]) (N := ["view", "one", "other", "word", "pair"]) (sc := defScope s_look_two) (by decide +kernel)) (fun _ _ _ _ _ => (lgw_name (pg_name (i := 4) sc_look_two.nd rfl (by first | exact Or.inl rfl | exact Or.inr rfl)) (by decide))) (fun _ _ _ _ _ => lts_nil) (fun _ _ _ _ _ => (le_ix ix_D (le_var (pv 4)) le_int (fun _ _ => rfl)))) (la_cons (le_var (pv 2)) la_nil)) (len_cons (len_cons (fun _ _ _ _ h => len_nil h)))))
    (lss_cons (ls_if (lt_cmp (op_eqDD hr.units) (le_var (pv 3)) le_str (nomark _)) (lss_one (ls_ret (le_var (pv 1)))) lss_nil)
    (lss_one (ls_ret (le_callQ (ok_not_wide T) (hr.mono (by omega)) T.g_not_wide T.F_not_wide.kp T.b_not_wide (takes_of rfl rfl rfl rfl) (la_cons (le_op op_addD (le_var (pv 1)) (le_var (pv 2))) la_nil) (len_cons (fun _ _ _ _ h => len_nil h))))))))))
theorem ok__law_names (T : Tx K mg) : FnOk P w K mg base CX0 (2) T.a__law_names T.d__law_names ["_law_cell"] (Sp0 ⟨P, w, K, mg, B0⟩ 1 f__law_names) := by
  refine fn0 T.F__law_names sc__law_names rfl rfl fun cdv A outer s H E hr => ?_
  exact (lss_cons (ls_set (i := 1) sc__law_names.nd le_str)
    (lss_cons (ls_set (i := 2) sc__law_names.nd (le_call0 (ok__law_mixed T) (hr.mono (by omega)) T.g__law_mixed T.F__law_mixed.kp T.b__law_mixed (la_cons (le_var (pv 0)) la_nil) (len_cons (fun _ _ _ _ h => len_nil h))))
    (lss_cons (ls_set (i := 3) sc__law_names.nd (le_call0 (ok__law_digits T) (hr.mono (by omega)) T.g__law_digits T.F__law_digits.kp T.b__law_digits (la_cons (le_op op_divD (le_var (pv 2)) le_int) (la_cons (le_op op_addD le_int (le_op op_modD (le_var (pv 2)) le_int)) (la_cons le_int la_nil))) (len_cons (len_cons (len_cons (fun _ _ _ _ h => len_nil h))))))
    (lss_cons (ls_set (i := 4) sc__law_names.nd (le_op op_modD (le_op op_modD (le_op op_divD (le_var (pv 2)) le_int) le_int) (le_callB call_lenD (by rfl) T.z_len (by decide +kernel) (la_cons (le_var (pv 3)) la_nil))))
    (lss_cons (ls_set (i := 5) sc__law_names.nd (le_lst la_nil))
    (lss_cons (ls_for PassesOwn.never rfl (li_rng1 (by rfl) T.z_range (la_cons le_int la_nil)) (lg_name (pg_name (i := 6) sc__law_names.nd rfl (by first | exact Or.inl rfl | exact Or.inr rfl))) (lss_one (ls_expr (le_bm PySem.F.plainAttrs_list PySem.F.slot_list_append PySem.F.type_list_append mt_appD (le_var (pv 5)) (la_cons (le_bm PySem.F.plainAttrs_str PySem.F.slot_str_join PySem.F.type_str_join mt_joinD le_str (la_cons (le_lc (own := [("_law_k", 7)]) rfl sc__law_names.nd (li_rng1 (by rfl) T.z_range (la_cons (le_callB call_lenD (by rfl) T.z_len (by decide +kernel) (la_cons (le_var (pv 3)) la_nil)) la_nil)) (blkOk_by (own := [("_law_k", 7)]) (N := ["_law_cell", "_law_letters", "_law_number", "_law_base", "_law_at", "_law_names_here", "_law_j", "_law_k"]) (sc := defScope s__law_names) (by decide +kernel)) (fun _ _ _ _ _ => (lgw_name (pg_name (i := 7) sc__law_names.nd rfl (by first | exact Or.inl rfl | exact Or.inr rfl)) (by decide))) (fun _ _ _ _ _ => lts_nil) (fun _ _ _ _ _ => (le_ix ix_D (le_var (pv 1)) (le_op op_modD (le_op op_addD (le_ix ix_D (le_var (pv 3)) (le_var (pv 7)) (fun _ _ => rfl)) (le_op op_mulD (le_var (pv 6)) (le_callTy call_int1D (by rfl) T.z_int (by decide +kernel) (la_cons (le_cmp (op_eqDD hr.units) (le_var (pv 7)) (le_var (pv 4)) (nomark _)) la_nil)))) le_int) (fun _ _ => rfl)))) la_nil)) la_nil)))))
    (lss_one (ls_ret (le_var (pv 5))))))))))
theorem ok__law_spots (T : Tx K mg) : FnOk P w K mg base CX0 (2) T.a__law_spots T.d__law_spots ["_law_number", "_law_many", "_law_wide"] (Sp0 ⟨P, w, K, mg, B0⟩ 3 f__law_spots) := by
  refine fn0 T.F__law_spots sc__law_spots rfl rfl fun cdv A outer s H E hr => ?_
  exact (lss_cons (ls_set (i := 3) sc__law_spots.nd (le_call0 (ok__law_digits T) (hr.mono (by omega)) T.g__law_digits T.F__law_digits.kp T.b__law_digits (la_cons (le_op op_divD (le_var (pv 0)) le_int) (la_cons (le_var (pv 1)) (la_cons (le_var (pv 2)) la_nil))) (len_cons (len_cons (len_cons (fun _ _ _ _ h => len_nil h))))))
    (lss_cons (ls_if (PW.pt (lw_and (lt_cmp (op_eqDD hr.units) (le_op op_modD (le_var (pv 0)) le_int) le_int (nomark _)) (lw_and (lt_cmp op_gtD (le_var (pv 1)) le_int (nomark _)) (lw_and1 (lt_cmp op_ltD (le_var (pv 2)) le_int (nomark _)))))) (lss_cons (ls_asg (le_op op_addD (le_var (pv 2)) (le_op op_modD (le_op op_divD (le_var (pv 0)) le_int) (le_op op_subD le_int (le_var (pv 2))))) (lg_sub (le_var (pv 3)) (le_op op_modD (le_op op_divD (le_var (pv 0)) le_int) (le_var (pv 1)))))
    (lss_one (ls_ret (le_tup (la_cons (le_var (pv 3)) (la_cons le_int la_nil)))))) lss_nil)
    (lss_one (ls_ret (le_tup (la_cons (le_var (pv 3)) (la_cons le_int la_nil)))))))
theorem ok__law_one (T : Tx K mg) : FnOk P w K mg base CX0 (3) T.a__law_one T.d__law_one ["_law_number", "_law_word", "_law_now"] (Sp0 ⟨P, w, K, mg, B0⟩ 3 f__law_one) := by
  refine fn0 T.F__law_one sc__law_one rfl rfl fun cdv A outer s H E hr => ?_
  exact (lss_cons (ls_set (i := 3) sc__law_one.nd (le_ix ix_D (le_var (pv 2)) le_int (fun _ _ => rfl)))
    (lss_cons (ls_asg (le_call0 (ok__law_spots T) (hr.mono (by omega)) T.g__law_spots T.F__law_spots.kp T.b__law_spots (la_cons (le_op op_divD (le_var (pv 0)) le_int) (la_cons (le_op op_addD le_int (le_op op_modD (le_var (pv 0)) le_int)) (la_cons (le_var (pv 3)) la_nil))) (len_cons (len_cons (len_cons (fun _ _ _ _ h => len_nil h))))) (lg_tup rfl (lgs_cons (lg_name (pg_name (i := 4) sc__law_one.nd rfl (by first | exact Or.inl rfl | exact Or.inr rfl))) (lgs_cons (lg_name (pg_name (i := 5) sc__law_one.nd rfl (by first | exact Or.inl rfl | exact Or.inr rfl))) lgs_nil))))
    (lss_cons (ls_if (lt_cmp (op_eqDD hr.units) (le_var (pv 1)) le_str (nomark _)) (lss_cons (ls_set (i := 4) sc__law_one.nd (le_slice (le_var (pv 4)) lo_none (lo_some le_int)))
    (lss_cons (ls_set (i := 5) sc__law_one.nd (le_op op_mulD le_int (le_callTy call_int1D (by rfl) T.z_int (by decide +kernel) (la_cons (le_cmp op_geD (le_callB (call_maxLD rfl) (by rfl) T.z_max (by decide +kernel) (la_cons (le_var (pv 4)) la_nil)) (le_var (pv 3)) (nomark _)) la_nil))))
    (lss_cons (ls_set (i := 6) sc__law_one.nd (le_call0 (ok__law_asking T) (hr.mono (by omega)) T.g__law_asking T.F__law_asking.kp T.b__law_asking (la_cons (le_op op_divD (le_var (pv 0)) le_int) (la_cons (le_tup (la_cons le_str (la_cons (le_ix ix_D (le_var (pv 4)) le_int (fun _ _ => rfl)) la_nil))) la_nil)) (len_cons (len_cons (fun _ _ _ _ h => len_nil h)))))
    (lss_cons (ls_for PassesOwn.never rfl (li_rng2 (by rfl) T.z_range (la_cons le_int (la_cons (le_callB call_lenD (by rfl) T.z_len (by decide +kernel) (la_cons (le_var (pv 4)) la_nil)) la_nil))) (lg_name (pg_name (i := 7) sc__law_one.nd rfl (by first | exact Or.inl rfl | exact Or.inr rfl))) (lss_one (ls_set (i := 6) sc__law_one.nd (le_tup (la_cons (le_ix ix_D (le_lst (la_cons le_str (la_cons le_str la_nil))) (le_op op_modD (le_var (pv 7)) le_int) (fun _ _ => rfl)) (la_cons (le_var (pv 6)) (la_cons (le_call0 (ok__law_asking T) (hr.mono (by omega)) T.g__law_asking T.F__law_asking.kp T.b__law_asking (la_cons (le_op op_divD (le_op op_divD (le_var (pv 0)) le_int) (le_var (pv 7))) (la_cons (le_tup (la_cons le_str (la_cons (le_ix ix_D (le_var (pv 4)) (le_var (pv 7)) (fun _ _ => rfl)) la_nil))) la_nil)) (len_cons (len_cons (fun _ _ _ _ h => len_nil h)))) la_nil)))))))
    (lss_one (ls_set (i := 8) sc__law_one.nd (le_tup (la_cons (le_var (pv 1)) (la_cons (le_ix ix_D (le_var (pv 2)) le_int (fun _ _ => rfl)) (la_cons (le_var (pv 6)) la_nil)))))))))) (lss_one (ls_if (lt_cmp (op_eqDD hr.units) (le_var (pv 1)) le_str (nomark _)) (lss_cons (ls_set (i := 4) sc__law_one.nd (le_slice (le_var (pv 4)) lo_none (lo_some le_int)))
    (lss_cons (ls_set (i := 5) sc__law_one.nd (le_op op_mulD le_int (le_callTy call_int1D (by rfl) T.z_int (by decide +kernel) (la_cons (le_cmp op_geD (le_callB (call_maxLD rfl) (by rfl) T.z_max (by decide +kernel) (la_cons (le_var (pv 4)) la_nil)) (le_var (pv 3)) (nomark _)) la_nil))))
    (lss_cons (ls_set (i := 8) sc__law_one.nd (le_tup (la_cons (le_var (pv 1)) (la_cons (le_ix ix_D (le_var (pv 2)) le_int (fun _ _ => rfl)) (la_cons (le_callTy call_tupleD (by rfl) T.z_tuple (by decide +kernel) (la_cons (le_lc (own := [("_law_k", 7)]) rfl sc__law_one.nd (li_rng1 (by rfl) T.z_range (la_cons (le_callB call_lenD (by rfl) T.z_len (by decide +kernel) (la_cons (le_var (pv 4)) la_nil)) la_nil)) (blkOk_by (own := [("_law_k", 7)]) (N := ["_law_number", "_law_word", "_law_now", "_law_wide", "_law_spots_here", "_law_due", "_law_asked", "_law_k", "_law_view", "_law_order", "_law_p", "_law_by"]) (sc := defScope s__law_one) (by decide +kernel)) (fun _ _ _ _ _ => (lgw_name (pg_name (i := 7) sc__law_one.nd rfl (by first | exact Or.inl rfl | exact Or.inr rfl)) (by decide))) (fun _ _ _ _ _ => lts_nil) (fun _ _ _ _ _ => (le_call0 (ok__law_term T) (hr.mono (by omega)) T.g__law_term T.F__law_term.kp T.b__law_term (la_cons (le_op op_addD (le_op op_divD (le_var (pv 0)) le_int) (le_var (pv 7))) (la_cons (le_tup (la_cons le_str (la_cons (le_ix ix_D (le_var (pv 4)) (le_var (pv 7)) (fun _ _ => rfl)) la_nil))) la_nil)) (len_cons (len_cons (fun _ _ _ _ h => len_nil h)))))) la_nil)) la_nil)))))
    (lss_one (ls_set (i := 3) sc__law_one.nd (le_callB call_lenD (by rfl) T.z_len (by decide +kernel) (la_cons (le_var (pv 4)) la_nil))))))) (lss_one (ls_if (lt_cmp (op_eqDD hr.units) (le_var (pv 1)) le_str (nomark _)) (lss_cons (ls_set (i := 5) sc__law_one.nd le_int)
    (lss_one (ls_set (i := 8) sc__law_one.nd (le_tup (la_cons (le_var (pv 1)) (la_cons (le_ix ix_D (le_var (pv 2)) le_int (fun _ _ => rfl)) la_nil)))))) (lss_one (ls_if (lt_cmp (op_eqDD hr.units) (le_var (pv 1)) le_str (nomark _)) (lss_cons (ls_set (i := 4) sc__law_one.nd (le_slice (le_var (pv 4)) lo_none (lo_some le_int)))
    (lss_cons (ls_set (i := 5) sc__law_one.nd (le_op op_mulD le_int (le_callTy call_int1D (by rfl) T.z_int (by decide +kernel) (la_cons (le_cmp op_geD (le_callB (call_maxLD rfl) (by rfl) T.z_max (by decide +kernel) (la_cons (le_var (pv 4)) la_nil)) (le_var (pv 3)) (nomark _)) la_nil))))
    (lss_cons (ls_set (i := 3) sc__law_one.nd (le_op op_addD (le_callB call_lenD (by rfl) T.z_len (by decide +kernel) (la_cons (le_var (pv 4)) la_nil)) le_int))
    (lss_one (ls_set (i := 8) sc__law_one.nd (le_tup (la_cons (le_var (pv 1)) (la_cons (le_ix ix_D (le_var (pv 2)) le_int (fun _ _ => rfl)) (la_cons (le_callTy call_tupleD (by rfl) T.z_tuple (by decide +kernel) (la_cons (le_var (pv 4)) la_nil)) la_nil))))))))) (lss_one (ls_if (lt_cmp (op_eqDD hr.units) (le_var (pv 1)) le_str (nomark _)) (lss_cons (ls_set (i := 9) sc__law_one.nd (le_callTy call_tupleD (by rfl) T.z_tuple (by decide +kernel) (la_cons (le_slice (le_lc (own := [("_law_p", 10)]) rfl sc__law_one.nd (li_seq (le_slice (le_var (pv 4)) (lo_some (le_op op_modD (le_op op_divD (le_var (pv 0)) le_int) le_int)) lo_none)) (blkOk_by (own := [("_law_p", 10)]) (N := ["_law_number", "_law_word", "_law_now", "_law_wide", "_law_spots_here", "_law_due", "_law_asked", "_law_k", "_law_view", "_law_order", "_law_p", "_law_by"]) (sc := defScope s__law_one) (by decide +kernel)) (fun _ _ _ _ _ => (lgw_name (pg_name (i := 10) sc__law_one.nd rfl (by first | exact Or.inl rfl | exact Or.inr rfl)) (by decide))) (fun _ _ _ _ _ => lts_nil) (fun _ _ _ _ _ => (le_tup (la_cons (le_var (pv 10)) (la_cons (le_cmp (op_eqDD hr.units) (le_op op_modD (le_var (pv 10)) le_int) le_int (nomark _)) la_nil))))) lo_none (lo_some le_int)) la_nil)))
    (lss_cons (ls_set (i := 11) sc__law_one.nd (le_callTy call_tupleD (by rfl) T.z_tuple (by decide +kernel) (la_cons (le_slice (le_var (pv 4)) lo_none (lo_some (le_op op_modD (le_op op_divD (le_var (pv 0)) le_int) le_int))) la_nil)))
    (lss_cons (ls_set (i := 5) sc__law_one.nd (le_op op_mulD le_int (le_callTy call_int1D (by rfl) T.z_int (by decide +kernel) (la_cons (le_cmp op_geD (le_callB (call_maxLD rfl) (by rfl) T.z_max (by decide +kernel) (la_cons (le_slice (le_var (pv 4)) lo_none (lo_some (le_op op_addD (le_callB call_lenD (by rfl) T.z_len (by decide +kernel) (la_cons (le_var (pv 11)) la_nil)) (le_callB call_lenD (by rfl) T.z_len (by decide +kernel) (la_cons (le_var (pv 9)) la_nil))))) la_nil)) (le_var (pv 3)) (nomark _)) la_nil))))
    (lss_one (ls_set (i := 8) sc__law_one.nd (le_tup (la_cons (le_var (pv 1)) (la_cons (le_ix ix_D (le_var (pv 2)) le_int (fun _ _ => rfl)) (la_cons (le_op op_modD (le_var (pv 0)) le_int) (la_cons (le_var (pv 11)) (la_cons (le_var (pv 9)) la_nil))))))))))) (lss_cons (ls_set (i := 3) sc__law_one.nd (le_callB call_lenD (by rfl) T.z_len (by decide +kernel) (la_cons (le_var (pv 4)) la_nil)))
    (lss_one (ls_set (i := 8) sc__law_one.nd (le_tup (la_cons (le_var (pv 1)) (la_cons (le_ix ix_D (le_var (pv 2)) le_int (fun _ _ => rfl)) (la_cons (le_ix ix_D (le_var (pv 4)) le_int (fun _ _ => rfl)) (la_cons (le_callTy call_tupleD (by rfl) T.z_tuple (by decide +kernel) (la_cons (le_slice (le_var (pv 4)) (lo_some le_int) lo_none) la_nil)) la_nil)))))))))))))))))
    (lss_cons (ls_set (i := 5) sc__law_one.nd (le_call0 (ok__law_first_due T) (hr.mono (by omega)) T.g__law_first_due T.F__law_first_due.kp T.b__law_first_due (la_cons (le_lst (la_cons (le_ix ix_D (le_var (pv 2)) le_int (fun _ _ => rfl)) (la_cons (le_var (pv 5)) (la_cons (le_call0 (ok__law_beyond T) (hr.mono (by omega)) T.g__law_beyond T.F__law_beyond.kp T.b__law_beyond (la_cons (le_var (pv 3)) la_nil) (len_cons (fun _ _ _ _ h => len_nil h))) la_nil)))) la_nil) (len_cons (fun _ _ _ _ h => len_nil h))))
    (lss_one (ls_ret (le_tup (la_cons (le_var (pv 8)) (la_cons (le_callB (call_minD rfl) (by rfl) T.z_min (by decide +kernel) (la_cons (le_var (pv 3)) (la_cons le_int la_nil))) (la_cons (le_var (pv 5)) (la_cons (le_op op_addD (le_op op_addD le_int (le_op op_mulD le_int (le_callB call_lenD (by rfl) T.z_len (by decide +kernel) (la_cons (le_var (pv 4)) la_nil)))) (le_ix ix_D (le_var (pv 2)) le_int (fun _ _ => rfl))) (la_cons (le_op op_addD le_int (le_ix ix_D (le_var (pv 2)) le_int (fun _ _ => rfl))) la_nil))))))))))))
theorem ok__law_two (T : Tx K mg) : FnOk P w K mg base CX0 (3) T.a__law_two T.d__law_two ["_law_number", "_law_word", "_law_now", "_law_kept"] (Sp0 ⟨P, w, K, mg, B0⟩ 4 f__law_two) := by
  refine fn0 T.F__law_two sc__law_two rfl rfl fun cdv A outer s H E hr => ?_
  exact (lss_cons (ls_set (i := 4) sc__law_two.nd (le_ix ix_D (le_var (pv 2)) le_int (fun _ _ => rfl)))
    (lss_cons (ls_set (i := 5) sc__law_two.nd (le_lst (la_cons (le_ix ix_D (le_var (pv 2)) le_int (fun _ _ => rfl)) (la_cons (le_ix ix_D (le_var (pv 3)) le_int (fun _ _ => rfl)) la_nil))))
    (lss_cons (ls_set (i := 6) sc__law_two.nd le_int)
    (lss_cons (ls_if (lt_cmp op_inD (le_var (pv 1)) (le_tup (la_cons le_str (la_cons le_str (la_cons le_str (la_cons le_str la_nil))))) (by rfl)) (lss_cons (ls_expr (le_bm PySem.F.plainAttrs_list PySem.F.slot_list_append PySem.F.type_list_append mt_appD (le_var (pv 5)) (la_cons (le_op op_mulD le_int (le_callTy call_int1D (by rfl) T.z_int (by decide +kernel) (la_cons (le_cmp (op_neDD hr.units) (le_var (pv 4)) (le_ix ix_D (le_var (pv 3)) le_int (fun _ _ => rfl)) (nomark _)) la_nil))) la_nil)))
    (lss_one (ls_set (i := 7) sc__law_two.nd (le_tup (la_cons (le_var (pv 1)) (la_cons (le_ix ix_D (le_var (pv 2)) le_int (fun _ _ => rfl)) (la_cons (le_ix ix_D (le_var (pv 3)) le_int (fun _ _ => rfl)) la_nil))))))) (lss_cons (ls_set (i := 6) sc__law_two.nd (le_op op_modD (le_var (pv 0)) le_int))
    (lss_cons (ls_asg (le_call0 (ok__law_spots T) (hr.mono (by omega)) T.g__law_spots T.F__law_spots.kp T.b__law_spots (la_cons (le_op op_addD (le_op op_divD (le_var (pv 0)) le_int) (le_op op_mulD le_int (le_op op_modD (le_var (pv 0)) le_int))) (la_cons (le_var (pv 6)) (la_cons (le_var (pv 4)) la_nil))) (len_cons (len_cons (len_cons (fun _ _ _ _ h => len_nil h))))) (lg_tup rfl (lgs_cons (lg_name (pg_name (i := 8) sc__law_two.nd rfl (by first | exact Or.inl rfl | exact Or.inr rfl))) (lgs_cons (lg_name (pg_name (i := 9) sc__law_two.nd rfl (by first | exact Or.inl rfl | exact Or.inr rfl))) lgs_nil))))
    (lss_cons (ls_asg (le_call0 (ok__law_spots T) (hr.mono (by omega)) T.g__law_spots T.F__law_spots.kp T.b__law_spots (la_cons (le_op op_addD (le_op op_divD (le_var (pv 0)) le_int) (le_op op_mulD le_int (le_op op_subD le_int (le_op op_modD (le_var (pv 0)) le_int)))) (la_cons (le_var (pv 6)) (la_cons (le_ix ix_D (le_var (pv 3)) le_int (fun _ _ => rfl)) la_nil))) (len_cons (len_cons (len_cons (fun _ _ _ _ h => len_nil h))))) (lg_tup rfl (lgs_cons (lg_name (pg_name (i := 10) sc__law_two.nd rfl (by first | exact Or.inl rfl | exact Or.inr rfl))) (lgs_cons (lg_name (pg_name (i := 11) sc__law_two.nd rfl (by first | exact Or.inl rfl | exact Or.inr rfl))) lgs_nil))))
    (lss_cons (ls_set (i := 5) sc__law_two.nd (le_op op_addD (le_var (pv 5)) (le_lst (la_cons (le_var (pv 9)) (la_cons (le_var (pv 11)) la_nil)))))
    (lss_cons (ls_set (i := 7) sc__law_two.nd (le_tup (la_cons (le_var (pv 1)) (la_cons (le_ix ix_D (le_var (pv 2)) le_int (fun _ _ => rfl)) (la_cons (le_ix ix_D (le_var (pv 3)) le_int (fun _ _ => rfl)) (la_cons (le_callTy call_tupleD (by rfl) T.z_tuple (by decide +kernel) (la_cons (le_listZip rfl (by rfl) T.z_list (by rfl) T.z_zip (la_cons (le_var (pv 8)) (la_cons (le_var (pv 10)) la_nil))) la_nil)) la_nil))))))
    (lss_one (ls_if (lt_cmp (op_neDD hr.units) (le_var (pv 1)) le_str (nomark _)) (lss_cons (ls_set (i := 4) sc__law_two.nd (le_op op_addD (le_var (pv 4)) (le_ix ix_D (le_var (pv 3)) le_int (fun _ _ => rfl))))
    (lss_one (ls_expr (le_bm PySem.F.plainAttrs_list PySem.F.slot_list_append PySem.F.type_list_append mt_appD (le_var (pv 5)) (la_cons (le_call0 (ok__law_beyond T) (hr.mono (by omega)) T.g__law_beyond T.F__law_beyond.kp T.b__law_beyond (la_cons (le_var (pv 4)) la_nil) (len_cons (fun _ _ _ _ h => len_nil h))) la_nil))))) lss_nil))))))))
    (lss_cons (ls_set (i := 9) sc__law_two.nd (le_call0 (ok__law_first_due T) (hr.mono (by omega)) T.g__law_first_due T.F__law_first_due.kp T.b__law_first_due (la_cons (le_var (pv 5)) la_nil) (len_cons (fun _ _ _ _ h => len_nil h))))
    (lss_one (ls_ret (le_tup (la_cons (le_var (pv 7)) (la_cons (le_callB (call_minD rfl) (by rfl) T.z_min (by decide +kernel) (la_cons (le_var (pv 4)) (la_cons le_int la_nil))) (la_cons (le_var (pv 9)) (la_cons (le_op op_addD (le_op op_addD (le_op op_addD le_int (le_op op_mulD le_int (le_var (pv 6)))) (le_ix ix_D (le_var (pv 2)) le_int (fun _ _ => rfl))) (le_ix ix_D (le_var (pv 3)) le_int (fun _ _ => rfl))) (la_cons (le_op op_addD le_int (le_callB (call_maxD rfl) (by rfl) T.z_max (by decide +kernel) (la_cons (le_ix ix_D (le_var (pv 2)) le_int (fun _ _ => rfl)) (la_cons (le_ix ix_D (le_var (pv 3)) le_int (fun _ _ => rfl)) la_nil)))) la_nil)))))))))))))
theorem ok__law_rounds (T : Tx K mg) : FnOk P w K mg base CX0 (4) T.a__law_rounds T.d__law_rounds ["_law_number", "_law_now", "_law_kept", "_law_name", "_law_known"] (Sp0 ⟨P, w, K, mg, B0⟩ 5 f__law_rounds) := by
  refine fn0 T.F__law_rounds sc__law_rounds rfl rfl fun cdv A outer s H E hr => ?_
  exact (lss_cons (ls_set (i := 5) sc__law_rounds.nd (le_op op_modD (le_var (pv 0)) le_int))
    (lss_cons (ls_set (i := 6) sc__law_rounds.nd (le_tup (la_cons (le_tup (la_cons le_str (la_cons (le_var (pv 3)) la_nil))) (la_cons (le_ix ix_D (le_var (pv 1)) le_int (fun _ _ => rfl)) (la_cons le_int (la_cons le_int (la_cons le_int la_nil)))))))
    (lss_cons (ls_set (i := 7) sc__law_rounds.nd (le_var (pv 6)))
    (lss_cons (ls_set (i := 8) sc__law_rounds.nd le_int)
    (lss_cons (ls_if (lt_cmp (op_eqDD hr.units) (le_var (pv 5)) le_int (nomark _)) (lss_cons (ls_set (i := 3) sc__law_rounds.nd (le_var (pv 4)))
    (lss_one (ls_set (i := 8) sc__law_rounds.nd le_int))) lss_nil)
    (lss_cons (ls_if (lt_cmp (op_eqDD hr.units) (le_var (pv 5)) le_int (nomark _)) (lss_one (ls_set (i := 1) sc__law_rounds.nd (le_tup (la_cons (le_tup (la_cons le_str (la_cons (le_var (pv 3)) la_nil))) (la_cons (le_ix ix_D (le_var (pv 1)) le_int (fun _ _ => rfl)) (la_cons le_int (la_cons le_int (la_cons le_int la_nil)))))))) lss_nil)
    (lss_cons (ls_if (lt_cmp (op_eqDD hr.units) (le_var (pv 5)) le_int (nomark _)) (lss_one (ls_set (i := 7) sc__law_rounds.nd (le_var (pv 2)))) lss_nil)
    (lss_cons (ls_if (lt_cmp (op_eqDD hr.units) (le_var (pv 5)) le_int (nomark _)) (lss_one (ls_set (i := 7) sc__law_rounds.nd (le_tup (la_cons (le_tup (la_cons le_str (la_cons (le_var (pv 3)) (la_cons le_int (la_cons (le_ix ix_D (le_var (pv 6)) le_int (fun _ _ => rfl)) (la_cons (le_ix ix_D (le_var (pv 6)) le_int (fun _ _ => rfl)) la_nil)))))) (la_cons (le_ix ix_D (le_var (pv 1)) le_int (fun _ _ => rfl)) (la_cons le_int (la_cons le_int (la_cons le_int la_nil)))))))) lss_nil)
    (lss_cons (ls_if (lt_cmp (op_eqDD hr.units) (le_var (pv 5)) le_int (nomark _)) (lss_one (ls_set (i := 1) sc__law_rounds.nd (le_tup (la_cons (le_tup (la_cons le_str (la_cons (le_var (pv 3)) (la_cons le_int (la_cons (le_ix ix_D (le_var (pv 1)) le_int (fun _ _ => rfl)) (la_cons (le_ix ix_D (le_var (pv 6)) le_int (fun _ _ => rfl)) la_nil)))))) (la_cons (le_ix ix_D (le_var (pv 1)) le_int (fun _ _ => rfl)) (la_cons (le_ix ix_D (le_var (pv 1)) le_int (fun _ _ => rfl)) (la_cons (le_op op_addD le_int (le_ix ix_D (le_var (pv 1)) le_int (fun _ _ => rfl))) (la_cons (le_op op_addD le_int (le_ix ix_D (le_var (pv 1)) le_int (fun _ _ => rfl))) la_nil)))))))) lss_nil)
    (lss_cons (ls_if (lt_chain op_ltD op_ltD le_int (le_var (pv 5)) le_int) (lss_one (ls_set (i := 7) sc__law_rounds.nd (le_call0 (ok__law_two T) (hr.mono (by omega)) T.g__law_two T.F__law_two.kp T.b__law_two (la_cons (le_op op_divD (le_var (pv 0)) le_int) (la_cons (le_ix ix_D (le_lst (la_cons le_str (la_cons le_str (la_cons le_str (la_cons le_str la_nil))))) (le_op op_modD (le_op op_divD (le_var (pv 0)) le_int) le_int) (fun _ _ => rfl)) (la_cons (le_var (pv 6)) (la_cons (le_var (pv 2)) la_nil)))) (len_cons (len_cons (len_cons (len_cons (fun _ _ _ _ h => len_nil h)))))))) lss_nil)
    (lss_cons (ls_set (i := 9) sc__law_rounds.nd (le_tup (la_cons le_str (la_cons (le_var (pv 3)) (la_cons (le_op op_addD le_int (le_op op_modD (le_op op_divD (le_var (pv 0)) le_int) le_int)) (la_cons (le_ix ix_D (le_var (pv 1)) le_int (fun _ _ => rfl)) (la_cons (le_ix ix_D (le_var (pv 7)) le_int (fun _ _ => rfl)) la_nil)))))))
    (lss_cons (ls_set (i := 10) sc__law_rounds.nd (le_call0 (ok__law_first_due T) (hr.mono (by omega)) T.g__law_first_due T.F__law_first_due.kp T.b__law_first_due (la_cons (le_lst (la_cons (le_var (pv 8)) (la_cons (le_ix ix_D (le_var (pv 1)) le_int (fun _ _ => rfl)) (la_cons (le_ix ix_D (le_var (pv 7)) le_int (fun _ _ => rfl)) (la_cons (le_op op_mulD le_int (le_callTy call_int1D (by rfl) T.z_int (by decide +kernel) (la_cons (le_cmp (op_neDD hr.units) (le_ix ix_D (le_var (pv 1)) le_int (fun _ _ => rfl)) (le_ix ix_D (le_var (pv 7)) le_int (fun _ _ => rfl)) (nomark _)) la_nil))) la_nil))))) la_nil) (len_cons (fun _ _ _ _ h => len_nil h))))
    (lss_cons (ls_set (i := 11) sc__law_rounds.nd (le_tup (la_cons (le_var (pv 9)) (la_cons (le_ix ix_D (le_var (pv 1)) le_int (fun _ _ => rfl)) (la_cons (le_var (pv 10)) (la_cons (le_op op_addD (le_op op_addD le_int (le_ix ix_D (le_var (pv 1)) le_int (fun _ _ => rfl))) (le_ix ix_D (le_var (pv 7)) le_int (fun _ _ => rfl))) (la_cons (le_op op_addD le_int (le_callB (call_maxD rfl) (by rfl) T.z_max (by decide +kernel) (la_cons (le_ix ix_D (le_var (pv 1)) le_int (fun _ _ => rfl)) (la_cons (le_ix ix_D (le_var (pv 7)) le_int (fun _ _ => rfl)) la_nil)))) la_nil)))))))
    (lss_cons (ls_if (lt_cmp (op_eqDD hr.units) (le_var (pv 5)) le_int (nomark _)) (lss_one (ls_ret (le_tup (la_cons (le_tup (la_cons le_str (la_cons (le_var (pv 9)) (la_cons (le_ix ix_D (le_var (pv 6)) le_int (fun _ _ => rfl)) la_nil)))) (la_cons (le_ix ix_D (le_var (pv 1)) le_int (fun _ _ => rfl)) (la_cons (le_call0 (ok__law_first_due T) (hr.mono (by omega)) T.g__law_first_due T.F__law_first_due.kp T.b__law_first_due (la_cons (le_lst (la_cons (le_var (pv 10)) (la_cons le_int la_nil))) la_nil) (len_cons (fun _ _ _ _ h => len_nil h))) (la_cons (le_op op_addD le_int (le_ix ix_D (le_var (pv 11)) le_int (fun _ _ => rfl))) (la_cons (le_op op_addD le_int (le_ix ix_D (le_var (pv 11)) le_int (fun _ _ => rfl))) la_nil)))))))) lss_nil)
    (lss_one (ls_ret (le_var (pv 11))))))))))))))))))
theorem ok__law_next (T : Tx K mg) : FnOk P w K mg base CX0 (5) T.a__law_next T.d__law_next ["_law_cell", "_law_number", "_law_now", "_law_kept", "_law_name", "_law_known"] (Sp0 ⟨P, w, K, mg, B0⟩ 6 f__law_next) := by
  refine fn0 T.F__law_next sc__law_next rfl rfl fun cdv A outer s H E hr => ?_
  exact (lss_cons (ls_set (i := 6) sc__law_next.nd (le_ix ix_D (le_lst (la_cons le_str (la_cons le_str (la_cons le_str (la_cons le_str (la_cons le_str (la_cons le_str (la_cons le_str (la_cons le_str (la_cons le_str (la_cons le_str (la_cons le_str (la_cons le_str (la_cons le_str (la_cons le_str (la_cons le_str (la_cons le_str la_nil))))))))))))))))) (le_op op_subD (le_op op_modD (le_var (pv 0)) le_int) le_int) (fun _ _ => rfl)))
    (lss_cons (ls_if (lt_cmp (op_eqDD hr.units) (le_op op_modD (le_op op_divD (le_var (pv 0)) le_int) le_int) le_int (nomark _)) (lss_one (ls_par (i := 2) (j := 3) rfl sc__law_next.nd (la_cons (le_var (pv 3)) (la_cons (le_var (pv 2)) la_nil)))) lss_nil)
    (lss_cons (ls_if (lt_cmp (op_eqDD hr.units) (le_var (pv 6)) le_str (nomark _)) (lss_one (ls_ret (le_call0 (ok__law_rounds T) (hr.mono (by omega)) T.g__law_rounds T.F__law_rounds.kp T.b__law_rounds (la_cons (le_var (pv 1)) (la_cons (le_var (pv 2)) (la_cons (le_var (pv 3)) (la_cons (le_var (pv 4)) (la_cons (le_var (pv 5)) la_nil))))) (len_cons (len_cons (len_cons (len_cons (len_cons (fun _ _ _ _ h => len_nil h))))))))) lss_nil)
    (lss_cons (ls_if (lt_cmp op_inD (le_var (pv 6)) (le_tup (la_cons le_str (la_cons le_str (la_cons le_str (la_cons le_str (la_cons le_str (la_cons le_str (la_cons le_str la_nil)))))))) (by rfl)) (lss_one (ls_ret (le_call0 (ok__law_two T) (hr.mono (by omega)) T.g__law_two T.F__law_two.kp T.b__law_two (la_cons (le_var (pv 1)) (la_cons (le_var (pv 6)) (la_cons (le_var (pv 2)) (la_cons (le_var (pv 3)) la_nil)))) (len_cons (len_cons (len_cons (len_cons (fun _ _ _ _ h => len_nil h)))))))) lss_nil)
    (lss_one (ls_ret (le_call0 (ok__law_one T) (hr.mono (by omega)) T.g__law_one T.F__law_one.kp T.b__law_one (la_cons (le_var (pv 1)) (la_cons (le_var (pv 6)) (la_cons (le_var (pv 2)) la_nil))) (len_cons (len_cons (len_cons (fun _ _ _ _ h => len_nil h)))))))))))
theorem okb_places_in (T : Tx K mg) (d : Nat) (r_places_in : Fn) (ih_places_in : FnOk P w K mg base CX0 (0 + d) T.a_places_in T.d_places_in ["expr"] (Sp0 ⟨P, w, K, mg, B0⟩ 1 r_places_in)) : FnOk P w K mg base CX0 (0 + d + 1) T.a_places_in T.d_places_in ["expr"] (Sp0 ⟨P, w, K, mg, B0⟩ 1 (fnF 3 (b_places_in r_places_in))) := by
  refine fn0 T.F_places_in sc_places_in rfl rfl fun cdv A outer s H E hr => ?_
  exact (lss_cons (ls_if (lt_cmp (op_eqDD hr.units) (le_ix ix_D (le_var (pv 0)) le_int (fun _ _ => rfl)) le_str (nomark _)) (lss_one (ls_ret (le_lst (la_cons (le_ix ix_D (le_var (pv 0)) le_int (fun _ _ => rfl)) la_nil)))) lss_nil)
    (lss_cons (ls_set (i := 1) sc_places_in.nd (le_lst la_nil))
    (lss_cons (ls_for PassesOwn.never rfl (li_seq (le_slice (le_var (pv 0)) (lo_some le_int) lo_none)) (lg_name (pg_name (i := 2) sc_places_in.nd rfl (by first | exact Or.inl rfl | exact Or.inr rfl))) (lss_one (ls_if (lt_val (le_callB call_isiD (by rfl) T.z_isinstance (by decide +kernel) (la_cons (le_var (pv 2)) (la_cons (le_ty (by rfl) T.z_tuple (by decide +kernel)) la_nil)))) (lss_one (ls_expr (le_bm PySem.F.plainAttrs_list PySem.F.slot_list_extend PySem.F.type_list_extend mt_extD (le_var (pv 1)) (la_cons (le_call0 ih_places_in (hr.mono (by omega)) T.g_places_in T.F_places_in.kp T.b_places_in (la_cons (le_var (pv 2)) la_nil) (len_cons (fun _ _ _ _ h => len_nil h))) la_nil)))) lss_nil)))
    (lss_one (ls_ret (le_var (pv 1)))))))
theorem okA_places_in (T : Tx K mg) : ∀ d : Nat, (FnOk P w K mg base CX0 (0 + d) T.a_places_in T.d_places_in ["expr"] (Sp0 ⟨P, w, K, mg, B0⟩ 1 (f_places_in d)))
  | 0 => fn_bad rfl
  | d + 1 => by
    obtain h_places_in := okA_places_in T d
    exact okb_places_in T d _ h_places_in
theorem ok_places_in (T : Tx K mg) (d : Nat) : FnOk P w K mg base CX0 (0 + d) T.a_places_in T.d_places_in ["expr"] (Sp0 ⟨P, w, K, mg, B0⟩ 1 (f_places_in d)) := (okA_places_in T d)
theorem ok_places_of (T : Tx K mg) : FnOk P w K mg base CX0 (11) T.a_places_of T.d_places_of ["view"] (Sp0 ⟨P, w, K, mg, B0⟩ 1 f_places_of) := by
  refine fn0 T.F_places_of sc_places_of rfl rfl fun cdv A outer s H E hr => ?_
  exact (lss_cons (ls_set (i := 1) sc_places_of.nd (le_ix ix_D (le_var (pv 0)) le_int (fun _ _ => rfl)))
    (lss_cons (ls_if (lt_cmp (op_eqDD hr.units) (le_var (pv 1)) le_str (nomark _)) (lss_one (ls_ret (le_call0 (ok_places_in T 10) (hr.mono (by omega)) T.g_places_in T.F_places_in.kp T.b_places_in (la_cons (le_ix ix_D (le_var (pv 0)) le_int (fun _ _ => rfl)) la_nil) (len_cons (fun _ _ _ _ h => len_nil h))))) lss_nil)
    (lss_cons (ls_if (lt_cmp (op_eqDD hr.units) (le_var (pv 1)) le_str (nomark _)) (lss_cons (ls_set (i := 2) sc_places_of.nd (le_lst la_nil))
    (lss_cons (ls_for PassesOwn.never rfl (li_seq (le_ix ix_D (le_var (pv 0)) le_int (fun _ _ => rfl))) (lg_name (pg_name (i := 3) sc_places_of.nd rfl (by first | exact Or.inl rfl | exact Or.inr rfl))) (lss_one (ls_expr (le_bm PySem.F.plainAttrs_list PySem.F.slot_list_extend PySem.F.type_list_extend mt_extD (le_var (pv 2)) (la_cons (le_call0 (ok_places_in T 10) (hr.mono (by omega)) T.g_places_in T.F_places_in.kp T.b_places_in (la_cons (le_var (pv 3)) la_nil) (len_cons (fun _ _ _ _ h => len_nil h))) la_nil)))))
    (lss_one (ls_ret (le_var (pv 2)))))) lss_nil)
    (lss_cons (ls_if (lt_cmp (op_eqDD hr.units) (le_var (pv 1)) le_str (nomark _)) (lss_one (ls_ret (le_lst la_nil))) lss_nil)
    (lss_cons (ls_if (lt_cmp (op_eqDD hr.units) (le_var (pv 1)) le_str (nomark _)) (lss_one (ls_ret (le_callTy call_listD (by rfl) T.z_list (by decide +kernel) (la_cons (le_ix ix_D (le_var (pv 0)) le_int (fun _ _ => rfl)) la_nil)))) lss_nil)
    (lss_cons (ls_if (lt_cmp (op_eqDD hr.units) (le_var (pv 1)) le_str (nomark _)) (lss_one (ls_ret (le_op op_addD (le_callTy call_listD (by rfl) T.z_list (by decide +kernel) (la_cons (le_ix ix_D (le_var (pv 0)) le_int (fun _ _ => rfl)) la_nil)) (le_lc (own := [("pair", 4)]) rfl sc_places_of.nd (li_seq (le_ix ix_D (le_var (pv 0)) le_int (fun _ _ => rfl))) (blkOk_by (own := [("pair", 4)]) (N := ["view", "word", "found", "expr", "pair"]) (sc := defScope s_places_of) (by decide +kernel)) (fun _ _ _ _ _ => (lgw_name (pg_name (i := 4) sc_places_of.nd rfl (by first | exact Or.inl rfl | exact Or.inr rfl)) (by decide))) (fun _ _ _ _ _ => lts_nil) (fun _ _ _ _ _ => (le_ix ix_D (le_var (pv 4)) le_int (fun _ _ => rfl))))))) lss_nil)
    (lss_one (ls_ret (le_op op_addD (le_callTy call_listD (by rfl) T.z_list (by decide +kernel) (la_cons (le_ix ix_D (le_var (pv 0)) le_int (fun _ _ => rfl)) la_nil)) (le_lst (la_cons (le_ix ix_D (le_var (pv 0)) le_int (fun _ _ => rfl)) la_nil)))))))))))
theorem okb_look_rounds (T : Tx K mg) (d : Nat) (r_look_rounds : Fn) (r_look : Fn) (ih_look_rounds : FnOk P w K mg base (L2.CX P w) (11 + d) T.a_look_rounds T.d_look_rounds ["view", "widths"] (SpD ⟨P, w, K, mg, B0⟩ 2 r_look_rounds)) (ih_look : FnOk P w K mg base (L2.CX P w) (11 + d) T.a_look T.d_look ["view", "widths"] (SpD ⟨P, w, K, mg, B0⟩ 2 r_look)) : FnOk P w K mg base (L2.CX P w) (11 + d + 1) T.a_look_rounds T.d_look_rounds ["view", "widths"] (SpD ⟨P, w, K, mg, B0⟩ 2 (fnF 4 (b_look_rounds r_look_rounds r_look))) := by
  refine fn1 T.F_look_rounds sc_look_rounds rfl rfl fun cdv A outer s H E hr => ?_
  exact (lss_cons (ls_if (lt_din (uu hr.units) (le_ix ix_D (le_var (pv 0)) le_int (fun _ _ => rfl)) (le_var (pv 1))) (lss_one (ls_raise rfl (takes_of rfl rfl rfl rfl) PySem.F.excBase_ValueError T.x_Twice T.r_Twice)) lss_nil)
    (lss_cons (ls_set (i := 2) sc_look_rounds.nd (le_callQ ih_look (hr.mono (by omega)) T.g_look T.F_look.kp T.b_look (takes_of rfl rfl rfl rfl) (la_cons (le_ix ix_D (le_var (pv 0)) le_int (fun _ _ => rfl)) (la_cons (le_var (pv 1)) la_nil)) (len_cons (len_cons (fun _ _ _ _ h => len_nil h)))))
    (lss_cons (ls_set (i := 3) sc_look_rounds.nd (le_callTy call_dictDD (by rfl) T.z_dict (by decide +kernel) (la_cons (le_var (pv 1)) la_nil)))
    (lss_cons (ls_dput (uu hr.units) (le_var (pv 3)) (le_ix ix_D (le_var (pv 0)) le_int (fun _ _ => rfl)) (le_var (pv 2)))
    (lss_cons (ls_if (lt_cmp (op_neDD hr.units) (le_callQ ih_look (hr.mono (by omega)) T.g_look T.F_look.kp T.b_look (takes_of rfl rfl rfl rfl) (la_cons (le_ix ix_D (le_var (pv 0)) le_int (fun _ _ => rfl)) (la_cons (le_var (pv 3)) la_nil)) (len_cons (len_cons (fun _ _ _ _ h => len_nil h)))) (le_var (pv 2)) (nomark _)) (lss_one (ls_raise rfl (takes_of rfl rfl rfl rfl) PySem.F.excBase_ValueError T.x_Unlike T.r_Unlike)) lss_nil)
    (lss_one (ls_ret (le_var (pv 2)))))))))
theorem okb_look (T : Tx K mg) (d : Nat) (r_look_rounds : Fn) (r_look : Fn) (ih_look_rounds : FnOk P w K mg base (L2.CX P w) (11 + d) T.a_look_rounds T.d_look_rounds ["view", "widths"] (SpD ⟨P, w, K, mg, B0⟩ 2 r_look_rounds)) (ih_look : FnOk P w K mg base (L2.CX P w) (11 + d) T.a_look T.d_look ["view", "widths"] (SpD ⟨P, w, K, mg, B0⟩ 2 r_look)) : FnOk P w K mg base (L2.CX P w) (11 + d + 1) T.a_look T.d_look ["view", "widths"] (SpD ⟨P, w, K, mg, B0⟩ 2 (fnF 4 (b_look r_look_rounds r_look))) := by
  refine fn1 T.F_look sc_look rfl rfl fun cdv A outer s H E hr => ?_
  exact (lss_cons (ls_set (i := 2) sc_look.nd (le_ix ix_D (le_var (pv 0)) le_int (fun _ _ => rfl)))
    (lss_cons (ls_if (lt_cmp (op_eqDD hr.units) (le_var (pv 2)) le_str (nomark _)) (lss_cons (ls_if (lt_dnotin (uu hr.units) (le_ix ix_D (le_var (pv 0)) le_int (fun _ _ => rfl)) (le_var (pv 1))) (lss_one (ls_raise rfl (takes_of rfl rfl rfl rfl) PySem.F.excBase_ValueError T.x_NoName T.r_NoName)) lss_nil)
    (lss_one (ls_ret (le_dix (uu hr.units) (le_var (pv 1)) (le_ix ix_D (le_var (pv 0)) le_int (fun _ _ => rfl)) (fun _ _ => rfl))))) lss_nil)
    (lss_cons (ls_if (lt_cmp (op_eqDD hr.units) (le_var (pv 2)) le_str (nomark _)) (lss_one (ls_ret (le_callQ ih_look_rounds (hr.mono (by omega)) T.g_look_rounds T.F_look_rounds.kp T.b_look_rounds (takes_of rfl rfl rfl rfl) (la_cons (le_var (pv 0)) (la_cons (le_var (pv 1)) la_nil)) (len_cons (len_cons (fun _ _ _ _ h => len_nil h)))))) lss_nil)
    (lss_cons (ls_set (i := 3) sc_look.nd (le_callQ ih_look (hr.mono (by omega)) T.g_look T.F_look.kp T.b_look (takes_of rfl rfl rfl rfl) (la_cons (le_ix ix_D (le_var (pv 0)) le_int (fun _ _ => rfl)) (la_cons (le_var (pv 1)) la_nil)) (len_cons (len_cons (fun _ _ _ _ h => len_nil h)))))
    (lss_cons (ls_if (lt_cmp op_inD (le_var (pv 2)) (le_tup (la_cons le_str (la_cons le_str (la_cons le_str (la_cons le_str (la_cons le_str (la_cons le_str (la_cons le_str la_nil)))))))) (by rfl)) (lss_one (ls_ret (le_callQ (ok_look_two T) (hr.mono (by omega)) T.g_look_two T.F_look_two.kp T.b_look_two (takes_of rfl rfl rfl rfl) (la_cons (le_var (pv 0)) (la_cons (le_var (pv 3)) (la_cons (le_callQ ih_look (hr.mono (by omega)) T.g_look T.F_look.kp T.b_look (takes_of rfl rfl rfl rfl) (la_cons (le_ix ix_D (le_var (pv 0)) le_int (fun _ _ => rfl)) (la_cons (le_var (pv 1)) la_nil)) (len_cons (len_cons (fun _ _ _ _ h => len_nil h)))) la_nil))) (len_cons (len_cons (len_cons (fun _ _ _ _ h => len_nil h))))))) lss_nil)
    (lss_cons (ls_expr (le_callQ (ok_not_beyond T) (hr.mono (by omega)) T.g_not_beyond T.F_not_beyond.kp T.b_not_beyond (takes_of rfl rfl rfl rfl) (la_cons (le_callN (ok_places_of T) (hr.mono (by omega)) T.g_places_of T.F_places_of.kp T.b_places_of (la_cons (le_var (pv 0)) la_nil) (len_cons (fun _ _ _ _ h => len_nil h))) (la_cons (le_var (pv 3)) la_nil)) (len_cons (len_cons (fun _ _ _ _ h => len_nil h)))))
    (lss_cons (ls_if (lt_cmp (op_eqDD hr.units) (le_var (pv 2)) le_str (nomark _)) (lss_one (ls_ret (le_callB call_lenD (by rfl) T.z_len (by decide +kernel) (la_cons (le_ix ix_D (le_var (pv 0)) le_int (fun _ _ => rfl)) la_nil)))) lss_nil)
    (lss_cons (ls_if (lt_cmp (op_eqDD hr.units) (le_var (pv 2)) le_str (nomark _)) (lss_one (ls_ret (le_callQ (ok_not_wide T) (hr.mono (by omega)) T.g_not_wide T.F_not_wide.kp T.b_not_wide (takes_of rfl rfl rfl rfl) (la_cons (le_op op_addD (le_callB call_lenD (by rfl) T.z_len (by decide +kernel) (la_cons (le_ix ix_D (le_var (pv 0)) le_int (fun _ _ => rfl)) la_nil)) le_int) la_nil) (len_cons (fun _ _ _ _ h => len_nil h))))) lss_nil)
    (lss_cons (ls_if (lt_cmp op_inD (le_var (pv 2)) (le_tup (la_cons le_str (la_cons le_str (la_cons le_str la_nil)))) (by rfl)) (lss_one (ls_ret (le_callQ (ok_not_wide T) (hr.mono (by omega)) T.g_not_wide T.F_not_wide.kp T.b_not_wide (takes_of rfl rfl rfl rfl) (la_cons (le_op op_addD (le_callB call_lenD (by rfl) T.z_len (by decide +kernel) (la_cons (le_ix ix_D (le_var (pv 0)) le_int (fun _ _ => rfl)) la_nil)) le_int) la_nil) (len_cons (fun _ _ _ _ h => len_nil h))))) lss_nil)
    (lss_one (ls_ret (le_var (pv 3)))))))))))))
theorem okA_look_rounds (T : Tx K mg) : ∀ d : Nat, (FnOk P w K mg base (L2.CX P w) (11 + d) T.a_look_rounds T.d_look_rounds ["view", "widths"] (SpD ⟨P, w, K, mg, B0⟩ 2 (f_look_rounds d))) ∧ (FnOk P w K mg base (L2.CX P w) (11 + d) T.a_look T.d_look ["view", "widths"] (SpD ⟨P, w, K, mg, B0⟩ 2 (f_look d)))
  | 0 => ⟨fn_badX rfl, fn_badX rfl⟩
  | d + 1 => by
    obtain ⟨h_look_rounds, h_look⟩ := okA_look_rounds T d
    exact ⟨okb_look_rounds T d _ _ h_look_rounds h_look, okb_look T d _ _ h_look_rounds h_look⟩
theorem ok_look_rounds (T : Tx K mg) (d : Nat) : FnOk P w K mg base (L2.CX P w) (11 + d) T.a_look_rounds T.d_look_rounds ["view", "widths"] (SpD ⟨P, w, K, mg, B0⟩ 2 (f_look_rounds d)) := (okA_look_rounds T d).1
theorem ok_look (T : Tx K mg) (d : Nat) : FnOk P w K mg base (L2.CX P w) (11 + d) T.a_look T.d_look ["view", "widths"] (SpD ⟨P, w, K, mg, B0⟩ 2 (f_look d)) := (okA_look_rounds T d).2
theorem ok__law_fits (T : Tx K mg) : FnOk P w K mg base CX0 (92) T.a__law_fits T.d__law_fits ["_law_view", "_law_widths", "_law_wide", "_law_due"] (Sp0 ⟨P, w, K, mg, B0⟩ 4 f__law_fits) := by
  refine fn0 T.F__law_fits sc__law_fits rfl rfl fun cdv A outer s H E hr => ?_
  exact (lss_cons (ls_set (i := 4) sc__law_fits.nd (le_callTy call_dictDD (by rfl) T.z_dict (by decide +kernel) (la_cons (le_var (pv 1)) la_nil)))
    (lss_cons (ls_set (i := 5) sc__law_fits.nd le_non)
    (lss_cons (ls_set (i := 6) sc__law_fits.nd (le_lst la_nil))
    (lss_cons (ls_tryK (i := 5) (ie := 7) (j := 6) (cs := [V.ref T.e_NoName, V.ref T.e_NoPlace, V.ref T.e_Unlike, V.ref T.e_Wide, V.ref T.e_Twice, V.ty "ValueError", V.ref T.e_NoText, V.ref T.e_NoRow, V.ref T.e_NoWidth, V.ref T.e_NoCount, V.ref T.e_TooLarge, V.ref T.e_Short, V.ref T.e_NoChange]) (kinds := kinds__law_fits) (cV := Value.ref T.e_ViewError) rfl rfl sc__law_fits.nd rfl rfl ⟨by rfl, by decide, .inl T.x_ViewError⟩ takes0 (ok_look T 80) (hr.mono (by omega)) T.g_look T.F_look.kp T.b_look (fun _ _ => (la_cons (le_var (pv 0)) (la_cons (le_var (pv 4)) la_nil))) (len_cons (len_cons (fun _ _ _ _ h => len_nil h))) ⟨T.kd⟩ (fun D a oe pn hC hz hf => by exact (pa_cons (pe_callB (call_isE hC hz hf) (by rfl) T.z_isinstance (by decide +kernel) (pa_cons (pv 7) (pa_cons (pe_glob (by rfl) T.x_NoName rfl) pa_nil))) (pa_cons (pe_callB (call_isE hC hz hf) (by rfl) T.z_isinstance (by decide +kernel) (pa_cons (pv 7) (pa_cons (pe_glob (by rfl) T.x_NoPlace rfl) pa_nil))) (pa_cons (pe_callB (call_isE hC hz hf) (by rfl) T.z_isinstance (by decide +kernel) (pa_cons (pv 7) (pa_cons (pe_glob (by rfl) T.x_Unlike rfl) pa_nil))) (pa_cons (pe_callB (call_isE hC hz hf) (by rfl) T.z_isinstance (by decide +kernel) (pa_cons (pv 7) (pa_cons (pe_glob (by rfl) T.x_Wide rfl) pa_nil))) (pa_cons (pe_callB (call_isE hC hz hf) (by rfl) T.z_isinstance (by decide +kernel) (pa_cons (pv 7) (pa_cons (pe_glob (by rfl) T.x_Twice rfl) pa_nil))) (pa_cons (pe_callB (call_isE hC hz hf) (by rfl) T.z_isinstance (by decide +kernel) (pa_cons (pv 7) (pa_cons (pe_bltn (v := V.ty "ValueError") (by rfl) T.z_ValueError (by decide +kernel) rfl) pa_nil))) (pa_cons (pe_callB (call_isE hC hz hf) (by rfl) T.z_isinstance (by decide +kernel) (pa_cons (pv 7) (pa_cons (pe_glob (by rfl) T.x_NoText rfl) pa_nil))) (pa_cons (pe_callB (call_isE hC hz hf) (by rfl) T.z_isinstance (by decide +kernel) (pa_cons (pv 7) (pa_cons (pe_glob (by rfl) T.x_NoRow rfl) pa_nil))) (pa_cons (pe_callB (call_isE hC hz hf) (by rfl) T.z_isinstance (by decide +kernel) (pa_cons (pv 7) (pa_cons (pe_glob (by rfl) T.x_NoWidth rfl) pa_nil))) (pa_cons (pe_callB (call_isE hC hz hf) (by rfl) T.z_isinstance (by decide +kernel) (pa_cons (pv 7) (pa_cons (pe_glob (by rfl) T.x_NoCount rfl) pa_nil))) (pa_cons (pe_callB (call_isE hC hz hf) (by rfl) T.z_isinstance (by decide +kernel) (pa_cons (pv 7) (pa_cons (pe_glob (by rfl) T.x_TooLarge rfl) pa_nil))) (pa_cons (pe_callB (call_isE hC hz hf) (by rfl) T.z_isinstance (by decide +kernel) (pa_cons (pv 7) (pa_cons (pe_glob (by rfl) T.x_Short rfl) pa_nil))) (pa_cons (pe_callB (call_isE hC hz hf) (by rfl) T.z_isinstance (by decide +kernel) (pa_cons (pv 7) (pa_cons (pe_glob (by rfl) T.x_NoChange rfl) pa_nil))) pa_nil)))))))))))))) rfl (by first | exact Or.inl rfl | exact Or.inr rfl) rfl (by first | exact Or.inl rfl | exact Or.inr rfl) (by decide))
    (lss_cons (ls_if (lt_cmp (op_neDC (uv hr.units)) (le_var (pv 4)) (le_var (pv 1)) (nomark _)) (lss_one (ls_ret le_bl)) lss_nil)
    (lss_cons (ls_if (lt_cmp (op_eqDD hr.units) (le_var (pv 3)) le_int (nomark _)) (lss_one (ls_ret (le_and (le_cmp (op_eqBL hr.units) (le_var (pv 6)) (le_lst la_nil) (nomark _)) (le_and (le_call0 (ok__law_whole T) (hr.mono (by omega)) T.g__law_whole T.F__law_whole.kp T.b__law_whole (la_cons (le_var (pv 5)) la_nil) (len_cons (fun _ _ _ _ h => len_nil h))) (le_and1 (le_cmp (op_eqDD hr.units) (le_var (pv 5)) (le_var (pv 2)) (nomark _))))))) lss_nil)
    (lss_one (ls_ret (le_cmp (op_eqBL hr.units) (le_var (pv 6)) (le_op op_addD (le_op op_addD (le_lc (own := [("_law_k", 8)]) rfl sc__law_fits.nd (li_rng2 (by rfl) T.z_range (la_cons le_int (la_cons le_int la_nil))) (blkOk_by (own := [("_law_k", 8)]) (N := ["_law_view", "_law_widths", "_law_wide", "_law_due", "_law_handed", "_law_found", "_law_kinds", "e", "_law_k"]) (sc := defScope s__law_fits) (by decide +kernel)) (fun _ _ _ _ _ => (lgw_name (pg_name (i := 8) sc__law_fits.nd rfl (by first | exact Or.inl rfl | exact Or.inr rfl)) (by decide))) (fun _ _ _ _ _ => lts_nil) (fun _ _ _ _ _ => (le_cmp (op_eqDD hr.units) (le_var (pv 3)) (le_var (pv 8)) (nomark _)))) (le_lst (la_cons le_bl la_nil))) (le_op op_repD (le_lst (la_cons le_bl la_nil)) le_int)) (nomark _))))))))))
theorem ok_law (T : Tx K mg) : FnOk P w K mg base CX0 (93) T.a_law T.d_law ["_law_script"] (Sp0 ⟨P, w, K, mg, B0⟩ 1 f_law) := by
  refine fn0 T.F_law sc_law rfl rfl fun cdv A outer s H E hr => ?_
  exact (lss_cons (ls_set (i := 1) sc_law.nd (le_call0 (ok__law_names T) (hr.mono (by omega)) T.g__law_names T.F__law_names.kp T.b__law_names (la_cons (le_call0 (ok__law_cell_at T) (hr.mono (by omega)) T.g__law_cell_at T.F__law_cell_at.kp T.b__law_cell_at (la_cons (le_var (pv 0)) (la_cons le_int la_nil)) (len_cons (len_cons (fun _ _ _ _ h => len_nil h)))) la_nil) (len_cons (fun _ _ _ _ h => len_nil h))))
    (lss_cons (ls_set (i := 2) sc_law.nd (le_dic pe_dnewK))
    (lss_cons (ls_for PassesOwn.never rfl (li_rng1 (by rfl) T.z_range (la_cons le_int la_nil)) (lg_name (pg_name (i := 3) sc_law.nd rfl (by first | exact Or.inl rfl | exact Or.inr rfl))) (lss_one (ls_dput (uu hr.units) (le_var (pv 2)) (le_ix ix_D (le_var (pv 1)) (le_var (pv 3)) (fun _ _ => rfl)) (le_op op_addD le_int (le_op op_modD (le_call0 (ok__law_cell_at T) (hr.mono (by omega)) T.g__law_cell_at T.F__law_cell_at.kp T.b__law_cell_at (la_cons (le_var (pv 0)) (la_cons (le_op op_addD le_int (le_var (pv 3))) la_nil)) (len_cons (len_cons (fun _ _ _ _ h => len_nil h)))) le_int)))))
    (lss_cons (ls_setLc (i := 4) (own := [("_law_name", 5)]) rfl sc_law.nd (sw_true rfl rfl rfl (by decide +kernel)) (li_seq (le_var (pv 1))) (blkOk_by (own := [("_law_name", 5)]) (N := ["_law_script", "_law_names_here", "_law_widths", "_law_j", "_law_tables", "_law_name", "_law_now", "_law_kept", "_law_k", "_law_cell", "_law_last"]) (sc := defScope s_law) (by decide +kernel)) (fun _ _ _ _ _ => (lgw_name (pg_name (i := 5) sc_law.nd rfl (by first | exact Or.inl rfl | exact Or.inr rfl)) (by decide))) (fun _ _ _ _ _ => lts_nil) (fun _ _ _ _ _ => (le_tup (la_cons (le_tup (la_cons le_str (la_cons (le_var (pv 5)) la_nil))) (la_cons (le_dix (uu hr.units) (le_var (pv 2)) (le_var (pv 5)) (fun _ _ => rfl)) (la_cons le_int (la_cons le_int (la_cons le_int la_nil))))))))
    (lss_cons (ls_expr (le_bm PySem.F.plainAttrs_list PySem.F.slot_list_append PySem.F.type_list_append mt_appD (le_var (pv 4)) (la_cons (le_tup (la_cons (le_tup (la_cons le_str (la_cons (le_op op_addD (le_ix ix_D (le_var (pv 1)) le_int (fun _ _ => rfl)) le_str) la_nil))) (la_cons le_int (la_cons le_int (la_cons le_int (la_cons le_int la_nil)))))) la_nil)))
    (lss_cons (ls_set (i := 6) sc_law.nd (le_ix ix_D (le_var (pv 4)) (le_op op_modD (le_call0 (ok__law_cell_at T) (hr.mono (by omega)) T.g__law_cell_at T.F__law_cell_at.kp T.b__law_cell_at (la_cons (le_var (pv 0)) (la_cons le_int la_nil)) (len_cons (len_cons (fun _ _ _ _ h => len_nil h)))) le_int) (fun _ _ => rfl)))
    (lss_cons (ls_set (i := 7) sc_law.nd (le_ix ix_D (le_var (pv 4)) (le_op op_modD (le_op op_divD (le_call0 (ok__law_cell_at T) (hr.mono (by omega)) T.g__law_cell_at T.F__law_cell_at.kp T.b__law_cell_at (la_cons (le_var (pv 0)) (la_cons le_int la_nil)) (len_cons (len_cons (fun _ _ _ _ h => len_nil h)))) le_int) le_int) (fun _ _ => rfl)))
    (lss_cons (ls_for PassesOwn.never rfl (li_rng2 (by rfl) T.z_range (la_cons le_int (la_cons (le_callB (call_minD rfl) (by rfl) T.z_min (by decide +kernel) (la_cons (le_callB call_lenD (by rfl) T.z_len (by decide +kernel) (la_cons (le_var (pv 0)) la_nil)) (la_cons le_int la_nil))) la_nil))) (lg_name (pg_name (i := 8) sc_law.nd rfl (by first | exact Or.inl rfl | exact Or.inr rfl))) (lss_cons (ls_set (i := 9) sc_law.nd (le_ix ix_D (le_var (pv 0)) (le_var (pv 8)) (fun _ _ => rfl)))
    (lss_cons (ls_set (i := 10) sc_law.nd (le_var (pv 6)))
    (lss_cons (ls_if (lt_cmp op_ltD (le_op op_modD (le_var (pv 9)) le_int) le_int (nomark _)) (lss_cons (ls_set (i := 7) sc_law.nd (le_var (pv 6)))
    (lss_one (ls_set (i := 6) sc_law.nd (le_ix ix_D (le_var (pv 4)) (le_ix ix_D (le_lst (la_cons (le_op op_modD (le_op op_divD (le_var (pv 9)) le_int) le_int) (la_cons le_int la_nil))) (le_callTy call_int1D (by rfl) T.z_int (by decide +kernel) (la_cons (le_cmp (op_eqDD hr.units) (le_op op_modD (le_var (pv 9)) le_int) le_int (nomark _)) la_nil)) (fun _ _ => rfl)) (fun _ _ => rfl))))) (lss_one (ls_set (i := 6) sc_law.nd (le_call0 (ok__law_next T) (hr.mono (by omega)) T.g__law_next T.F__law_next.kp T.b__law_next (la_cons (le_var (pv 9)) (la_cons (le_call0 (ok__law_mixed T) (hr.mono (by omega)) T.g__law_mixed T.F__law_mixed.kp T.b__law_mixed (la_cons (le_op op_addD (le_op op_mulD le_int (le_var (pv 9))) (le_var (pv 8))) la_nil) (len_cons (fun _ _ _ _ h => len_nil h))) (la_cons (le_var (pv 6)) (la_cons (le_var (pv 7)) (la_cons (le_call0 (ok__law_fresh T) (hr.mono (by omega)) T.g__law_fresh T.F__law_fresh.kp T.b__law_fresh (la_cons (le_var (pv 1)) (la_cons (le_var (pv 8)) la_nil)) (len_cons (len_cons (fun _ _ _ _ h => len_nil h)))) (la_cons (le_ix ix_D (le_var (pv 1)) (le_op op_modD (le_op op_divD (le_var (pv 9)) le_int) le_int) (fun _ _ => rfl)) la_nil)))))) (len_cons (len_cons (len_cons (len_cons (len_cons (len_cons (fun _ _ _ _ h => len_nil h)))))))))))
    (lss_one (ls_if (PW.pt (lw_or (lt_cmp op_gtD (le_ix ix_D (le_var (pv 6)) le_int (fun _ _ => rfl)) le_int (nomark _)) (lw_or1 (lt_cmp op_gtD (le_ix ix_D (le_var (pv 6)) le_int (fun _ _ => rfl)) le_int (nomark _))))) (lss_cons (ls_if (lt_not (lt_val (le_call0 (ok__law_fits T) (hr.mono (by omega)) T.g__law_fits T.F__law_fits.kp T.b__law_fits (la_cons (le_ix ix_D (le_var (pv 10)) le_int (fun _ _ => rfl)) (la_cons (le_var (pv 2)) (la_cons (le_ix ix_D (le_var (pv 10)) le_int (fun _ _ => rfl)) (la_cons (le_ix ix_D (le_var (pv 10)) le_int (fun _ _ => rfl)) la_nil)))) (len_cons (len_cons (len_cons (len_cons (fun _ _ _ _ h => len_nil h)))))))) (lss_one (ls_ret le_bl)) lss_nil)
    (lss_one (ls_set (i := 6) sc_law.nd (le_ix ix_D (le_var (pv 4)) (le_op op_modD (le_op op_divD (le_var (pv 9)) le_int) le_int) (fun _ _ => rfl))))) lss_nil))))))
    (lss_one (ls_ret (le_and (le_call0 (ok__law_fits T) (hr.mono (by omega)) T.g__law_fits T.F__law_fits.kp T.b__law_fits (la_cons (le_ix ix_D (le_var (pv 6)) le_int (fun _ _ => rfl)) (la_cons (le_var (pv 2)) (la_cons (le_ix ix_D (le_var (pv 6)) le_int (fun _ _ => rfl)) (la_cons (le_ix ix_D (le_var (pv 6)) le_int (fun _ _ => rfl)) la_nil)))) (len_cons (len_cons (len_cons (len_cons (fun _ _ _ _ h => len_nil h)))))) (le_and1 (le_call0 (ok__law_fits T) (hr.mono (by omega)) T.g__law_fits T.F__law_fits.kp T.b__law_fits (la_cons (le_ix ix_D (le_var (pv 7)) le_int (fun _ _ => rfl)) (la_cons (le_var (pv 2)) (la_cons (le_ix ix_D (le_var (pv 7)) le_int (fun _ _ => rfl)) (la_cons (le_ix ix_D (le_var (pv 7)) le_int (fun _ _ => rfl)) la_nil)))) (len_cons (len_cons (len_cons (len_cons (fun _ _ _ _ h => len_nil h))))))))))))))))))
end
/-! ### what the top has written -/
theorem all_mk {l : PySem.W.OpenLaw} {w : World} {K : PySem.W.Frag} {h : Heap} {mg : Str → Option Value} {fa f0 f1 f2 f3 f4 f5 f6 f7 f8 f9 f10 f11 f12 f13 f14 f15 f16 f17 f18 f19 f20 f21 f22 f23 : Addr} (X : K.In h) (G : h.Ns mainGlobals mg) (hfa : mg "law" = some (.ref fa))
    {od0 an0 od1 an1 od2 an2 od3 an3 od4 an4 od5 an5 od6 an6 od7 an7 od8 an8 od9 an9 od10 an10 od11 an11 od12 an12 od13 an13 od14 an14 od15 an15 od16 an16 od17 an17 od18 an18 od19 an19 od20 an20 od21 an21 od22 an22 od23 an23 : Option Addr} {sl0 sl1 sl2 sl3 sl4 sl5 sl6 sl7 sl8 sl9 sl10 sl11 sl12 sl13 sl14 sl15 sl16 sl17 sl18 sl19 sl20 sl21 sl22 sl23 : Array (Option Value)} {oc0 kV0 dc0 pm0 cd0 ct0 oc1 kV1 dc1 pm1 cd1 ct1 oc2 kV2 dc2 pm2 cd2 ct2 oc3 kV3 dc3 pm3 cd3 ct3 oc4 kV4 dc4 pm4 cd4 ct4 oc5 kV5 dc5 pm5 cd5 ct5 oc6 kV6 dc6 pm6 cd6 ct6 oc7 kV7 dc7 pm7 cd7 ct7 oc8 kV8 dc8 pm8 cd8 ct8 oc9 kV9 dc9 pm9 cd9 ct9 oc10 kV10 dc10 pm10 cd10 ct10 oc11 kV11 dc11 pm11 cd11 ct11 oc12 kV12 dc12 pm12 cd12 ct12 oc13 kV13 dc13 pm13 cd13 ct13 oc14 kV14 dc14 pm14 cd14 ct14 oc15 kV15 dc15 pm15 cd15 ct15 oc16 kV16 dc16 pm16 cd16 ct16 oc17 kV17 dc17 pm17 cd17 ct17 oc18 kV18 dc18 pm18 cd18 ct18 oc19 kV19 dc19 pm19 cd19 ct19 oc20 kV20 dc20 pm20 cd20 ct20 oc21 kV21 dc21 pm21 cd21 ct21 oc22 kV22 dc22 pm22 cd22 ct22 oc23 kV23 dc23 pm23 cd23 ct23 : Value}
    (a0 : PySem.W.nsIn K mainGlobals "not_beyond" = some (some (.ref f0))) (l0 : K.lookup f0 = some ⟨oc0, od0, .func (PySem.W.fnOf "not_beyond" "not_beyond" (defArgs s_not_beyond) (defBody s_not_beyond) (defScope s_not_beyond) .none kV0 dc0 pm0 an0 cd0 ct0), sl0⟩) (c0 : PySem.W.codeIn K cd0 "not_beyond" = true) (k0 : PySem.W.keepIn K (.ref f0) = true)
    (a1 : PySem.W.nsIn K mainGlobals "not_wide" = some (some (.ref f1))) (l1 : K.lookup f1 = some ⟨oc1, od1, .func (PySem.W.fnOf "not_wide" "not_wide" (defArgs s_not_wide) (defBody s_not_wide) (defScope s_not_wide) .none kV1 dc1 pm1 an1 cd1 ct1), sl1⟩) (c1 : PySem.W.codeIn K cd1 "not_wide" = true) (k1 : PySem.W.keepIn K (.ref f1) = true)
    (a2 : PySem.W.nsIn K mainGlobals "_law_cell_at" = some (some (.ref f2))) (l2 : K.lookup f2 = some ⟨oc2, od2, .func (PySem.W.fnOf "_law_cell_at" "_law_cell_at" (defArgs s__law_cell_at) (defBody s__law_cell_at) (defScope s__law_cell_at) .none kV2 dc2 pm2 an2 cd2 ct2), sl2⟩) (c2 : PySem.W.codeIn K cd2 "_law_cell_at" = true) (k2 : PySem.W.keepIn K (.ref f2) = true)
    (a3 : PySem.W.nsIn K mainGlobals "_law_whole" = some (some (.ref f3))) (l3 : K.lookup f3 = some ⟨oc3, od3, .func (PySem.W.fnOf "_law_whole" "_law_whole" (defArgs s__law_whole) (defBody s__law_whole) (defScope s__law_whole) .none kV3 dc3 pm3 an3 cd3 ct3), sl3⟩) (c3 : PySem.W.codeIn K cd3 "_law_whole" = true) (k3 : PySem.W.keepIn K (.ref f3) = true)
    (a4 : PySem.W.nsIn K mainGlobals "_law_mixed" = some (some (.ref f4))) (l4 : K.lookup f4 = some ⟨oc4, od4, .func (PySem.W.fnOf "_law_mixed" "_law_mixed" (defArgs s__law_mixed) (defBody s__law_mixed) (defScope s__law_mixed) .none kV4 dc4 pm4 an4 cd4 ct4), sl4⟩) (c4 : PySem.W.codeIn K cd4 "_law_mixed" = true) (k4 : PySem.W.keepIn K (.ref f4) = true)
    (a5 : PySem.W.nsIn K mainGlobals "_law_digits" = some (some (.ref f5))) (l5 : K.lookup f5 = some ⟨oc5, od5, .func (PySem.W.fnOf "_law_digits" "_law_digits" (defArgs s__law_digits) (defBody s__law_digits) (defScope s__law_digits) .none kV5 dc5 pm5 an5 cd5 ct5), sl5⟩) (c5 : PySem.W.codeIn K cd5 "_law_digits" = true) (k5 : PySem.W.keepIn K (.ref f5) = true)
    (a6 : PySem.W.nsIn K mainGlobals "_law_fresh" = some (some (.ref f6))) (l6 : K.lookup f6 = some ⟨oc6, od6, .func (PySem.W.fnOf "_law_fresh" "_law_fresh" (defArgs s__law_fresh) (defBody s__law_fresh) (defScope s__law_fresh) .none kV6 dc6 pm6 an6 cd6 ct6), sl6⟩) (c6 : PySem.W.codeIn K cd6 "_law_fresh" = true) (k6 : PySem.W.keepIn K (.ref f6) = true)
    (a7 : PySem.W.nsIn K mainGlobals "_law_first_due" = some (some (.ref f7))) (l7 : K.lookup f7 = some ⟨oc7, od7, .func (PySem.W.fnOf "_law_first_due" "_law_first_due" (defArgs s__law_first_due) (defBody s__law_first_due) (defScope s__law_first_due) .none kV7 dc7 pm7 an7 cd7 ct7), sl7⟩) (c7 : PySem.W.codeIn K cd7 "_law_first_due" = true) (k7 : PySem.W.keepIn K (.ref f7) = true)
    (a8 : PySem.W.nsIn K mainGlobals "_law_beyond" = some (some (.ref f8))) (l8 : K.lookup f8 = some ⟨oc8, od8, .func (PySem.W.fnOf "_law_beyond" "_law_beyond" (defArgs s__law_beyond) (defBody s__law_beyond) (defScope s__law_beyond) .none kV8 dc8 pm8 an8 cd8 ct8), sl8⟩) (c8 : PySem.W.codeIn K cd8 "_law_beyond" = true) (k8 : PySem.W.keepIn K (.ref f8) = true)
    (a9 : PySem.W.nsIn K mainGlobals "_law_asking" = some (some (.ref f9))) (l9 : K.lookup f9 = some ⟨oc9, od9, .func (PySem.W.fnOf "_law_asking" "_law_asking" (defArgs s__law_asking) (defBody s__law_asking) (defScope s__law_asking) .none kV9 dc9 pm9 an9 cd9 ct9), sl9⟩) (c9 : PySem.W.codeIn K cd9 "_law_asking" = true) (k9 : PySem.W.keepIn K (.ref f9) = true)
    (a10 : PySem.W.nsIn K mainGlobals "_law_term" = some (some (.ref f10))) (l10 : K.lookup f10 = some ⟨oc10, od10, .func (PySem.W.fnOf "_law_term" "_law_term" (defArgs s__law_term) (defBody s__law_term) (defScope s__law_term) .none kV10 dc10 pm10 an10 cd10 ct10), sl10⟩) (c10 : PySem.W.codeIn K cd10 "_law_term" = true) (k10 : PySem.W.keepIn K (.ref f10) = true)
    (a11 : PySem.W.nsIn K mainGlobals "look_two" = some (some (.ref f11))) (l11 : K.lookup f11 = some ⟨oc11, od11, .func (PySem.W.fnOf "look_two" "look_two" (defArgs s_look_two) (defBody s_look_two) (defScope s_look_two) .none kV11 dc11 pm11 an11 cd11 ct11), sl11⟩) (c11 : PySem.W.codeIn K cd11 "look_two" = true) (k11 : PySem.W.keepIn K (.ref f11) = true)
    (a12 : PySem.W.nsIn K mainGlobals "_law_names" = some (some (.ref f12))) (l12 : K.lookup f12 = some ⟨oc12, od12, .func (PySem.W.fnOf "_law_names" "_law_names" (defArgs s__law_names) (defBody s__law_names) (defScope s__law_names) .none kV12 dc12 pm12 an12 cd12 ct12), sl12⟩) (c12 : PySem.W.codeIn K cd12 "_law_names" = true) (k12 : PySem.W.keepIn K (.ref f12) = true)
    (a13 : PySem.W.nsIn K mainGlobals "_law_spots" = some (some (.ref f13))) (l13 : K.lookup f13 = some ⟨oc13, od13, .func (PySem.W.fnOf "_law_spots" "_law_spots" (defArgs s__law_spots) (defBody s__law_spots) (defScope s__law_spots) .none kV13 dc13 pm13 an13 cd13 ct13), sl13⟩) (c13 : PySem.W.codeIn K cd13 "_law_spots" = true) (k13 : PySem.W.keepIn K (.ref f13) = true)
    (a14 : PySem.W.nsIn K mainGlobals "_law_one" = some (some (.ref f14))) (l14 : K.lookup f14 = some ⟨oc14, od14, .func (PySem.W.fnOf "_law_one" "_law_one" (defArgs s__law_one) (defBody s__law_one) (defScope s__law_one) .none kV14 dc14 pm14 an14 cd14 ct14), sl14⟩) (c14 : PySem.W.codeIn K cd14 "_law_one" = true) (k14 : PySem.W.keepIn K (.ref f14) = true)
    (a15 : PySem.W.nsIn K mainGlobals "_law_two" = some (some (.ref f15))) (l15 : K.lookup f15 = some ⟨oc15, od15, .func (PySem.W.fnOf "_law_two" "_law_two" (defArgs s__law_two) (defBody s__law_two) (defScope s__law_two) .none kV15 dc15 pm15 an15 cd15 ct15), sl15⟩) (c15 : PySem.W.codeIn K cd15 "_law_two" = true) (k15 : PySem.W.keepIn K (.ref f15) = true)
    (a16 : PySem.W.nsIn K mainGlobals "_law_rounds" = some (some (.ref f16))) (l16 : K.lookup f16 = some ⟨oc16, od16, .func (PySem.W.fnOf "_law_rounds" "_law_rounds" (defArgs s__law_rounds) (defBody s__law_rounds) (defScope s__law_rounds) .none kV16 dc16 pm16 an16 cd16 ct16), sl16⟩) (c16 : PySem.W.codeIn K cd16 "_law_rounds" = true) (k16 : PySem.W.keepIn K (.ref f16) = true)
    (a17 : PySem.W.nsIn K mainGlobals "_law_next" = some (some (.ref f17))) (l17 : K.lookup f17 = some ⟨oc17, od17, .func (PySem.W.fnOf "_law_next" "_law_next" (defArgs s__law_next) (defBody s__law_next) (defScope s__law_next) .none kV17 dc17 pm17 an17 cd17 ct17), sl17⟩) (c17 : PySem.W.codeIn K cd17 "_law_next" = true) (k17 : PySem.W.keepIn K (.ref f17) = true)
    (a18 : PySem.W.nsIn K mainGlobals "places_in" = some (some (.ref f18))) (l18 : K.lookup f18 = some ⟨oc18, od18, .func (PySem.W.fnOf "places_in" "places_in" (defArgs s_places_in) (defBody s_places_in) (defScope s_places_in) .none kV18 dc18 pm18 an18 cd18 ct18), sl18⟩) (c18 : PySem.W.codeIn K cd18 "places_in" = true) (k18 : PySem.W.keepIn K (.ref f18) = true)
    (a19 : PySem.W.nsIn K mainGlobals "places_of" = some (some (.ref f19))) (l19 : K.lookup f19 = some ⟨oc19, od19, .func (PySem.W.fnOf "places_of" "places_of" (defArgs s_places_of) (defBody s_places_of) (defScope s_places_of) .none kV19 dc19 pm19 an19 cd19 ct19), sl19⟩) (c19 : PySem.W.codeIn K cd19 "places_of" = true) (k19 : PySem.W.keepIn K (.ref f19) = true)
    (a20 : PySem.W.nsIn K mainGlobals "look_rounds" = some (some (.ref f20))) (l20 : K.lookup f20 = some ⟨oc20, od20, .func (PySem.W.fnOf "look_rounds" "look_rounds" (defArgs s_look_rounds) (defBody s_look_rounds) (defScope s_look_rounds) .none kV20 dc20 pm20 an20 cd20 ct20), sl20⟩) (c20 : PySem.W.codeIn K cd20 "look_rounds" = true) (k20 : PySem.W.keepIn K (.ref f20) = true)
    (a21 : PySem.W.nsIn K mainGlobals "look" = some (some (.ref f21))) (l21 : K.lookup f21 = some ⟨oc21, od21, .func (PySem.W.fnOf "look" "look" (defArgs s_look) (defBody s_look) (defScope s_look) .none kV21 dc21 pm21 an21 cd21 ct21), sl21⟩) (c21 : PySem.W.codeIn K cd21 "look" = true) (k21 : PySem.W.keepIn K (.ref f21) = true)
    (a22 : PySem.W.nsIn K mainGlobals "_law_fits" = some (some (.ref f22))) (l22 : K.lookup f22 = some ⟨oc22, od22, .func (PySem.W.fnOf "_law_fits" "_law_fits" (defArgs s__law_fits) (defBody s__law_fits) (defScope s__law_fits) .none kV22 dc22 pm22 an22 cd22 ct22), sl22⟩) (c22 : PySem.W.codeIn K cd22 "_law_fits" = true) (k22 : PySem.W.keepIn K (.ref f22) = true)
    (a23 : PySem.W.nsIn K mainGlobals "law" = some (some (.ref f23))) (l23 : K.lookup f23 = some ⟨oc23, od23, .func (PySem.W.fnOf "law" "law" (defArgs s_law) (defBody s_law) (defScope s_law) .none kV23 dc23 pm23 an23 cd23 ct23), sl23⟩) (c23 : PySem.W.codeIn K cd23 "law" = true) (k23 : PySem.W.keepIn K (.ref f23) = true)
    (z_ValueError : PySem.W.nsIn K mainGlobals "ValueError" = some none)
    (z_bool : PySem.W.nsIn K mainGlobals "bool" = some none)
    (z_dict : PySem.W.nsIn K mainGlobals "dict" = some none)
    (z_int : PySem.W.nsIn K mainGlobals "int" = some none)
    (z_isinstance : PySem.W.nsIn K mainGlobals "isinstance" = some none)
    (z_len : PySem.W.nsIn K mainGlobals "len" = some none)
    (z_list : PySem.W.nsIn K mainGlobals "list" = some none)
    (z_max : PySem.W.nsIn K mainGlobals "max" = some none)
    (z_min : PySem.W.nsIn K mainGlobals "min" = some none)
    (z_range : PySem.W.nsIn K mainGlobals "range" = some none)
    (z_tuple : PySem.W.nsIn K mainGlobals "tuple" = some none)
    (z_zip : PySem.W.nsIn K mainGlobals "zip" = some none)
    {vv_MOST : Value} (v_MOST : PySem.W.nsIn K mainGlobals "MOST" = some (some vv_MOST)) (r_MOST : RelV (V.int 12) vv_MOST)
    {e0 e1 e2 e3 e4 e5 e6 e7 e8 e9 e10 e11 e12 : Addr}
    (xa0 : PySem.W.nsIn K mainGlobals "ViewError" = some (some (.ref e0)))
    (xt0 : PySem.W.typeIn K (.ref e0) = some (.type "type"))
    (xh0 : PySem.W.hasDictIn K e0 = true)
    (xs0 : PySem.W.subIn K (.ref e0) (.ref e0) = some true)
    (xa1 : PySem.W.nsIn K mainGlobals "NoName" = some (some (.ref e1)))
    (xt1 : PySem.W.typeIn K (.ref e1) = some (.type "type"))
    (xh1 : PySem.W.hasDictIn K e1 = true)
    (xs1 : PySem.W.subIn K (.ref e1) (.ref e1) = some true)
    (xa2 : PySem.W.nsIn K mainGlobals "NoPlace" = some (some (.ref e2)))
    (xt2 : PySem.W.typeIn K (.ref e2) = some (.type "type"))
    (xh2 : PySem.W.hasDictIn K e2 = true)
    (xs2 : PySem.W.subIn K (.ref e2) (.ref e2) = some true)
    (xa3 : PySem.W.nsIn K mainGlobals "Unlike" = some (some (.ref e3)))
    (xt3 : PySem.W.typeIn K (.ref e3) = some (.type "type"))
    (xh3 : PySem.W.hasDictIn K e3 = true)
    (xs3 : PySem.W.subIn K (.ref e3) (.ref e3) = some true)
    (xa4 : PySem.W.nsIn K mainGlobals "Wide" = some (some (.ref e4)))
    (xt4 : PySem.W.typeIn K (.ref e4) = some (.type "type"))
    (xh4 : PySem.W.hasDictIn K e4 = true)
    (xs4 : PySem.W.subIn K (.ref e4) (.ref e4) = some true)
    (xa5 : PySem.W.nsIn K mainGlobals "Twice" = some (some (.ref e5)))
    (xt5 : PySem.W.typeIn K (.ref e5) = some (.type "type"))
    (xh5 : PySem.W.hasDictIn K e5 = true)
    (xs5 : PySem.W.subIn K (.ref e5) (.ref e5) = some true)
    (xa6 : PySem.W.nsIn K mainGlobals "NoText" = some (some (.ref e6)))
    (xt6 : PySem.W.typeIn K (.ref e6) = some (.type "type"))
    (xh6 : PySem.W.hasDictIn K e6 = true)
    (xs6 : PySem.W.subIn K (.ref e6) (.ref e6) = some true)
    (xa7 : PySem.W.nsIn K mainGlobals "TooLarge" = some (some (.ref e7)))
    (xt7 : PySem.W.typeIn K (.ref e7) = some (.type "type"))
    (xh7 : PySem.W.hasDictIn K e7 = true)
    (xs7 : PySem.W.subIn K (.ref e7) (.ref e7) = some true)
    (xa8 : PySem.W.nsIn K mainGlobals "NoWidth" = some (some (.ref e8)))
    (xt8 : PySem.W.typeIn K (.ref e8) = some (.type "type"))
    (xh8 : PySem.W.hasDictIn K e8 = true)
    (xs8 : PySem.W.subIn K (.ref e8) (.ref e8) = some true)
    (xa9 : PySem.W.nsIn K mainGlobals "NoRow" = some (some (.ref e9)))
    (xt9 : PySem.W.typeIn K (.ref e9) = some (.type "type"))
    (xh9 : PySem.W.hasDictIn K e9 = true)
    (xs9 : PySem.W.subIn K (.ref e9) (.ref e9) = some true)
    (xa10 : PySem.W.nsIn K mainGlobals "NoCount" = some (some (.ref e10)))
    (xt10 : PySem.W.typeIn K (.ref e10) = some (.type "type"))
    (xh10 : PySem.W.hasDictIn K e10 = true)
    (xs10 : PySem.W.subIn K (.ref e10) (.ref e10) = some true)
    (xa11 : PySem.W.nsIn K mainGlobals "Short" = some (some (.ref e11)))
    (xt11 : PySem.W.typeIn K (.ref e11) = some (.type "type"))
    (xh11 : PySem.W.hasDictIn K e11 = true)
    (xs11 : PySem.W.subIn K (.ref e11) (.ref e11) = some true)
    (xa12 : PySem.W.nsIn K mainGlobals "NoChange" = some (some (.ref e12)))
    (xt12 : PySem.W.typeIn K (.ref e12) = some (.type "type"))
    (xh12 : PySem.W.hasDictIn K e12 = true)
    (xs12 : PySem.W.subIn K (.ref e12) (.ref e12) = some true)
    (xv : PySem.W.subIn K (.ref e0) (.type "BaseException") = some true)
    (xn1 : PySem.W.specialIn K (.builtin "object.__class__") "__get__" = some (some (.builtin "getset_descriptor.__get__")))
    (xn2 : PySem.W.takesIn K (.builtin "object.__class__") = some true)
    (rq1 : PySem.W.excIn K e1 [.type "ValueError", .type "Exception", .type "BaseException", .type "object"] "ValueError.__new__" = true)
    (rk1 : PySem.W.keepIn K (.ref e1) = true)
    (rb1 : PySem.W.subIn K (.ref e1) (.type "BaseException") = some true)
    (rg1 : PySem.W.findIn K (.ref e1) "__getattribute__" = some (some (.builtin "BaseException.__getattribute__")))
    (rh1 : PySem.W.findIn K (.ref e1) "__getattr__" = some none)
    (rc1 : PySem.W.findIn K (.ref e1) "__class__" = some (some (.builtin "object.__class__")))
    (rm1 : PySem.W.mroIn K e1 (.type "object") = some true)
    (rv1 : PySem.W.subIn K (.ref e1) (.ref e0) = some true)
    (rp1_1 : PySem.W.subIn K (.ref e1) (.ref e1) = some true)
    (rp1_2 : PySem.W.subIn K (.ref e1) (.ref e2) = some false)
    (rp1_3 : PySem.W.subIn K (.ref e1) (.ref e3) = some false)
    (rp1_4 : PySem.W.subIn K (.ref e1) (.ref e4) = some false)
    (rp1_5 : PySem.W.subIn K (.ref e1) (.ref e5) = some false)
    (rp1_ValueError : PySem.W.subIn K (.ref e1) (.type "ValueError") = some true)
    (rp1_6 : PySem.W.subIn K (.ref e1) (.ref e6) = some false)
    (rp1_9 : PySem.W.subIn K (.ref e1) (.ref e9) = some false)
    (rp1_8 : PySem.W.subIn K (.ref e1) (.ref e8) = some false)
    (rp1_10 : PySem.W.subIn K (.ref e1) (.ref e10) = some false)
    (rp1_7 : PySem.W.subIn K (.ref e1) (.ref e7) = some false)
    (rp1_11 : PySem.W.subIn K (.ref e1) (.ref e11) = some false)
    (rp1_12 : PySem.W.subIn K (.ref e1) (.ref e12) = some false)
    (rq2 : PySem.W.excIn K e2 [.type "ValueError", .type "Exception", .type "BaseException", .type "object"] "ValueError.__new__" = true)
    (rk2 : PySem.W.keepIn K (.ref e2) = true)
    (rb2 : PySem.W.subIn K (.ref e2) (.type "BaseException") = some true)
    (rg2 : PySem.W.findIn K (.ref e2) "__getattribute__" = some (some (.builtin "BaseException.__getattribute__")))
    (rh2 : PySem.W.findIn K (.ref e2) "__getattr__" = some none)
    (rc2 : PySem.W.findIn K (.ref e2) "__class__" = some (some (.builtin "object.__class__")))
    (rm2 : PySem.W.mroIn K e2 (.type "object") = some true)
    (rv2 : PySem.W.subIn K (.ref e2) (.ref e0) = some true)
    (rp2_1 : PySem.W.subIn K (.ref e2) (.ref e1) = some false)
    (rp2_2 : PySem.W.subIn K (.ref e2) (.ref e2) = some true)
    (rp2_3 : PySem.W.subIn K (.ref e2) (.ref e3) = some false)
    (rp2_4 : PySem.W.subIn K (.ref e2) (.ref e4) = some false)
    (rp2_5 : PySem.W.subIn K (.ref e2) (.ref e5) = some false)
    (rp2_ValueError : PySem.W.subIn K (.ref e2) (.type "ValueError") = some true)
    (rp2_6 : PySem.W.subIn K (.ref e2) (.ref e6) = some false)
    (rp2_9 : PySem.W.subIn K (.ref e2) (.ref e9) = some false)
    (rp2_8 : PySem.W.subIn K (.ref e2) (.ref e8) = some false)
    (rp2_10 : PySem.W.subIn K (.ref e2) (.ref e10) = some false)
    (rp2_7 : PySem.W.subIn K (.ref e2) (.ref e7) = some false)
    (rp2_11 : PySem.W.subIn K (.ref e2) (.ref e11) = some false)
    (rp2_12 : PySem.W.subIn K (.ref e2) (.ref e12) = some false)
    (rq3 : PySem.W.excIn K e3 [.type "ValueError", .type "Exception", .type "BaseException", .type "object"] "ValueError.__new__" = true)
    (rk3 : PySem.W.keepIn K (.ref e3) = true)
    (rb3 : PySem.W.subIn K (.ref e3) (.type "BaseException") = some true)
    (rg3 : PySem.W.findIn K (.ref e3) "__getattribute__" = some (some (.builtin "BaseException.__getattribute__")))
    (rh3 : PySem.W.findIn K (.ref e3) "__getattr__" = some none)
    (rc3 : PySem.W.findIn K (.ref e3) "__class__" = some (some (.builtin "object.__class__")))
    (rm3 : PySem.W.mroIn K e3 (.type "object") = some true)
    (rv3 : PySem.W.subIn K (.ref e3) (.ref e0) = some true)
    (rp3_1 : PySem.W.subIn K (.ref e3) (.ref e1) = some false)
    (rp3_2 : PySem.W.subIn K (.ref e3) (.ref e2) = some false)
    (rp3_3 : PySem.W.subIn K (.ref e3) (.ref e3) = some true)
    (rp3_4 : PySem.W.subIn K (.ref e3) (.ref e4) = some false)
    (rp3_5 : PySem.W.subIn K (.ref e3) (.ref e5) = some false)
    (rp3_ValueError : PySem.W.subIn K (.ref e3) (.type "ValueError") = some true)
    (rp3_6 : PySem.W.subIn K (.ref e3) (.ref e6) = some false)
    (rp3_9 : PySem.W.subIn K (.ref e3) (.ref e9) = some false)
    (rp3_8 : PySem.W.subIn K (.ref e3) (.ref e8) = some false)
    (rp3_10 : PySem.W.subIn K (.ref e3) (.ref e10) = some false)
    (rp3_7 : PySem.W.subIn K (.ref e3) (.ref e7) = some false)
    (rp3_11 : PySem.W.subIn K (.ref e3) (.ref e11) = some false)
    (rp3_12 : PySem.W.subIn K (.ref e3) (.ref e12) = some false)
    (rq4 : PySem.W.excIn K e4 [.type "ValueError", .type "Exception", .type "BaseException", .type "object"] "ValueError.__new__" = true)
    (rk4 : PySem.W.keepIn K (.ref e4) = true)
    (rb4 : PySem.W.subIn K (.ref e4) (.type "BaseException") = some true)
    (rg4 : PySem.W.findIn K (.ref e4) "__getattribute__" = some (some (.builtin "BaseException.__getattribute__")))
    (rh4 : PySem.W.findIn K (.ref e4) "__getattr__" = some none)
    (rc4 : PySem.W.findIn K (.ref e4) "__class__" = some (some (.builtin "object.__class__")))
    (rm4 : PySem.W.mroIn K e4 (.type "object") = some true)
    (rv4 : PySem.W.subIn K (.ref e4) (.ref e0) = some true)
    (rp4_1 : PySem.W.subIn K (.ref e4) (.ref e1) = some false)
    (rp4_2 : PySem.W.subIn K (.ref e4) (.ref e2) = some false)
    (rp4_3 : PySem.W.subIn K (.ref e4) (.ref e3) = some false)
    (rp4_4 : PySem.W.subIn K (.ref e4) (.ref e4) = some true)
    (rp4_5 : PySem.W.subIn K (.ref e4) (.ref e5) = some false)
    (rp4_ValueError : PySem.W.subIn K (.ref e4) (.type "ValueError") = some true)
    (rp4_6 : PySem.W.subIn K (.ref e4) (.ref e6) = some false)
    (rp4_9 : PySem.W.subIn K (.ref e4) (.ref e9) = some false)
    (rp4_8 : PySem.W.subIn K (.ref e4) (.ref e8) = some false)
    (rp4_10 : PySem.W.subIn K (.ref e4) (.ref e10) = some false)
    (rp4_7 : PySem.W.subIn K (.ref e4) (.ref e7) = some false)
    (rp4_11 : PySem.W.subIn K (.ref e4) (.ref e11) = some false)
    (rp4_12 : PySem.W.subIn K (.ref e4) (.ref e12) = some false)
    (rq5 : PySem.W.excIn K e5 [.type "ValueError", .type "Exception", .type "BaseException", .type "object"] "ValueError.__new__" = true)
    (rk5 : PySem.W.keepIn K (.ref e5) = true)
    (rb5 : PySem.W.subIn K (.ref e5) (.type "BaseException") = some true)
    (rg5 : PySem.W.findIn K (.ref e5) "__getattribute__" = some (some (.builtin "BaseException.__getattribute__")))
    (rh5 : PySem.W.findIn K (.ref e5) "__getattr__" = some none)
    (rc5 : PySem.W.findIn K (.ref e5) "__class__" = some (some (.builtin "object.__class__")))
    (rm5 : PySem.W.mroIn K e5 (.type "object") = some true)
    (rv5 : PySem.W.subIn K (.ref e5) (.ref e0) = some true)
    (rp5_1 : PySem.W.subIn K (.ref e5) (.ref e1) = some false)
    (rp5_2 : PySem.W.subIn K (.ref e5) (.ref e2) = some false)
    (rp5_3 : PySem.W.subIn K (.ref e5) (.ref e3) = some false)
    (rp5_4 : PySem.W.subIn K (.ref e5) (.ref e4) = some false)
    (rp5_5 : PySem.W.subIn K (.ref e5) (.ref e5) = some true)
    (rp5_ValueError : PySem.W.subIn K (.ref e5) (.type "ValueError") = some true)
    (rp5_6 : PySem.W.subIn K (.ref e5) (.ref e6) = some false)
    (rp5_9 : PySem.W.subIn K (.ref e5) (.ref e9) = some false)
    (rp5_8 : PySem.W.subIn K (.ref e5) (.ref e8) = some false)
    (rp5_10 : PySem.W.subIn K (.ref e5) (.ref e10) = some false)
    (rp5_7 : PySem.W.subIn K (.ref e5) (.ref e7) = some false)
    (rp5_11 : PySem.W.subIn K (.ref e5) (.ref e11) = some false)
    (rp5_12 : PySem.W.subIn K (.ref e5) (.ref e12) = some false)
    (true_law : ∀ ns : List Int, ns.length ≤ 63 → ∃ st, f_law [.ref 0] [.rl (ns.map D.int)] = .ok (.bl true) st) :
    ∃ fd : FuncData, (∀ (s : Shared) (v : Value), BindsTo s fd ⟨[v], []⟩ [("_law_script", v)]) ∧ ∀ base : Heap, K.In base → base.Ns mainGlobals mg → FnOk l.prog w K mg base CX0 93 fa fd ["_law_script"] (spLaw K) := by
  have e := hfa.symm.trans (PySem.W.mg_of X G a23)
  cases e
  have F0 := fun_mk (st := s_not_beyond) l0 c0 k0
  have b0 := F0.binds (ps := ["places", "width"]) fun _ _ _ _ _ _ us hl => match us, hl with | [_, _], _ => rfl
  have F1 := fun_mk (st := s_not_wide) l1 c1 k1
  have b1 := F1.binds (ps := ["width"]) fun _ _ _ _ _ _ us hl => match us, hl with | [_], _ => rfl
  have F2 := fun_mk (st := s__law_cell_at) l2 c2 k2
  have b2 := F2.binds (ps := ["_law_script", "_law_k"]) fun _ _ _ _ _ _ us hl => match us, hl with | [_, _], _ => rfl
  have F3 := fun_mk (st := s__law_whole) l3 c3 k3
  have b3 := F3.binds (ps := ["_law_found"]) fun _ _ _ _ _ _ us hl => match us, hl with | [_], _ => rfl
  have F4 := fun_mk (st := s__law_mixed) l4 c4 k4
  have b4 := F4.binds (ps := ["_law_cell"]) fun _ _ _ _ _ _ us hl => match us, hl with | [_], _ => rfl
  have F5 := fun_mk (st := s__law_digits) l5 c5 k5
  have b5 := F5.binds (ps := ["_law_number", "_law_many", "_law_top"]) fun _ _ _ _ _ _ us hl => match us, hl with | [_, _, _], _ => rfl
  have F6 := fun_mk (st := s__law_fresh) l6 c6 k6
  have b6 := F6.binds (ps := ["_law_names_here", "_law_k"]) fun _ _ _ _ _ _ us hl => match us, hl with | [_, _], _ => rfl
  have F7 := fun_mk (st := s__law_first_due) l7 c7 k7
  have b7 := F7.binds (ps := ["_law_dues"]) fun _ _ _ _ _ _ us hl => match us, hl with | [_], _ => rfl
  have F8 := fun_mk (st := s__law_beyond) l8 c8 k8
  have b8 := F8.binds (ps := ["_law_wide"]) fun _ _ _ _ _ _ us hl => match us, hl with | [_], _ => rfl
  have F9 := fun_mk (st := s__law_asking) l9 c9 k9
  have b9 := F9.binds (ps := ["_law_number", "_law_at"]) fun _ _ _ _ _ _ us hl => match us, hl with | [_, _], _ => rfl
  have F10 := fun_mk (st := s__law_term) l10 c10 k10
  have b10 := F10.binds (ps := ["_law_number", "_law_at"]) fun _ _ _ _ _ _ us hl => match us, hl with | [_, _], _ => rfl
  have F11 := fun_mk (st := s_look_two) l11 c11 k11
  have b11 := F11.binds (ps := ["view", "one", "other"]) fun _ _ _ _ _ _ us hl => match us, hl with | [_, _, _], _ => rfl
  have F12 := fun_mk (st := s__law_names) l12 c12 k12
  have b12 := F12.binds (ps := ["_law_cell"]) fun _ _ _ _ _ _ us hl => match us, hl with | [_], _ => rfl
  have F13 := fun_mk (st := s__law_spots) l13 c13 k13
  have b13 := F13.binds (ps := ["_law_number", "_law_many", "_law_wide"]) fun _ _ _ _ _ _ us hl => match us, hl with | [_, _, _], _ => rfl
  have F14 := fun_mk (st := s__law_one) l14 c14 k14
  have b14 := F14.binds (ps := ["_law_number", "_law_word", "_law_now"]) fun _ _ _ _ _ _ us hl => match us, hl with | [_, _, _], _ => rfl
  have F15 := fun_mk (st := s__law_two) l15 c15 k15
  have b15 := F15.binds (ps := ["_law_number", "_law_word", "_law_now", "_law_kept"]) fun _ _ _ _ _ _ us hl => match us, hl with | [_, _, _, _], _ => rfl
  have F16 := fun_mk (st := s__law_rounds) l16 c16 k16
  have b16 := F16.binds (ps := ["_law_number", "_law_now", "_law_kept", "_law_name", "_law_known"]) fun _ _ _ _ _ _ us hl => match us, hl with | [_, _, _, _, _], _ => rfl
  have F17 := fun_mk (st := s__law_next) l17 c17 k17
  have b17 := F17.binds (ps := ["_law_cell", "_law_number", "_law_now", "_law_kept", "_law_name", "_law_known"]) fun _ _ _ _ _ _ us hl => match us, hl with | [_, _, _, _, _, _], _ => rfl
  have F18 := fun_mk (st := s_places_in) l18 c18 k18
  have b18 := F18.binds (ps := ["expr"]) fun _ _ _ _ _ _ us hl => match us, hl with | [_], _ => rfl
  have F19 := fun_mk (st := s_places_of) l19 c19 k19
  have b19 := F19.binds (ps := ["view"]) fun _ _ _ _ _ _ us hl => match us, hl with | [_], _ => rfl
  have F20 := fun_mk (st := s_look_rounds) l20 c20 k20
  have b20 := F20.binds (ps := ["view", "widths"]) fun _ _ _ _ _ _ us hl => match us, hl with | [_, _], _ => rfl
  have F21 := fun_mk (st := s_look) l21 c21 k21
  have b21 := F21.binds (ps := ["view", "widths"]) fun _ _ _ _ _ _ us hl => match us, hl with | [_, _], _ => rfl
  have F22 := fun_mk (st := s__law_fits) l22 c22 k22
  have b22 := F22.binds (ps := ["_law_view", "_law_widths", "_law_wide", "_law_due"]) fun _ _ _ _ _ _ us hl => match us, hl with | [_, _, _, _], _ => rfl
  have F23 := fun_mk (st := s_law) l23 c23 k23
  have b23 := F23.binds (ps := ["_law_script"]) fun _ _ _ _ _ _ us hl => match us, hl with | [_], _ => rfl
  have T : Tx K mg := ⟨_, _, F0, PySem.W.mg_of X G a0, b0, _, _, F1, PySem.W.mg_of X G a1, b1, _, _, F2, PySem.W.mg_of X G a2, b2, _, _, F3, PySem.W.mg_of X G a3, b3, _, _, F4, PySem.W.mg_of X G a4, b4, _, _, F5, PySem.W.mg_of X G a5, b5, _, _, F6, PySem.W.mg_of X G a6, b6, _, _, F7, PySem.W.mg_of X G a7, b7, _, _, F8, PySem.W.mg_of X G a8, b8, _, _, F9, PySem.W.mg_of X G a9, b9, _, _, F10, PySem.W.mg_of X G a10, b10, _, _, F11, PySem.W.mg_of X G a11, b11, _, _, F12, PySem.W.mg_of X G a12, b12, _, _, F13, PySem.W.mg_of X G a13, b13, _, _, F14, PySem.W.mg_of X G a14, b14, _, _, F15, PySem.W.mg_of X G a15, b15, _, _, F16, PySem.W.mg_of X G a16, b16, _, _, F17, PySem.W.mg_of X G a17, b17, _, _, F18, PySem.W.mg_of X G a18, b18, _, _, F19, PySem.W.mg_of X G a19, b19, _, _, F20, PySem.W.mg_of X G a20, b20, _, _, F21, PySem.W.mg_of X G a21, b21, _, _, F22, PySem.W.mg_of X G a22, b22, _, _, F23, PySem.W.mg_of X G a23, b23, PySem.W.mg_none_of X G z_ValueError, PySem.W.mg_none_of X G z_bool, PySem.W.mg_none_of X G z_dict, PySem.W.mg_none_of X G z_int, PySem.W.mg_none_of X G z_isinstance, PySem.W.mg_none_of X G z_len, PySem.W.mg_none_of X G z_list, PySem.W.mg_none_of X G z_max, PySem.W.mg_none_of X G z_min, PySem.W.mg_none_of X G z_range, PySem.W.mg_none_of X G z_tuple, PySem.W.mg_none_of X G z_zip, _, PySem.W.mg_of X G xa0, _, PySem.W.mg_of X G xa1, _, PySem.W.mg_of X G xa2, _, PySem.W.mg_of X G xa3, _, PySem.W.mg_of X G xa4, _, PySem.W.mg_of X G xa5, _, PySem.W.mg_of X G xa6, _, PySem.W.mg_of X G xa7, _, PySem.W.mg_of X G xa8, _, PySem.W.mg_of X G xa9, _, PySem.W.mg_of X G xa10, _, PySem.W.mg_of X G xa11, _, PySem.W.mg_of X G xa12, ⟨rq1, rk1, rb1, xt1⟩, ⟨rq2, rk2, rb2, xt2⟩, ⟨rq3, rk3, rb3, xt3⟩, ⟨rq4, rk4, rb4, xt4⟩, ⟨rq5, rk5, rb5, xt5⟩, (fun c bs h => by
      unfold kinds__law_fits at h
      split at h
      · rename_i e; subst e; cases h; exact ⟨_, PySem.W.mg_of X G xa1, PySem.W.exm_ref xv xh0 xt0 rv1, ⟨rg1, rh1, rb1, xh1, rc1, xn1, xn2, rm1⟩, (.cons ⟨_, fun u h => h, kit_ref xh1 xt1 xs1 rp1_1⟩ (.cons ⟨_, fun u h => h, kit_ref xh2 xt2 xs2 rp1_2⟩ (.cons ⟨_, fun u h => h, kit_ref xh3 xt3 xs3 rp1_3⟩ (.cons ⟨_, fun u h => h, kit_ref xh4 xt4 xs4 rp1_4⟩ (.cons ⟨_, fun u h => h, kit_ref xh5 xt5 xs5 rp1_5⟩ (.cons ⟨_, fun u h => h, kit_VE rp1_ValueError⟩ (.cons ⟨_, fun u h => h, kit_ref xh6 xt6 xs6 rp1_6⟩ (.cons ⟨_, fun u h => h, kit_ref xh9 xt9 xs9 rp1_9⟩ (.cons ⟨_, fun u h => h, kit_ref xh8 xt8 xs8 rp1_8⟩ (.cons ⟨_, fun u h => h, kit_ref xh10 xt10 xs10 rp1_10⟩ (.cons ⟨_, fun u h => h, kit_ref xh7 xt7 xs7 rp1_7⟩ (.cons ⟨_, fun u h => h, kit_ref xh11 xt11 xs11 rp1_11⟩ (.cons ⟨_, fun u h => h, kit_ref xh12 xt12 xs12 rp1_12⟩ .nil))))))))))))), by decide⟩
      split at h
      · rename_i e; subst e; cases h; exact ⟨_, PySem.W.mg_of X G xa2, PySem.W.exm_ref xv xh0 xt0 rv2, ⟨rg2, rh2, rb2, xh2, rc2, xn1, xn2, rm2⟩, (.cons ⟨_, fun u h => h, kit_ref xh1 xt1 xs1 rp2_1⟩ (.cons ⟨_, fun u h => h, kit_ref xh2 xt2 xs2 rp2_2⟩ (.cons ⟨_, fun u h => h, kit_ref xh3 xt3 xs3 rp2_3⟩ (.cons ⟨_, fun u h => h, kit_ref xh4 xt4 xs4 rp2_4⟩ (.cons ⟨_, fun u h => h, kit_ref xh5 xt5 xs5 rp2_5⟩ (.cons ⟨_, fun u h => h, kit_VE rp2_ValueError⟩ (.cons ⟨_, fun u h => h, kit_ref xh6 xt6 xs6 rp2_6⟩ (.cons ⟨_, fun u h => h, kit_ref xh9 xt9 xs9 rp2_9⟩ (.cons ⟨_, fun u h => h, kit_ref xh8 xt8 xs8 rp2_8⟩ (.cons ⟨_, fun u h => h, kit_ref xh10 xt10 xs10 rp2_10⟩ (.cons ⟨_, fun u h => h, kit_ref xh7 xt7 xs7 rp2_7⟩ (.cons ⟨_, fun u h => h, kit_ref xh11 xt11 xs11 rp2_11⟩ (.cons ⟨_, fun u h => h, kit_ref xh12 xt12 xs12 rp2_12⟩ .nil))))))))))))), by decide⟩
      split at h
      · rename_i e; subst e; cases h; exact ⟨_, PySem.W.mg_of X G xa3, PySem.W.exm_ref xv xh0 xt0 rv3, ⟨rg3, rh3, rb3, xh3, rc3, xn1, xn2, rm3⟩, (.cons ⟨_, fun u h => h, kit_ref xh1 xt1 xs1 rp3_1⟩ (.cons ⟨_, fun u h => h, kit_ref xh2 xt2 xs2 rp3_2⟩ (.cons ⟨_, fun u h => h, kit_ref xh3 xt3 xs3 rp3_3⟩ (.cons ⟨_, fun u h => h, kit_ref xh4 xt4 xs4 rp3_4⟩ (.cons ⟨_, fun u h => h, kit_ref xh5 xt5 xs5 rp3_5⟩ (.cons ⟨_, fun u h => h, kit_VE rp3_ValueError⟩ (.cons ⟨_, fun u h => h, kit_ref xh6 xt6 xs6 rp3_6⟩ (.cons ⟨_, fun u h => h, kit_ref xh9 xt9 xs9 rp3_9⟩ (.cons ⟨_, fun u h => h, kit_ref xh8 xt8 xs8 rp3_8⟩ (.cons ⟨_, fun u h => h, kit_ref xh10 xt10 xs10 rp3_10⟩ (.cons ⟨_, fun u h => h, kit_ref xh7 xt7 xs7 rp3_7⟩ (.cons ⟨_, fun u h => h, kit_ref xh11 xt11 xs11 rp3_11⟩ (.cons ⟨_, fun u h => h, kit_ref xh12 xt12 xs12 rp3_12⟩ .nil))))))))))))), by decide⟩
      split at h
      · rename_i e; subst e; cases h; exact ⟨_, PySem.W.mg_of X G xa4, PySem.W.exm_ref xv xh0 xt0 rv4, ⟨rg4, rh4, rb4, xh4, rc4, xn1, xn2, rm4⟩, (.cons ⟨_, fun u h => h, kit_ref xh1 xt1 xs1 rp4_1⟩ (.cons ⟨_, fun u h => h, kit_ref xh2 xt2 xs2 rp4_2⟩ (.cons ⟨_, fun u h => h, kit_ref xh3 xt3 xs3 rp4_3⟩ (.cons ⟨_, fun u h => h, kit_ref xh4 xt4 xs4 rp4_4⟩ (.cons ⟨_, fun u h => h, kit_ref xh5 xt5 xs5 rp4_5⟩ (.cons ⟨_, fun u h => h, kit_VE rp4_ValueError⟩ (.cons ⟨_, fun u h => h, kit_ref xh6 xt6 xs6 rp4_6⟩ (.cons ⟨_, fun u h => h, kit_ref xh9 xt9 xs9 rp4_9⟩ (.cons ⟨_, fun u h => h, kit_ref xh8 xt8 xs8 rp4_8⟩ (.cons ⟨_, fun u h => h, kit_ref xh10 xt10 xs10 rp4_10⟩ (.cons ⟨_, fun u h => h, kit_ref xh7 xt7 xs7 rp4_7⟩ (.cons ⟨_, fun u h => h, kit_ref xh11 xt11 xs11 rp4_11⟩ (.cons ⟨_, fun u h => h, kit_ref xh12 xt12 xs12 rp4_12⟩ .nil))))))))))))), by decide⟩
      split at h
      · rename_i e; subst e; cases h; exact ⟨_, PySem.W.mg_of X G xa5, PySem.W.exm_ref xv xh0 xt0 rv5, ⟨rg5, rh5, rb5, xh5, rc5, xn1, xn2, rm5⟩, (.cons ⟨_, fun u h => h, kit_ref xh1 xt1 xs1 rp5_1⟩ (.cons ⟨_, fun u h => h, kit_ref xh2 xt2 xs2 rp5_2⟩ (.cons ⟨_, fun u h => h, kit_ref xh3 xt3 xs3 rp5_3⟩ (.cons ⟨_, fun u h => h, kit_ref xh4 xt4 xs4 rp5_4⟩ (.cons ⟨_, fun u h => h, kit_ref xh5 xt5 xs5 rp5_5⟩ (.cons ⟨_, fun u h => h, kit_VE rp5_ValueError⟩ (.cons ⟨_, fun u h => h, kit_ref xh6 xt6 xs6 rp5_6⟩ (.cons ⟨_, fun u h => h, kit_ref xh9 xt9 xs9 rp5_9⟩ (.cons ⟨_, fun u h => h, kit_ref xh8 xt8 xs8 rp5_8⟩ (.cons ⟨_, fun u h => h, kit_ref xh10 xt10 xs10 rp5_10⟩ (.cons ⟨_, fun u h => h, kit_ref xh7 xt7 xs7 rp5_7⟩ (.cons ⟨_, fun u h => h, kit_ref xh11 xt11 xs11 rp5_11⟩ (.cons ⟨_, fun u h => h, kit_ref xh12 xt12 xs12 rp5_12⟩ .nil))))))))))))), by decide⟩
      cases h), ⟨_, PySem.W.mg_of X G v_MOST, r_MOST⟩⟩
  exact ⟨_, fun s v => .of_eq rfl, fun base _ _ => by
    have T : Tx K mg := ⟨_, _, F0, PySem.W.mg_of X G a0, b0, _, _, F1, PySem.W.mg_of X G a1, b1, _, _, F2, PySem.W.mg_of X G a2, b2, _, _, F3, PySem.W.mg_of X G a3, b3, _, _, F4, PySem.W.mg_of X G a4, b4, _, _, F5, PySem.W.mg_of X G a5, b5, _, _, F6, PySem.W.mg_of X G a6, b6, _, _, F7, PySem.W.mg_of X G a7, b7, _, _, F8, PySem.W.mg_of X G a8, b8, _, _, F9, PySem.W.mg_of X G a9, b9, _, _, F10, PySem.W.mg_of X G a10, b10, _, _, F11, PySem.W.mg_of X G a11, b11, _, _, F12, PySem.W.mg_of X G a12, b12, _, _, F13, PySem.W.mg_of X G a13, b13, _, _, F14, PySem.W.mg_of X G a14, b14, _, _, F15, PySem.W.mg_of X G a15, b15, _, _, F16, PySem.W.mg_of X G a16, b16, _, _, F17, PySem.W.mg_of X G a17, b17, _, _, F18, PySem.W.mg_of X G a18, b18, _, _, F19, PySem.W.mg_of X G a19, b19, _, _, F20, PySem.W.mg_of X G a20, b20, _, _, F21, PySem.W.mg_of X G a21, b21, _, _, F22, PySem.W.mg_of X G a22, b22, _, _, F23, PySem.W.mg_of X G a23, b23, PySem.W.mg_none_of X G z_ValueError, PySem.W.mg_none_of X G z_bool, PySem.W.mg_none_of X G z_dict, PySem.W.mg_none_of X G z_int, PySem.W.mg_none_of X G z_isinstance, PySem.W.mg_none_of X G z_len, PySem.W.mg_none_of X G z_list, PySem.W.mg_none_of X G z_max, PySem.W.mg_none_of X G z_min, PySem.W.mg_none_of X G z_range, PySem.W.mg_none_of X G z_tuple, PySem.W.mg_none_of X G z_zip, _, PySem.W.mg_of X G xa0, _, PySem.W.mg_of X G xa1, _, PySem.W.mg_of X G xa2, _, PySem.W.mg_of X G xa3, _, PySem.W.mg_of X G xa4, _, PySem.W.mg_of X G xa5, _, PySem.W.mg_of X G xa6, _, PySem.W.mg_of X G xa7, _, PySem.W.mg_of X G xa8, _, PySem.W.mg_of X G xa9, _, PySem.W.mg_of X G xa10, _, PySem.W.mg_of X G xa11, _, PySem.W.mg_of X G xa12, ⟨rq1, rk1, rb1, xt1⟩, ⟨rq2, rk2, rb2, xt2⟩, ⟨rq3, rk3, rb3, xt3⟩, ⟨rq4, rk4, rb4, xt4⟩, ⟨rq5, rk5, rb5, xt5⟩, (fun c bs h => by
      unfold kinds__law_fits at h
      split at h
      · rename_i e; subst e; cases h; exact ⟨_, PySem.W.mg_of X G xa1, PySem.W.exm_ref xv xh0 xt0 rv1, ⟨rg1, rh1, rb1, xh1, rc1, xn1, xn2, rm1⟩, (.cons ⟨_, fun u h => h, kit_ref xh1 xt1 xs1 rp1_1⟩ (.cons ⟨_, fun u h => h, kit_ref xh2 xt2 xs2 rp1_2⟩ (.cons ⟨_, fun u h => h, kit_ref xh3 xt3 xs3 rp1_3⟩ (.cons ⟨_, fun u h => h, kit_ref xh4 xt4 xs4 rp1_4⟩ (.cons ⟨_, fun u h => h, kit_ref xh5 xt5 xs5 rp1_5⟩ (.cons ⟨_, fun u h => h, kit_VE rp1_ValueError⟩ (.cons ⟨_, fun u h => h, kit_ref xh6 xt6 xs6 rp1_6⟩ (.cons ⟨_, fun u h => h, kit_ref xh9 xt9 xs9 rp1_9⟩ (.cons ⟨_, fun u h => h, kit_ref xh8 xt8 xs8 rp1_8⟩ (.cons ⟨_, fun u h => h, kit_ref xh10 xt10 xs10 rp1_10⟩ (.cons ⟨_, fun u h => h, kit_ref xh7 xt7 xs7 rp1_7⟩ (.cons ⟨_, fun u h => h, kit_ref xh11 xt11 xs11 rp1_11⟩ (.cons ⟨_, fun u h => h, kit_ref xh12 xt12 xs12 rp1_12⟩ .nil))))))))))))), by decide⟩
      split at h
      · rename_i e; subst e; cases h; exact ⟨_, PySem.W.mg_of X G xa2, PySem.W.exm_ref xv xh0 xt0 rv2, ⟨rg2, rh2, rb2, xh2, rc2, xn1, xn2, rm2⟩, (.cons ⟨_, fun u h => h, kit_ref xh1 xt1 xs1 rp2_1⟩ (.cons ⟨_, fun u h => h, kit_ref xh2 xt2 xs2 rp2_2⟩ (.cons ⟨_, fun u h => h, kit_ref xh3 xt3 xs3 rp2_3⟩ (.cons ⟨_, fun u h => h, kit_ref xh4 xt4 xs4 rp2_4⟩ (.cons ⟨_, fun u h => h, kit_ref xh5 xt5 xs5 rp2_5⟩ (.cons ⟨_, fun u h => h, kit_VE rp2_ValueError⟩ (.cons ⟨_, fun u h => h, kit_ref xh6 xt6 xs6 rp2_6⟩ (.cons ⟨_, fun u h => h, kit_ref xh9 xt9 xs9 rp2_9⟩ (.cons ⟨_, fun u h => h, kit_ref xh8 xt8 xs8 rp2_8⟩ (.cons ⟨_, fun u h => h, kit_ref xh10 xt10 xs10 rp2_10⟩ (.cons ⟨_, fun u h => h, kit_ref xh7 xt7 xs7 rp2_7⟩ (.cons ⟨_, fun u h => h, kit_ref xh11 xt11 xs11 rp2_11⟩ (.cons ⟨_, fun u h => h, kit_ref xh12 xt12 xs12 rp2_12⟩ .nil))))))))))))), by decide⟩
      split at h
      · rename_i e; subst e; cases h; exact ⟨_, PySem.W.mg_of X G xa3, PySem.W.exm_ref xv xh0 xt0 rv3, ⟨rg3, rh3, rb3, xh3, rc3, xn1, xn2, rm3⟩, (.cons ⟨_, fun u h => h, kit_ref xh1 xt1 xs1 rp3_1⟩ (.cons ⟨_, fun u h => h, kit_ref xh2 xt2 xs2 rp3_2⟩ (.cons ⟨_, fun u h => h, kit_ref xh3 xt3 xs3 rp3_3⟩ (.cons ⟨_, fun u h => h, kit_ref xh4 xt4 xs4 rp3_4⟩ (.cons ⟨_, fun u h => h, kit_ref xh5 xt5 xs5 rp3_5⟩ (.cons ⟨_, fun u h => h, kit_VE rp3_ValueError⟩ (.cons ⟨_, fun u h => h, kit_ref xh6 xt6 xs6 rp3_6⟩ (.cons ⟨_, fun u h => h, kit_ref xh9 xt9 xs9 rp3_9⟩ (.cons ⟨_, fun u h => h, kit_ref xh8 xt8 xs8 rp3_8⟩ (.cons ⟨_, fun u h => h, kit_ref xh10 xt10 xs10 rp3_10⟩ (.cons ⟨_, fun u h => h, kit_ref xh7 xt7 xs7 rp3_7⟩ (.cons ⟨_, fun u h => h, kit_ref xh11 xt11 xs11 rp3_11⟩ (.cons ⟨_, fun u h => h, kit_ref xh12 xt12 xs12 rp3_12⟩ .nil))))))))))))), by decide⟩
      split at h
      · rename_i e; subst e; cases h; exact ⟨_, PySem.W.mg_of X G xa4, PySem.W.exm_ref xv xh0 xt0 rv4, ⟨rg4, rh4, rb4, xh4, rc4, xn1, xn2, rm4⟩, (.cons ⟨_, fun u h => h, kit_ref xh1 xt1 xs1 rp4_1⟩ (.cons ⟨_, fun u h => h, kit_ref xh2 xt2 xs2 rp4_2⟩ (.cons ⟨_, fun u h => h, kit_ref xh3 xt3 xs3 rp4_3⟩ (.cons ⟨_, fun u h => h, kit_ref xh4 xt4 xs4 rp4_4⟩ (.cons ⟨_, fun u h => h, kit_ref xh5 xt5 xs5 rp4_5⟩ (.cons ⟨_, fun u h => h, kit_VE rp4_ValueError⟩ (.cons ⟨_, fun u h => h, kit_ref xh6 xt6 xs6 rp4_6⟩ (.cons ⟨_, fun u h => h, kit_ref xh9 xt9 xs9 rp4_9⟩ (.cons ⟨_, fun u h => h, kit_ref xh8 xt8 xs8 rp4_8⟩ (.cons ⟨_, fun u h => h, kit_ref xh10 xt10 xs10 rp4_10⟩ (.cons ⟨_, fun u h => h, kit_ref xh7 xt7 xs7 rp4_7⟩ (.cons ⟨_, fun u h => h, kit_ref xh11 xt11 xs11 rp4_11⟩ (.cons ⟨_, fun u h => h, kit_ref xh12 xt12 xs12 rp4_12⟩ .nil))))))))))))), by decide⟩
      split at h
      · rename_i e; subst e; cases h; exact ⟨_, PySem.W.mg_of X G xa5, PySem.W.exm_ref xv xh0 xt0 rv5, ⟨rg5, rh5, rb5, xh5, rc5, xn1, xn2, rm5⟩, (.cons ⟨_, fun u h => h, kit_ref xh1 xt1 xs1 rp5_1⟩ (.cons ⟨_, fun u h => h, kit_ref xh2 xt2 xs2 rp5_2⟩ (.cons ⟨_, fun u h => h, kit_ref xh3 xt3 xs3 rp5_3⟩ (.cons ⟨_, fun u h => h, kit_ref xh4 xt4 xs4 rp5_4⟩ (.cons ⟨_, fun u h => h, kit_ref xh5 xt5 xs5 rp5_5⟩ (.cons ⟨_, fun u h => h, kit_VE rp5_ValueError⟩ (.cons ⟨_, fun u h => h, kit_ref xh6 xt6 xs6 rp5_6⟩ (.cons ⟨_, fun u h => h, kit_ref xh9 xt9 xs9 rp5_9⟩ (.cons ⟨_, fun u h => h, kit_ref xh8 xt8 xs8 rp5_8⟩ (.cons ⟨_, fun u h => h, kit_ref xh10 xt10 xs10 rp5_10⟩ (.cons ⟨_, fun u h => h, kit_ref xh7 xt7 xs7 rp5_7⟩ (.cons ⟨_, fun u h => h, kit_ref xh11 xt11 xs11 rp5_11⟩ (.cons ⟨_, fun u h => h, kit_ref xh12 xt12 xs12 rp5_12⟩ .nil))))))))))))), by decide⟩
      cases h), ⟨_, PySem.W.mg_of X G v_MOST, r_MOST⟩⟩
    exact (ok_law (P := l.prog) (w := w) (base := base) ⟨_, _, F0, PySem.W.mg_of X G a0, b0, _, _, F1, PySem.W.mg_of X G a1, b1, _, _, F2, PySem.W.mg_of X G a2, b2, _, _, F3, PySem.W.mg_of X G a3, b3, _, _, F4, PySem.W.mg_of X G a4, b4, _, _, F5, PySem.W.mg_of X G a5, b5, _, _, F6, PySem.W.mg_of X G a6, b6, _, _, F7, PySem.W.mg_of X G a7, b7, _, _, F8, PySem.W.mg_of X G a8, b8, _, _, F9, PySem.W.mg_of X G a9, b9, _, _, F10, PySem.W.mg_of X G a10, b10, _, _, F11, PySem.W.mg_of X G a11, b11, _, _, F12, PySem.W.mg_of X G a12, b12, _, _, F13, PySem.W.mg_of X G a13, b13, _, _, F14, PySem.W.mg_of X G a14, b14, _, _, F15, PySem.W.mg_of X G a15, b15, _, _, F16, PySem.W.mg_of X G a16, b16, _, _, F17, PySem.W.mg_of X G a17, b17, _, _, F18, PySem.W.mg_of X G a18, b18, _, _, F19, PySem.W.mg_of X G a19, b19, _, _, F20, PySem.W.mg_of X G a20, b20, _, _, F21, PySem.W.mg_of X G a21, b21, _, _, F22, PySem.W.mg_of X G a22, b22, _, _, F23, PySem.W.mg_of X G a23, b23, PySem.W.mg_none_of X G z_ValueError, PySem.W.mg_none_of X G z_bool, PySem.W.mg_none_of X G z_dict, PySem.W.mg_none_of X G z_int, PySem.W.mg_none_of X G z_isinstance, PySem.W.mg_none_of X G z_len, PySem.W.mg_none_of X G z_list, PySem.W.mg_none_of X G z_max, PySem.W.mg_none_of X G z_min, PySem.W.mg_none_of X G z_range, PySem.W.mg_none_of X G z_tuple, PySem.W.mg_none_of X G z_zip, _, PySem.W.mg_of X G xa0, _, PySem.W.mg_of X G xa1, _, PySem.W.mg_of X G xa2, _, PySem.W.mg_of X G xa3, _, PySem.W.mg_of X G xa4, _, PySem.W.mg_of X G xa5, _, PySem.W.mg_of X G xa6, _, PySem.W.mg_of X G xa7, _, PySem.W.mg_of X G xa8, _, PySem.W.mg_of X G xa9, _, PySem.W.mg_of X G xa10, _, PySem.W.mg_of X G xa11, _, PySem.W.mg_of X G xa12, ⟨rq1, rk1, rb1, xt1⟩, ⟨rq2, rk2, rb2, xt2⟩, ⟨rq3, rk3, rb3, xt3⟩, ⟨rq4, rk4, rb4, xt4⟩, ⟨rq5, rk5, rb5, xt5⟩, (fun c bs h => by
      unfold kinds__law_fits at h
      split at h
      · rename_i e; subst e; cases h; exact ⟨_, PySem.W.mg_of X G xa1, PySem.W.exm_ref xv xh0 xt0 rv1, ⟨rg1, rh1, rb1, xh1, rc1, xn1, xn2, rm1⟩, (.cons ⟨_, fun u h => h, kit_ref xh1 xt1 xs1 rp1_1⟩ (.cons ⟨_, fun u h => h, kit_ref xh2 xt2 xs2 rp1_2⟩ (.cons ⟨_, fun u h => h, kit_ref xh3 xt3 xs3 rp1_3⟩ (.cons ⟨_, fun u h => h, kit_ref xh4 xt4 xs4 rp1_4⟩ (.cons ⟨_, fun u h => h, kit_ref xh5 xt5 xs5 rp1_5⟩ (.cons ⟨_, fun u h => h, kit_VE rp1_ValueError⟩ (.cons ⟨_, fun u h => h, kit_ref xh6 xt6 xs6 rp1_6⟩ (.cons ⟨_, fun u h => h, kit_ref xh9 xt9 xs9 rp1_9⟩ (.cons ⟨_, fun u h => h, kit_ref xh8 xt8 xs8 rp1_8⟩ (.cons ⟨_, fun u h => h, kit_ref xh10 xt10 xs10 rp1_10⟩ (.cons ⟨_, fun u h => h, kit_ref xh7 xt7 xs7 rp1_7⟩ (.cons ⟨_, fun u h => h, kit_ref xh11 xt11 xs11 rp1_11⟩ (.cons ⟨_, fun u h => h, kit_ref xh12 xt12 xs12 rp1_12⟩ .nil))))))))))))), by decide⟩
      split at h
      · rename_i e; subst e; cases h; exact ⟨_, PySem.W.mg_of X G xa2, PySem.W.exm_ref xv xh0 xt0 rv2, ⟨rg2, rh2, rb2, xh2, rc2, xn1, xn2, rm2⟩, (.cons ⟨_, fun u h => h, kit_ref xh1 xt1 xs1 rp2_1⟩ (.cons ⟨_, fun u h => h, kit_ref xh2 xt2 xs2 rp2_2⟩ (.cons ⟨_, fun u h => h, kit_ref xh3 xt3 xs3 rp2_3⟩ (.cons ⟨_, fun u h => h, kit_ref xh4 xt4 xs4 rp2_4⟩ (.cons ⟨_, fun u h => h, kit_ref xh5 xt5 xs5 rp2_5⟩ (.cons ⟨_, fun u h => h, kit_VE rp2_ValueError⟩ (.cons ⟨_, fun u h => h, kit_ref xh6 xt6 xs6 rp2_6⟩ (.cons ⟨_, fun u h => h, kit_ref xh9 xt9 xs9 rp2_9⟩ (.cons ⟨_, fun u h => h, kit_ref xh8 xt8 xs8 rp2_8⟩ (.cons ⟨_, fun u h => h, kit_ref xh10 xt10 xs10 rp2_10⟩ (.cons ⟨_, fun u h => h, kit_ref xh7 xt7 xs7 rp2_7⟩ (.cons ⟨_, fun u h => h, kit_ref xh11 xt11 xs11 rp2_11⟩ (.cons ⟨_, fun u h => h, kit_ref xh12 xt12 xs12 rp2_12⟩ .nil))))))))))))), by decide⟩
      split at h
      · rename_i e; subst e; cases h; exact ⟨_, PySem.W.mg_of X G xa3, PySem.W.exm_ref xv xh0 xt0 rv3, ⟨rg3, rh3, rb3, xh3, rc3, xn1, xn2, rm3⟩, (.cons ⟨_, fun u h => h, kit_ref xh1 xt1 xs1 rp3_1⟩ (.cons ⟨_, fun u h => h, kit_ref xh2 xt2 xs2 rp3_2⟩ (.cons ⟨_, fun u h => h, kit_ref xh3 xt3 xs3 rp3_3⟩ (.cons ⟨_, fun u h => h, kit_ref xh4 xt4 xs4 rp3_4⟩ (.cons ⟨_, fun u h => h, kit_ref xh5 xt5 xs5 rp3_5⟩ (.cons ⟨_, fun u h => h, kit_VE rp3_ValueError⟩ (.cons ⟨_, fun u h => h, kit_ref xh6 xt6 xs6 rp3_6⟩ (.cons ⟨_, fun u h => h, kit_ref xh9 xt9 xs9 rp3_9⟩ (.cons ⟨_, fun u h => h, kit_ref xh8 xt8 xs8 rp3_8⟩ (.cons ⟨_, fun u h => h, kit_ref xh10 xt10 xs10 rp3_10⟩ (.cons ⟨_, fun u h => h, kit_ref xh7 xt7 xs7 rp3_7⟩ (.cons ⟨_, fun u h => h, kit_ref xh11 xt11 xs11 rp3_11⟩ (.cons ⟨_, fun u h => h, kit_ref xh12 xt12 xs12 rp3_12⟩ .nil))))))))))))), by decide⟩
      split at h
      · rename_i e; subst e; cases h; exact ⟨_, PySem.W.mg_of X G xa4, PySem.W.exm_ref xv xh0 xt0 rv4, ⟨rg4, rh4, rb4, xh4, rc4, xn1, xn2, rm4⟩, (.cons ⟨_, fun u h => h, kit_ref xh1 xt1 xs1 rp4_1⟩ (.cons ⟨_, fun u h => h, kit_ref xh2 xt2 xs2 rp4_2⟩ (.cons ⟨_, fun u h => h, kit_ref xh3 xt3 xs3 rp4_3⟩ (.cons ⟨_, fun u h => h, kit_ref xh4 xt4 xs4 rp4_4⟩ (.cons ⟨_, fun u h => h, kit_ref xh5 xt5 xs5 rp4_5⟩ (.cons ⟨_, fun u h => h, kit_VE rp4_ValueError⟩ (.cons ⟨_, fun u h => h, kit_ref xh6 xt6 xs6 rp4_6⟩ (.cons ⟨_, fun u h => h, kit_ref xh9 xt9 xs9 rp4_9⟩ (.cons ⟨_, fun u h => h, kit_ref xh8 xt8 xs8 rp4_8⟩ (.cons ⟨_, fun u h => h, kit_ref xh10 xt10 xs10 rp4_10⟩ (.cons ⟨_, fun u h => h, kit_ref xh7 xt7 xs7 rp4_7⟩ (.cons ⟨_, fun u h => h, kit_ref xh11 xt11 xs11 rp4_11⟩ (.cons ⟨_, fun u h => h, kit_ref xh12 xt12 xs12 rp4_12⟩ .nil))))))))))))), by decide⟩
      split at h
      · rename_i e; subst e; cases h; exact ⟨_, PySem.W.mg_of X G xa5, PySem.W.exm_ref xv xh0 xt0 rv5, ⟨rg5, rh5, rb5, xh5, rc5, xn1, xn2, rm5⟩, (.cons ⟨_, fun u h => h, kit_ref xh1 xt1 xs1 rp5_1⟩ (.cons ⟨_, fun u h => h, kit_ref xh2 xt2 xs2 rp5_2⟩ (.cons ⟨_, fun u h => h, kit_ref xh3 xt3 xs3 rp5_3⟩ (.cons ⟨_, fun u h => h, kit_ref xh4 xt4 xs4 rp5_4⟩ (.cons ⟨_, fun u h => h, kit_ref xh5 xt5 xs5 rp5_5⟩ (.cons ⟨_, fun u h => h, kit_VE rp5_ValueError⟩ (.cons ⟨_, fun u h => h, kit_ref xh6 xt6 xs6 rp5_6⟩ (.cons ⟨_, fun u h => h, kit_ref xh9 xt9 xs9 rp5_9⟩ (.cons ⟨_, fun u h => h, kit_ref xh8 xt8 xs8 rp5_8⟩ (.cons ⟨_, fun u h => h, kit_ref xh10 xt10 xs10 rp5_10⟩ (.cons ⟨_, fun u h => h, kit_ref xh7 xt7 xs7 rp5_7⟩ (.cons ⟨_, fun u h => h, kit_ref xh11 xt11 xs11 rp5_11⟩ (.cons ⟨_, fun u h => h, kit_ref xh12 xt12 xs12 rp5_12⟩ .nil))))))))))))), by decide⟩
      cases h), ⟨_, PySem.W.mg_of X G v_MOST, r_MOST⟩⟩).imp (law_end (g := ⟨l.prog, w, K, mg, B0⟩) rfl true_law)⟩
end Law
open PySem PySem.W PyProof.Rows in
set_option maxRecDepth 100000 in
set_option maxHeartbeats 0 in
theorem PySem.Challenge.cw_viewkeep_k11_not_let_by_holds : PySem.Challenge.rw_viewkeep_k11_not_let_by.Holds := by
  w_on; o_law; k_head; (case hw => w_witness2)
  k_fill
  refine L2.walk_of (l := PySem.Challenge.rw_viewkeep_k11_not_let_by) (n := 63) (k := 93) (x := "_law_script") (CX := fun _ => L2.CX0) (sp := fun w => VL.spLaw _) rfl (by decide) rfl ⟨rfl, by decide, by decide⟩ (fun w h Y => PySem.W.kIn_of Y) ?F (fun _ _ a ns hl hO hS => ⟨a, ns, rfl, hS, hl, hO, fun _ => rfl⟩) (fun _ _ _ _ _ h => h)
  case F =>
    intro w mg fa h KX G hmg
    refine' Law.all_mk KX G hmg ?a0 ?l0 ?c0 ?k0 ?a1 ?l1 ?c1 ?k1 ?a2 ?l2 ?c2 ?k2 ?a3 ?l3 ?c3 ?k3 ?a4 ?l4 ?c4 ?k4 ?a5 ?l5 ?c5 ?k5 ?a6 ?l6 ?c6 ?k6 ?a7 ?l7 ?c7 ?k7 ?a8 ?l8 ?c8 ?k8 ?a9 ?l9 ?c9 ?k9 ?a10 ?l10 ?c10 ?k10 ?a11 ?l11 ?c11 ?k11 ?a12 ?l12 ?c12 ?k12 ?a13 ?l13 ?c13 ?k13 ?a14 ?l14 ?c14 ?k14 ?a15 ?l15 ?c15 ?k15 ?a16 ?l16 ?c16 ?k16 ?a17 ?l17 ?c17 ?k17 ?a18 ?l18 ?c18 ?k18 ?a19 ?l19 ?c19 ?k19 ?a20 ?l20 ?c20 ?k20 ?a21 ?l21 ?c21 ?k21 ?a22 ?l22 ?c22 ?k22 ?a23 ?l23 ?c23 ?k23 ?z0 ?z1 ?z2 ?z3 ?z4 ?z5 ?z6 ?z7 ?z8 ?z9 ?z10 ?z11 ?v_MOST ?r_MOST ?xa0 ?xt0 ?xh0 ?xs0 ?xa1 ?xt1 ?xh1 ?xs1 ?xa2 ?xt2 ?xh2 ?xs2 ?xa3 ?xt3 ?xh3 ?xs3 ?xa4 ?xt4 ?xh4 ?xs4 ?xa5 ?xt5 ?xh5 ?xs5 ?xa6 ?xt6 ?xh6 ?xs6 ?xa7 ?xt7 ?xh7 ?xs7 ?xa8 ?xt8 ?xh8 ?xs8 ?xa9 ?xt9 ?xh9 ?xs9 ?xa10 ?xt10 ?xh10 ?xs10 ?xa11 ?xt11 ?xh11 ?xs11 ?xa12 ?xt12 ?xh12 ?xs12 ?xv ?xn1 ?xn2 ?rq1 ?rk1 ?rb1 ?rg1 ?rh1 ?rc1 ?rm1 ?rv1 ?rp1_1 ?rp1_2 ?rp1_3 ?rp1_4 ?rp1_5 ?rp1_ValueError ?rp1_6 ?rp1_9 ?rp1_8 ?rp1_10 ?rp1_7 ?rp1_11 ?rp1_12 ?rq2 ?rk2 ?rb2 ?rg2 ?rh2 ?rc2 ?rm2 ?rv2 ?rp2_1 ?rp2_2 ?rp2_3 ?rp2_4 ?rp2_5 ?rp2_ValueError ?rp2_6 ?rp2_9 ?rp2_8 ?rp2_10 ?rp2_7 ?rp2_11 ?rp2_12 ?rq3 ?rk3 ?rb3 ?rg3 ?rh3 ?rc3 ?rm3 ?rv3 ?rp3_1 ?rp3_2 ?rp3_3 ?rp3_4 ?rp3_5 ?rp3_ValueError ?rp3_6 ?rp3_9 ?rp3_8 ?rp3_10 ?rp3_7 ?rp3_11 ?rp3_12 ?rq4 ?rk4 ?rb4 ?rg4 ?rh4 ?rc4 ?rm4 ?rv4 ?rp4_1 ?rp4_2 ?rp4_3 ?rp4_4 ?rp4_5 ?rp4_ValueError ?rp4_6 ?rp4_9 ?rp4_8 ?rp4_10 ?rp4_7 ?rp4_11 ?rp4_12 ?rq5 ?rk5 ?rb5 ?rg5 ?rh5 ?rc5 ?rm5 ?rv5 ?rp5_1 ?rp5_2 ?rp5_3 ?rp5_4 ?rp5_5 ?rp5_ValueError ?rp5_6 ?rp5_9 ?rp5_8 ?rp5_10 ?rp5_7 ?rp5_11 ?rp5_12 Law.true_law
    (case a0 => k_is)
    (case l0 => k_is)
    (case c0 => k_is)
    (case k0 => k_is)
    (case a1 => k_is)
    (case l1 => k_is)
    (case c1 => k_is)
    (case k1 => k_is)
    (case a2 => k_is)
    (case l2 => k_is)
    (case c2 => k_is)
    (case k2 => k_is)
    (case a3 => k_is)
    (case l3 => k_is)
    (case c3 => k_is)
    (case k3 => k_is)
    (case a4 => k_is)
    (case l4 => k_is)
    (case c4 => k_is)
    (case k4 => k_is)
    (case a5 => k_is)
    (case l5 => k_is)
    (case c5 => k_is)
    (case k5 => k_is)
    (case a6 => k_is)
    (case l6 => k_is)
    (case c6 => k_is)
    (case k6 => k_is)
    (case a7 => k_is)
    (case l7 => k_is)
    (case c7 => k_is)
    (case k7 => k_is)
    (case a8 => k_is)
    (case l8 => k_is)
    (case c8 => k_is)
    (case k8 => k_is)
    (case a9 => k_is)
    (case l9 => k_is)
    (case c9 => k_is)
    (case k9 => k_is)
    (case a10 => k_is)
    (case l10 => k_is)
    (case c10 => k_is)
    (case k10 => k_is)
    (case a11 => k_is)
    (case l11 => k_is)
    (case c11 => k_is)
    (case k11 => k_is)
    (case a12 => k_is)
    (case l12 => k_is)
    (case c12 => k_is)
    (case k12 => k_is)
    (case a13 => k_is)
    (case l13 => k_is)
    (case c13 => k_is)
    (case k13 => k_is)
    (case a14 => k_is)
    (case l14 => k_is)
    (case c14 => k_is)
    (case k14 => k_is)
    (case a15 => k_is)
    (case l15 => k_is)
    (case c15 => k_is)
    (case k15 => k_is)
    (case a16 => k_is)
    (case l16 => k_is)
    (case c16 => k_is)
    (case k16 => k_is)
    (case a17 => k_is)
    (case l17 => k_is)
    (case c17 => k_is)
    (case k17 => k_is)
    (case a18 => k_is)
    (case l18 => k_is)
    (case c18 => k_is)
    (case k18 => k_is)
    (case a19 => k_is)
    (case l19 => k_is)
    (case c19 => k_is)
    (case k19 => k_is)
    (case a20 => k_is)
    (case l20 => k_is)
    (case c20 => k_is)
    (case k20 => k_is)
    (case a21 => k_is)
    (case l21 => k_is)
    (case c21 => k_is)
    (case k21 => k_is)
    (case a22 => k_is)
    (case l22 => k_is)
    (case c22 => k_is)
    (case k22 => k_is)
    (case a23 => k_is)
    (case l23 => k_is)
    (case c23 => k_is)
    (case k23 => k_is)
    (case z0 => k_is)
    (case z1 => k_is)
    (case z2 => k_is)
    (case z3 => k_is)
    (case z4 => k_is)
    (case z5 => k_is)
    (case z6 => k_is)
    (case z7 => k_is)
    (case z8 => k_is)
    (case z9 => k_is)
    (case z10 => k_is)
    (case z11 => k_is)
    (case v_MOST => k_is)
    (case r_MOST => exact ⟨_, rfl⟩)
    (case xa0 => k_is)
    (case xt0 => k_is)
    (case xh0 => k_is)
    (case xs0 => k_is)
    (case xa1 => k_is)
    (case xt1 => k_is)
    (case xh1 => k_is)
    (case xs1 => k_is)
    (case xa2 => k_is)
    (case xt2 => k_is)
    (case xh2 => k_is)
    (case xs2 => k_is)
    (case xa3 => k_is)
    (case xt3 => k_is)
    (case xh3 => k_is)
    (case xs3 => k_is)
    (case xa4 => k_is)
    (case xt4 => k_is)
    (case xh4 => k_is)
    (case xs4 => k_is)
    (case xa5 => k_is)
    (case xt5 => k_is)
    (case xh5 => k_is)
    (case xs5 => k_is)
    (case xa6 => k_is)
    (case xt6 => k_is)
    (case xh6 => k_is)
    (case xs6 => k_is)
    (case xa7 => k_is)
    (case xt7 => k_is)
    (case xh7 => k_is)
    (case xs7 => k_is)
    (case xa8 => k_is)
    (case xt8 => k_is)
    (case xh8 => k_is)
    (case xs8 => k_is)
    (case xa9 => k_is)
    (case xt9 => k_is)
    (case xh9 => k_is)
    (case xs9 => k_is)
    (case xa10 => k_is)
    (case xt10 => k_is)
    (case xh10 => k_is)
    (case xs10 => k_is)
    (case xa11 => k_is)
    (case xt11 => k_is)
    (case xh11 => k_is)
    (case xs11 => k_is)
    (case xa12 => k_is)
    (case xt12 => k_is)
    (case xh12 => k_is)
    (case xs12 => k_is)
    (case xv => k_is)
    (case xn1 => k_is)
    (case xn2 => k_is)
    (case rq1 => k_exc)
    (case rk1 => k_is)
    (case rb1 => k_is)
    (case rg1 => k_is)
    (case rh1 => k_is)
    (case rc1 => k_is)
    (case rm1 => k_is)
    (case rv1 => k_is)
    (case rp1_1 => k_is)
    (case rp1_2 => k_is)
    (case rp1_3 => k_is)
    (case rp1_4 => k_is)
    (case rp1_5 => k_is)
    (case rp1_ValueError => k_is)
    (case rp1_6 => k_is)
    (case rp1_9 => k_is)
    (case rp1_8 => k_is)
    (case rp1_10 => k_is)
    (case rp1_7 => k_is)
    (case rp1_11 => k_is)
    (case rp1_12 => k_is)
    (case rq2 => k_exc)
    (case rk2 => k_is)
    (case rb2 => k_is)
    (case rg2 => k_is)
    (case rh2 => k_is)
    (case rc2 => k_is)
    (case rm2 => k_is)
    (case rv2 => k_is)
    (case rp2_1 => k_is)
    (case rp2_2 => k_is)
    (case rp2_3 => k_is)
    (case rp2_4 => k_is)
    (case rp2_5 => k_is)
    (case rp2_ValueError => k_is)
    (case rp2_6 => k_is)
    (case rp2_9 => k_is)
    (case rp2_8 => k_is)
    (case rp2_10 => k_is)
    (case rp2_7 => k_is)
    (case rp2_11 => k_is)
    (case rp2_12 => k_is)
    (case rq3 => k_exc)
    (case rk3 => k_is)
    (case rb3 => k_is)
    (case rg3 => k_is)
    (case rh3 => k_is)
    (case rc3 => k_is)
    (case rm3 => k_is)
    (case rv3 => k_is)
    (case rp3_1 => k_is)
    (case rp3_2 => k_is)
    (case rp3_3 => k_is)
    (case rp3_4 => k_is)
    (case rp3_5 => k_is)
    (case rp3_ValueError => k_is)
    (case rp3_6 => k_is)
    (case rp3_9 => k_is)
    (case rp3_8 => k_is)
    (case rp3_10 => k_is)
    (case rp3_7 => k_is)
    (case rp3_11 => k_is)
    (case rp3_12 => k_is)
    (case rq4 => k_exc)
    (case rk4 => k_is)
    (case rb4 => k_is)
    (case rg4 => k_is)
    (case rh4 => k_is)
    (case rc4 => k_is)
    (case rm4 => k_is)
    (case rv4 => k_is)
    (case rp4_1 => k_is)
    (case rp4_2 => k_is)
    (case rp4_3 => k_is)
    (case rp4_4 => k_is)
    (case rp4_5 => k_is)
    (case rp4_ValueError => k_is)
    (case rp4_6 => k_is)
    (case rp4_9 => k_is)
    (case rp4_8 => k_is)
    (case rp4_10 => k_is)
    (case rp4_7 => k_is)
    (case rp4_11 => k_is)
    (case rp4_12 => k_is)
    (case rq5 => k_exc)
    (case rk5 => k_is)
    (case rb5 => k_is)
    (case rg5 => k_is)
    (case rh5 => k_is)
    (case rc5 => k_is)
    (case rm5 => k_is)
    (case rv5 => k_is)
    (case rp5_1 => k_is)
    (case rp5_2 => k_is)
    (case rp5_3 => k_is)
    (case rp5_4 => k_is)
    (case rp5_5 => k_is)
    (case rp5_ValueError => k_is)
    (case rp5_6 => k_is)
    (case rp5_9 => k_is)
    (case rp5_8 => k_is)
    (case rp5_10 => k_is)
    (case rp5_7 => k_is)
    (case rp5_11 => k_is)
    (case rp5_12 => k_is)

