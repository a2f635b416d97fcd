import PyProof.Rows.All
import Wide.All
import OpenK.AllK
import Wide.FinOn
import HandS.ForMost
import HandS.IsInst
import HandS.TupAny
import HandS.Wide
import KE.KeyNested
import HandS.Nested
import HandS.NestedK
import HandS.EndTab
import HandS.Zip
import HandS.RevTup
import KE.GoesMore
import HandS.Rev
import KE.KRevSl
import KE.GoesEnum
import HandS.NoneIn
import HandS.Flt
import KE.KNestM
import PySem.Challenge.RW_viewkeep_k09_columns_within
set_option Elab.async false
set_option linter.all false
set_option maxRecDepth 100000
set_option maxHeartbeats 4000000
/-! VL1: the value layer. Data D, objects O, the store; a def as a function over them; how they lie in HandS's abstract heap. -/
namespace VL
open PySem PySem.Spec PyProof.Rows L2 LamX NdefX

/-- pure data; ref n: the n-th object of the store; glb x: what the module calls x -/
inductive D where
  | non | bl (b : Bool) | int (i : Int) | str (x : Str) | tup (xs : List D) | ref (n : Nat) | glb (x : Str) | ty (n : String) | clo (k : Nat) (cap : List D)
inductive O where
  | lst (xs : List D) | rl (xs : List D) | dic (kvs : List (D × D)) | ins (c : Str) (fs : List (Str × D))
abbrev Sto := List O
abbrev EnvD := List (Option D)
inductive R (A : Type) where
  | ok (a : A) (s : Sto) | ex (c : Str) (s : Sto) | bad
namespace R
variable {A B : Type}
def bind (r : R A) (k : A → Sto → R B) : R B := match r with
  | ok a s => k a s
  | ex c s => ex c s
  | bad => bad
def post (r : R A) (Q : A → Sto → Prop) (X : Str → Sto → Prop) : Prop := match r with
  | ok a s => Q a s
  | ex c s => X c s
  | bad => False
theorem post_bind {r : R A} {k : A → Sto → R B} {Q : B → Sto → Prop} {X : Str → Sto → Prop} : (r.bind k).post Q X ↔ r.post (fun a s => (k a s).post Q X) X := by cases r <;> exact Iff.rfl
theorem post.imp {r : R A} {Q Q' : A → Sto → Prop} {X X' : Str → Sto → Prop} (h : r.post Q X) (hq : ∀ a s, Q a s → Q' a s) (hx : ∀ c s, X c s → X' c s) : r.post Q' X' := by
  cases r with
  | ok a s => exact hq a s h
  | ex c s => exact hx c s h
  | bad => exact h
/-- an exception here is not told -/
def noex (r : R A) : R A := match r with
  | ok a s => ok a s
  | _ => bad
theorem post_noex {r : R A} {Q : A → Sto → Prop} {X X' : Str → Sto → Prop} (h : r.noex.post Q X) : r.post Q X' := by
  cases r with
  | ok a s => exact h
  | ex c s => exact False.elim h
  | bad => exact h
@[simp] theorem bind_ok {a : A} {s : Sto} {k : A → Sto → R B} : (R.ok a s).bind k = k a s := rfl
@[simp] theorem bind_ex {c : Str} {s : Sto} {k : A → Sto → R B} : (R.ex c s : R A).bind k = R.ex c s := rfl
@[simp] theorem bind_bad {k : A → Sto → R B} : (R.bad : R A).bind k = R.bad := rfl
@[simp] theorem noex_ok {a : A} {s : Sto} : (R.ok a s).noex = R.ok a s := rfl
end R

mutual
/-- as a key of a dict -/
def nkey : D → Option NestedKey
  | .non => some .none
  | .bl b => some (.num (if b = true then 1 else 0))
  | .int i => some (.num i)
  | .str x => some (.text x)
  | .tup xs => (nkeys xs).map .tup
  | .ref _ => none
  | .glb _ => none
  | .ty _ => none
  | .clo _ _ => none
def nkeys : List D → Option (List NestedKey)
  | [] => some []
  | x :: xs => (nkey x).bind fun k => (nkeys xs).map fun ks => k :: ks
end

/-- a nested def, a lambda, as its text has it: name, qualified name, parameters; the body (a lambda's: its expression); its scope, its parameters, what it captures, all its names -/
structure NFS where
  name : Str
  qual : Str
  params : Arguments
  body : List Stmt
  lam : Option Expr
  scope : Scope
  ps : List Str
  fr : List Str
  N : List Str
abbrev NFS.nf (S : NFS) (cl : List (Str × Addr)) (c : Addr) : NF := ⟨S.name, S.qual, S.params, S.body, S.scope, cl, c⟩
/-- the function object of a lambda -/
def LamO (f : Addr) (S : NFS) (e : Expr) (cl : List (Str × Addr)) (c : Addr) : HO := .ext fun h => ∃ (od : Option Addr) (sl : Array (Option Value)) (pm ctv : Value), h.get? f = some (⟨.type "function", od, .func (PySem.W.kla_fn S.name S.qual S.params e S.scope cl pm (.ref c) ctv), sl⟩ : Obj)
def CloO (f : Addr) (S : NFS) (cl : List (Str × Addr)) (c : Addr) : HO := match S.lam with
  | none => FnO f (S.nf cl c)
  | some e => LamO f S e cl c
/-- a cell that holds w -/
def CellO (c : Addr) (w : V) : HO := .ext fun h => ∃ u, L2.RelV w u ∧ h.IsCell c (some u)
/-- tables of code objects (each tells one name); the nested defs by number -/
structure Tb where
  T : List (Addr × Str)
  nf : Nat → Option NFS
def B0 : Tb := ⟨[], fun _ => none⟩
/-- what is fixed through the law -/
structure G where
  P : Program
  w : World
  K : PySem.W.Frag
  mg : Str → Option Value
  B : Tb
abbrev gOf (B : Tb) (X : Cx) : G := ⟨X.prog, X.w, X.K, X.mg, B⟩
/-- the heap without the cells -/
def less (H : Hp) (cl : List (Str × Addr)) : Hp := fun b => if b ∈ cl.map (·.2) then none else H b
/-- a made function at f, its captured cells hold ws -/
structure CloAt (q : List Addr) (H : Hp) (f : Addr) (S : NFS) (cl : List (Str × Addr)) (c : Addr) (ws : List V) : Prop where
  fn : H f = some (CloO f S cl c)
  fq : f ∉ q
  code : H c = some (CodeO c S.qual)
  cq : c ∉ q
  all : ∀ p ∈ cl, p.2 ∉ q ∧ ∃ w, H p.2 = some (CellO p.2 w)
  inj : ∀ x y a, cl.lookup x = some a → cl.lookup y = some a → x = y
  len : ws.length = S.fr.length
  has : ∀ (i : Nat) (y : Str), S.fr[i]? = some y → ∃ a w, cl.lookup y = some a ∧ ws[i]? = some w ∧ H a = some (CellO a w)

mutual
inductive RD (g : G) (q : List Addr) : Hp → V → D → Prop
  | non {H : Hp} : RD g q H .non .non
  | bl {H : Hp} (b : Bool) : RD g q H (.bl b) (.bl b)
  | int {H : Hp} (i : Int) : RD g q H (.int i) (.int i)
  | str {H : Hp} (x : Str) : RD g q H (.str x) (.str x)
  | tup {H : Hp} {a : Addr} {xs : List V} {ds : List D} : SqT g.K H a xs → RDs g q H xs ds → RD g q H (.ref a) (.tup ds)
  | ref {H : Hp} {n : Nat} {a : Addr} : q[n]? = some a → RD g q H (.ref a) (.ref n)
  | glb {H : Hp} {x : Str} {a : Addr} : g.mg x = some (.ref a) → RD g q H (.ref a) (.glb x)
  | ty {H : Hp} (n : String) : RD g q H (.ty n) (.ty n)
  | clo {H : Hp} {f : Addr} {k : Nat} {cap : List D} {S : NFS} {cl : List (Str × Addr)} {c : Addr} {ws : List V} : g.B.nf k = some S → CloAt q H f S cl c ws → RDs g q (less H cl) ws cap → RD g q H (.ref f) (.clo k cap)
inductive RDs (g : G) (q : List Addr) : Hp → List V → List D → Prop
  | nil {H : Hp} : RDs g q H [] []
  | cons {H : Hp} {v : V} {vs : List V} {d : D} {ds : List D} : RD g q H v d → RDs g q H vs ds → RDs g q H (v :: vs) (d :: ds)
end

/-- something but a table stands there -/
def Live (H : Hp) (a : Addr) : Prop := ∃ o, H a = some o ∧ ∀ ps, o ≠ .tbl ps
/-- the later heap has the tuples of the earlier one, and all that is no place of the store; the later places begin as the earlier ones -/
structure Ext (q : List Addr) (H : Hp) (q' : List Addr) (H' : Hp) : Prop where
  pre : ∃ m, q' = q ++ m ∧ ∀ a ∈ m, ¬ Live H a
  tup : ∀ a xs, Rd H a (.tup xs) → Rd H' a (.tup xs)
  rest : ∀ a o, H a = some o → a ∉ q → (∀ ps, o ≠ .tbl ps) → H' a = some o
  live : ∀ a, Live H a → Live H' a
theorem Ext.refl {q : List Addr} {H : Hp} : Ext q H q H := ⟨⟨[], by simp⟩, fun _ _ h => h, fun _ _ h _ _ => h, fun _ h => h⟩
theorem Ext.trans {q q1 q2 : List Addr} {H H1 H2 : Hp} (a : Ext q H q1 H1) (b : Ext q1 H1 q2 H2) : Ext q H q2 H2 := by
  obtain ⟨m, rfl, hm⟩ := a.pre
  obtain ⟨m', rfl, hm'⟩ := b.pre
  refine ⟨⟨m ++ m', by simp, fun c hc => ?_⟩, fun c xs h => b.tup c xs (a.tup c xs h), fun c o h n t => ?_, fun c h => b.live c (a.live c h)⟩
  · rcases List.mem_append.mp hc with h | h
    · exact hm c h
    · exact fun z => hm' c h (a.live c z)
  · refine b.rest c o (a.rest c o h n t) (fun z => ?_) t
    rcases List.mem_append.mp z with z | z
    · exact n z
    · exact hm c z ⟨o, h, t⟩
theorem Ext.notin {q q' : List Addr} {H H' : Hp} (e : Ext q H q' H') {a : Addr} (l : Live H a) (n : a ∉ q) : a ∉ q' := by
  obtain ⟨m, rfl, hm⟩ := e.pre
  intro z
  rcases List.mem_append.mp z with z | z
  · exact n z
  · exact hm a z l
theorem less_some {H : Hp} {cl : List (Str × Addr)} {a : Addr} {o : HO} : less H cl a = some o ↔ a ∉ cl.map (·.2) ∧ H a = some o := by
  by_cases h : a ∈ cl.map (·.2)
  · constructor
    · intro z; unfold less at z; rw [if_pos h] at z; cases z
    · intro z; exact absurd h z.1
  · constructor
    · intro z; unfold less at z; rw [if_neg h] at z; exact ⟨h, z⟩
    · intro z; unfold less; rw [if_neg h]; exact z.2
theorem less_rd {H : Hp} {cl : List (Str × Addr)} {a : Addr} {u : HO} : Rd (less H cl) a u ↔ a ∉ cl.map (·.2) ∧ Rd H a u := by
  constructor
  · rintro (h | ⟨o, h⟩)
    · exact ⟨(less_some.mp h).1, .inl (less_some.mp h).2⟩
    · exact ⟨(less_some.mp h).1, .inr ⟨o, (less_some.mp h).2⟩⟩
  · rintro ⟨n, h | ⟨o, h⟩⟩
    · exact .inl (less_some.mpr ⟨n, h⟩)
    · exact .inr ⟨o, less_some.mpr ⟨n, h⟩⟩
theorem less_live {H : Hp} {cl : List (Str × Addr)} {a : Addr} : Live (less H cl) a ↔ a ∉ cl.map (·.2) ∧ Live H a := by
  constructor
  · rintro ⟨o, h, t⟩
    exact ⟨(less_some.mp h).1, o, (less_some.mp h).2, t⟩
  · rintro ⟨n, o, h, t⟩
    exact ⟨o, less_some.mpr ⟨n, h⟩, t⟩
theorem Ext.less {q q' : List Addr} {H H' : Hp} (e : Ext q H q' H') (cl : List (Str × Addr)) : Ext q (less H cl) q' (VL.less H' cl) := by
  obtain ⟨m, rfl, hm⟩ := e.pre
  exact ⟨⟨m, rfl, fun a ha z => hm a ha (less_live.mp z).2⟩, fun a xs h => less_rd.mpr ⟨(less_rd.mp h).1, e.tup a xs (less_rd.mp h).2⟩, fun a o h n t => less_some.mpr ⟨(less_some.mp h).1, e.rest a o (less_some.mp h).2 n t⟩, fun a h => less_live.mpr ⟨(less_live.mp h).1, e.live a (less_live.mp h).2⟩⟩
theorem cloO_ne {f : Addr} {S : NFS} {cl : List (Str × Addr)} {c : Addr} (ps : Array Value) : CloO f S cl c ≠ .tbl ps := by
  unfold CloO
  split
  · exact fnO_ne ps
  · intro z; unfold LamO at z; cases z
theorem cellO_ne {c : Addr} {w : V} (ps : Array Value) : CellO c w ≠ .tbl ps := fun z => by unfold CellO at z; cases z
theorem CloAt.ext {q q' : List Addr} {H H' : Hp} {f : Addr} {S : NFS} {cl : List (Str × Addr)} {c : Addr} {ws : List V} (e : Ext q H q' H') (x : CloAt q H f S cl c ws) : CloAt q' H' f S cl c ws where
  fn := e.rest _ _ x.fn x.fq cloO_ne
  fq := e.notin ⟨_, x.fn, cloO_ne⟩ x.fq
  code := e.rest _ _ x.code x.cq codeO_ne
  cq := e.notin ⟨_, x.code, codeO_ne⟩ x.cq
  all := fun p h => by
    obtain ⟨n, w, z⟩ := x.all p h
    exact ⟨e.notin ⟨_, z, cellO_ne⟩ n, w, e.rest _ _ z n cellO_ne⟩
  inj := x.inj
  len := x.len
  has := fun i y h => by
    obtain ⟨a, w, h1, h2, h3⟩ := x.has i y h
    exact ⟨a, w, h1, h2, e.rest _ _ h3 (x.all (y, a) (PySem.mem_of_lookup h1)).1 cellO_ne⟩
theorem Ext.at {q q' : List Addr} {H H' : Hp} (e : Ext q H q' H') {n : Nat} {a : Addr} (h : q[n]? = some a) : q'[n]? = some a := by
  obtain ⟨m, rfl, _⟩ := e.pre
  rw [List.getElem?_append_left (List.getElem?_eq_some_iff.mp h).1]
  exact h
theorem Rd.same {H H' : Hp} {a : Addr} {u : HO} (s : Same H H') (h : Rd H a u) : Rd H' a u := by
  rcases h with h | ⟨o, h⟩
  · exact .inl (s _ _ h)
  · exact .inr ⟨o, s _ _ h⟩
theorem Same.live {H H' : Hp} (s : Same H H') {a : Addr} (h : Live H a) : Live H' a := let ⟨o, h1, h2⟩ := h; ⟨o, s _ _ h1, h2⟩
theorem Same.ext {q : List Addr} {p : Addr} {H H' : Hp} (s : Same H H') (hp : H p = none) : Ext q H (q ++ [p]) H' := ⟨⟨[p], rfl, fun a ha ⟨o, h, _⟩ => by
  rw [List.mem_singleton] at ha
  subst ha
  rw [hp] at h
  cases h⟩, fun _ _ h => Rd.same s h, fun _ _ h _ _ => s _ _ h, fun _ h => Same.live s h⟩
theorem Same.ext0 {q : List Addr} {H H' : Hp} (s : Same H H') : Ext q H q H' := ⟨⟨[], by simp⟩, fun _ _ h => Rd.same s h, fun _ _ h _ _ => s _ _ h, fun _ h => Same.live s h⟩
theorem same_upd {H : Hp} {p : Addr} {o : HO} (h : H p = none) : Same H (upd H p o) := fun b x e => by
  rw [upd_ne (ne_of_none e h)]
  exact e
theorem sqT_ext {K : PySem.W.Frag} {q q' : List Addr} {H H' : Hp} {a : Addr} {xs : List V} (e : Ext q H q' H') (h : SqT K H a xs) : SqT K H' a xs := by
  rcases h with h | h
  · exact .inl (e.tup _ _ h)
  · exact .inr h

section
variable {g : G} {q q' : List Addr}
mutual
theorem RD.ext {H H' : Hp} (e : Ext q H q' H') : ∀ {v : V} {d : D}, RD g q H v d → RD g q' H' v d
  | _, _, .non => .non
  | _, _, .bl b => .bl b
  | _, _, .int i => .int i
  | _, _, .str x => .str x
  | _, _, .tup h r => .tup (sqT_ext e h) (RDs.ext e r)
  | _, _, .ref h => .ref (e.at h)
  | _, _, .glb h => .glb h
  | _, _, .ty n => .ty n
  | _, _, .clo h x r => .clo h (x.ext e) (RDs.ext (e.less _) r)
theorem RDs.ext {H H' : Hp} (e : Ext q H q' H') : ∀ {vs : List V} {ds : List D}, RDs g q H vs ds → RDs g q' H' vs ds
  | _, _, .nil => .nil
  | _, _, .cons r t => .cons (RD.ext e r) (RDs.ext e t)
end
variable {H H' : Hp}
theorem RDs.length : ∀ {vs : List V} {ds : List D}, RDs g q H vs ds → vs.length = ds.length
  | _, _, .nil => rfl
  | _, _, .cons _ t => by rw [List.length_cons, List.length_cons, RDs.length t]
theorem RDs.get : ∀ {vs : List V} {ds : List D} {i : Nat} {d : D}, RDs g q H vs ds → ds[i]? = some d → ∃ v, vs[i]? = some v ∧ RD g q H v d
  | _, _, _, _, .nil, e => by simp at e
  | _, _, 0, _, .cons r _, e => by simp at e; subst e; exact ⟨_, rfl, r⟩
  | _, _, i + 1, d, .cons _ t, e => by
    obtain ⟨v, h1, h2⟩ := RDs.get (i := i) (d := d) t (by simpa using e)
    exact ⟨v, by simpa using h1, h2⟩
theorem RDs.getV {vs : List V} {ds : List D} {i : Nat} {v : V} (r : RDs g q H vs ds) (e : vs[i]? = some v) : ∃ d, ds[i]? = some d ∧ RD g q H v d := by
  have hl : i < ds.length := by rw [← r.length]; exact (List.getElem?_eq_some_iff.mp e).1
  obtain ⟨v', h1, h2⟩ := r.get (List.getElem?_eq_getElem hl)
  rw [e] at h1; cases h1
  exact ⟨_, List.getElem?_eq_getElem hl, h2⟩
theorem RDs.append : ∀ {vs ws : List V} {ds es : List D}, RDs g q H vs ds → RDs g q H ws es → RDs g q H (vs ++ ws) (ds ++ es)
  | _, _, _, _, .nil, s => s
  | _, _, _, _, .cons r t, s => .cons r (RDs.append t s)
theorem RDs.take : ∀ {vs : List V} {ds : List D} (n : Nat), RDs g q H vs ds → RDs g q H (vs.take n) (ds.take n)
  | _, _, 0, _ => .nil
  | _, _, _ + 1, .nil => .nil
  | _, _, n + 1, .cons r t => .cons r (RDs.take n t)
theorem RDs.drop : ∀ {vs : List V} {ds : List D} (n : Nat), RDs g q H vs ds → RDs g q H (vs.drop n) (ds.drop n)
  | _, _, 0, r => r
  | _, _, _ + 1, .nil => .nil
  | _, _, n + 1, .cons _ t => RDs.drop n t
theorem RDs.set {v : V} {d : D} (r : RD g q H v d) : ∀ {vs : List V} {ds : List D} (i : Nat), RDs g q H vs ds → RDs g q H (vs.set i v) (ds.set i d)
  | _, _, _, .nil => .nil
  | _, _, 0, .cons _ t => .cons r t
  | _, _, i + 1, .cons q t => .cons q (RDs.set r i t)
theorem RDs.reverse : ∀ {vs : List V} {ds : List D}, RDs g q H vs ds → RDs g q H vs.reverse ds.reverse
  | _, _, .nil => .nil
  | _, _, .cons r t => by
    rw [List.reverse_cons, List.reverse_cons]
    exact (RDs.reverse t).append (.cons r .nil)
theorem RDs.dropLast {vs : List V} {ds : List D} (h : RDs g q H vs ds) : RDs g q H vs.dropLast ds.dropLast := by
  rw [List.dropLast_eq_take, List.dropLast_eq_take, h.length]
  exact h.take _
theorem RDs.ints : ∀ {ns : List Int}, RDs g q H (ns.map V.int) (ns.map D.int)
  | [] => .nil
  | n :: ns => .cons (.int n) RDs.ints
end

/-- the raw dict at a: its entries by their keys, the keys' tuples, the values -/
def rawK (g : G) (a : Addr) (xs : List (NestedKey × Addr × Value)) (h : Heap) : Prop :=
  (a == sysModules) = false ∧ ∃ o es ep, h.get? a = some o ∧ o.ExactDict ∧ o.data = .dict es ep ∧ es.toList = xs.map (entryOfKey (nestedKind g.P g.w)) ∧ (xs.map (·.1)).Nodup
/-- a dict whose keys are tuples -/
def RowDict (g : G) (q : List Addr) (H : Hp) (a : Addr) (kvs : List (D × D)) : Prop :=
  kvs.length ≤ sizeLine ∧ ∃ xs : List (NestedKey × Addr × Value), H a = some (.ext (rawK g a xs)) ∧
    Paired (fun (p : D × D) (x : NestedKey × Addr × Value) => nkey p.1 = some x.1 ∧ x.1.depth ≤ 8 ∧ RD g q H (.ref x.2.1) p.1 ∧ ∃ v, RelV v x.2.2 ∧ RD g q H v p.2) kvs xs
/-- a key that is an int or a text -/
def dK : Key → D
  | .inl i => .int i
  | .inr x => .str x
/-- a list that is read and never written: locked, or of the written part -/
def RoL (K : PySem.W.Frag) (H : Hp) (a : Addr) (xs : List V) : Prop :=
  (∃ ob, H a = some (.frz ob (.lst xs))) ∨ ∃ (o : Obj) (its : Array Value) (n : Nat), K.lookup a = some o ∧ o.cls = .type "list" ∧ o.dict = none ∧ o.data = .seq its n ∧ its.size ≤ sizeLine ∧ Vals xs its.toList
theorem RoL.sq {K : PySem.W.Frag} {H : Hp} {a : Addr} {xs : List V} (h : RoL K H a xs) : SqL K H a xs := by
  rcases h with ⟨ob, h⟩ | h
  · exact .inl (.inr ⟨ob, h⟩)
  · exact .inr h
def RO (g : G) (q : List Addr) (H : Hp) (a : Addr) : O → Prop
  | .lst ds => ∃ xs, H a = some (.lst xs) ∧ RDs g q H xs ds
  | .rl ds => ∃ xs, RoL g.K H a xs ∧ RDs g q H xs ds
  | .dic kvs => (∃ gs : List (Key × V), H a = some (.dK gs) ∧ Paired (fun (p : D × D) (x : Key × V) => p.1 = dK x.1 ∧ RD g q H x.2 p.2) kvs gs) ∨ RowDict g q H a kvs
  | .ins c fs => ∃ C dx gs, g.mg c = some (.ref C) ∧ H a = some (.ins C dx gs) ∧ Paired (fun (p : Str × D) (x : Str × V) => p.1 = x.1 ∧ RD g q H x.2 p.2) fs gs
/-- the store as it lies: q, its objects' places -/
structure RS (g : G) (q : List Addr) (H : Hp) (st : Sto) : Prop where
  len : q.length = st.length
  nd : ∀ (m n : Nat) (a : Addr), q[m]? = some a → q[n]? = some a → m = n ∨ (∃ xs, st[m]? = some (.rl xs)) ∨ ∃ xs, st[n]? = some (.rl xs)
  at_ : ∀ (n : Nat) (a : Addr) (o : O), q[n]? = some a → st[n]? = some o → RO g q H a o
  tabs : Tabs g.B.T H
/-- the names' values -/
def RE (g : G) (q : List Addr) (H : Hp) (sg : L2.St) (env : EnvD) : Prop := Paired (fun (v : Option V) (d : Option D) => ∀ x, d = some x → ∃ y, v = some y ∧ RD g q H y x) sg env

section
variable {g : G} {q q' : List Addr} {H H' : Hp} {a : Addr} {o : O} {st : Sto} {sg : L2.St} {env : EnvD}
/-- an object that stands as it stood -/
theorem RO.stay (e : Ext q H q' H') (h0 : H' a = H a) (r : RO g q H a o) : RO g q' H' a o := by
  cases o with
  | lst ds => obtain ⟨xs, h, r⟩ := r; exact ⟨xs, h0.trans h, r.ext e⟩
  | rl ds =>
    obtain ⟨xs, h, r⟩ := r
    refine ⟨xs, ?_, r.ext e⟩
    rcases h with ⟨ob, h⟩ | h
    · exact .inl ⟨ob, h0.trans h⟩
    · exact .inr h
  | dic kvs =>
    rcases r with ⟨gs, h, r⟩ | ⟨hz, xs, h, r⟩
    · exact .inl ⟨gs, h0.trans h, Paired.mapP r fun p x z => ⟨z.1, z.2.ext e⟩⟩
    · exact .inr ⟨hz, xs, h0.trans h, Paired.mapP r fun p x ⟨z1, z2, z3, v, z4, z5⟩ => ⟨z1, z2, z3.ext e, v, z4, z5.ext e⟩⟩
  | ins c fs =>
    obtain ⟨C, dx, gs, hc, h, r⟩ := r
    exact ⟨C, dx, gs, hc, h0.trans h, Paired.mapP r fun p x z => ⟨z.1, z.2.ext e⟩⟩
/-- it is tracked, or a list of the written part (then nothing of the heap is asked) -/
theorem RO.there (r : RO g q H a o) : H a ≠ none ∨ ((∃ xs, o = O.rl xs) ∧ ∀ q' H', Ext q H q' H' → RO g q' H' a o) := by
  cases o with
  | lst ds => obtain ⟨xs, h, _⟩ := r; exact .inl (by rw [h]; simp)
  | rl ds =>
    obtain ⟨xs, h, r⟩ := r
    rcases h with ⟨ob, h⟩ | h
    · exact .inl (by rw [h]; simp)
    · exact .inr ⟨⟨ds, rfl⟩, fun q' H' e => ⟨xs, .inr h, r.ext e⟩⟩
  | dic kvs =>
    rcases r with ⟨gs, h, _⟩ | ⟨_, xs, h, _⟩
    · exact .inl (by rw [h]; simp)
    · exact .inl (by rw [h]; simp)
  | ins c fs => obtain ⟨C, dx, gs, _, h, _⟩ := r; exact .inl (by rw [h]; simp)
theorem RO.same (s : Same H H') (r : RO g q H a o) : RO g q H' a o := by
  rcases r.there with h | ⟨_, h⟩
  · cases e : H a with
    | some u => exact RO.stay (Same.ext0 s) ((s _ _ e).trans e.symm) r
    | none => exact absurd e h
  · exact h _ _ (Same.ext0 s)
theorem RS.same (s : Same H H') (r : RS g q H st) : RS g q H' st := ⟨r.len, r.nd, fun n a o h1 h2 => (r.at_ n a o h1 h2).same s, r.tabs.ext fun b o e => s b o e⟩
theorem RS.get (r : RS g q H st) {n : Nat} {o : O} (h : st[n]? = some o) : ∃ a, q[n]? = some a ∧ RO g q H a o := by
  have hl : n < q.length := by rw [r.len]; exact (List.getElem?_eq_some_iff.mp h).1
  exact ⟨_, List.getElem?_eq_getElem hl, r.at_ n _ o (List.getElem?_eq_getElem hl) h⟩
theorem RE.ext (e : Ext q H q' H') (r : RE g q H sg env) : RE g q' H' sg env := Paired.mapP r fun v d z x hx => let ⟨y, h1, h2⟩ := z x hx; ⟨y, h1, h2.ext e⟩
theorem Paired.at? {A B : Type} {F : A → B → Prop} : ∀ {l : List A} {m : List B} {i : Nat} {b : B}, Paired F l m → m[i]? = some b → ∃ a, l[i]? = some a ∧ F a b
  | _, _, _, _, .nil, h => by simp at h
  | _, _, 0, _, .cons r _, h => by simp at h; subst h; exact ⟨_, rfl, r⟩
  | _, _, i + 1, b, .cons _ t, h => by
    obtain ⟨a, h1, h2⟩ := Paired.at? (i := i) (b := b) t (by simpa using h)
    exact ⟨a, by simpa using h1, h2⟩
theorem Paired.set_ {A B : Type} {F : A → B → Prop} {a : A} {b : B} (r : F a b) : ∀ {l : List A} {m : List B} (i : Nat), Paired F l m → Paired F (l.set i a) (m.set i b)
  | _, _, _, .nil => .nil
  | _, _, 0, .cons _ t => .cons r t
  | _, _, i + 1, .cons q t => .cons q (Paired.set_ r i t)
theorem Paired.app {A B : Type} {F : A → B → Prop} : ∀ {l l' : List A} {m m' : List B}, Paired F l m → Paired F l' m' → Paired F (l ++ l') (m ++ m')
  | _, _, _, _, .nil, s => s
  | _, _, _, _, .cons r t, s => .cons r (Paired.app t s)
theorem RE.get (r : RE g q H sg env) {i : Nat} {d : D} (h : env[i]? = some (some d)) : ∃ v, sg[i]? = some (some v) ∧ RD g q H v d := by
  obtain ⟨ov, h1, h2⟩ := Paired.at? r h
  obtain ⟨y, rfl, h3⟩ := h2 d rfl
  exact ⟨y, h1, h3⟩
theorem RE.set (r : RE g q H sg env) {i : Nat} {v : V} {d : D} (h : RD g q H v d) : RE g q H (sg.set i (some v)) (env.set i (some d)) := Paired.set_ (fun x e => by cases e; exact ⟨v, rfl, h⟩) i r
/-- a new object of the store -/
theorem RS.new (r : RS g q H st) {p : Addr} {u : HO} (hp : H p = none) (ho : RO g (q ++ [p]) (upd H p u) p o) : RS g (q ++ [p]) (upd H p u) (st ++ [o]) := by
  have s := same_upd (o := u) hp
  have low : ∀ {n : Nat} {a : Addr}, q[n]? = some a → n < st.length := fun h => by rw [← r.len]; exact (List.getElem?_eq_some_iff.mp h).1
  have fresh : ∀ n, q[n]? = some p → ∃ xs, (st ++ [o])[n]? = some (O.rl xs) := fun n hn => by
    have hl := low hn
    rcases (r.at_ n p _ hn (List.getElem?_eq_getElem hl)).there with h | ⟨⟨xs, h⟩, _⟩
    · exact absurd hp h
    · exact ⟨xs, by rw [List.getElem?_append_left hl, List.getElem?_eq_getElem hl, h]⟩
  have last : ∀ {n : Nat} {a : Addr}, ¬ n < q.length → (q ++ [p])[n]? = some a → n = q.length ∧ a = p := fun {n a} hn h => by
    have e : n = q.length := by
      have := (List.getElem?_eq_some_iff.mp h).1
      rw [List.length_append, List.length_singleton] at this
      omega
    subst e
    rw [List.getElem?_append_right (Nat.le_refl _), Nat.sub_self] at h
    simp at h
    exact ⟨rfl, h.symm⟩
  refine ⟨by simp [r.len], fun m n a h1 h2 => ?_, fun n a x h1 h2 => ?_, r.tabs.ext fun b o e => s b o e⟩
  · by_cases hm : m < q.length
    · by_cases hn : n < q.length
      · rw [List.getElem?_append_left hm] at h1
        rw [List.getElem?_append_left hn] at h2
        rw [List.getElem?_append_left (low h1), List.getElem?_append_left (low h2)]
        exact r.nd m n a h1 h2
      · obtain ⟨_, rfl⟩ := last hn h2
        rw [List.getElem?_append_left hm] at h1
        exact .inr (.inl (fresh m h1))
    · obtain ⟨e1, rfl⟩ := last hm h1
      by_cases hn : n < q.length
      · rw [List.getElem?_append_left hn] at h2
        exact .inr (.inr (fresh n h2))
      · obtain ⟨e2, _⟩ := last hn h2
        exact .inl (e1.trans e2.symm)
  · by_cases hn : n < q.length
    · rw [List.getElem?_append_left hn] at h1
      rw [List.getElem?_append_left (low h1)] at h2
      have z := r.at_ n a x h1 h2
      rcases z.there with h | ⟨_, h⟩
      · have hne : a ≠ p := fun e => h (by rw [e]; exact hp)
        exact z.stay (Same.ext s hp) (upd_ne hne)
      · exact h _ _ (Same.ext s hp)
    · obtain ⟨rfl, rfl⟩ := last hn h1
      rw [r.len, List.getElem?_append_right (Nat.le_refl _), Nat.sub_self] at h2
      simp at h2
      subst h2
      exact ho
/-- an object of the store written -/
theorem RS.put' (r : RS g q H st) {n : Nat} {u : HO} (ha : q[n]? = some a) (h0 : ∀ xs, st[n]? ≠ some (O.rl xs)) (mu : Mut (H a)) (nx : ∀ φ, H a ≠ some (.ext φ)) (hu : ∀ ps, u ≠ .tbl ps) (ho : Ext q H q (upd H a u) → RO g q (upd H a u) a o) : RS g q (upd H a u) (st.set n o) ∧ Ext q H q (upd H a u) := by
  have hin : a ∈ q := List.mem_of_getElem? ha
  have ext : Ext q H q (upd H a u) := ⟨⟨[], by simp⟩, fun b xs h => by
    have hb : b ≠ a := fun e => by
      subst e
      rcases h with h | ⟨ob, h⟩
      · rw [h] at mu; exact mu
      · rw [h] at mu; exact mu
    rcases h with h | ⟨ob, h⟩
    · exact .inl (by rw [upd_ne hb]; exact h)
    · exact .inr ⟨ob, by rw [upd_ne hb]; exact h⟩, fun b o h n _ => by
      have hb : b ≠ a := fun e => n (by rw [e]; exact hin)
      rw [upd_ne hb]; exact h, fun b ⟨o, h, t⟩ => by
      by_cases hb : b = a
      · subst hb; exact ⟨u, upd_same, hu⟩
      · exact ⟨o, by rw [upd_ne hb]; exact h, t⟩⟩
  have tabs : Tabs g.B.T (upd H a u) := fun p hp => by
    obtain ⟨ps, h1, h2, h3⟩ := r.tabs p hp
    have n1 : p.1 ≠ a := fun e => by rw [← e, h1] at mu; exact mu
    refine ⟨ps, by rw [upd_ne n1]; exact h1, h2, fun pos cv hc => ?_⟩
    obtain ⟨c, e1, e2⟩ := h3 pos cv hc
    refine ⟨c, e1, ?_⟩
    rw [upd_ne]
    · exact e2
    · intro e
      rw [e] at e2
      unfold CodeO at e2
      exact nx _ e2
  have hl : n < st.length := by rw [← r.len]; exact (List.getElem?_eq_some_iff.mp ha).1
  have other : ∀ m : Nat, q[m]? = some a → m ≠ n → ∃ xs, st[m]? = some (O.rl xs) := fun m hm hne => by
    rcases r.nd m n a hm ha with z | z | ⟨xs, z⟩
    · exact absurd z hne
    · exact z
    · exact absurd z (h0 xs)
  refine ⟨⟨by simp [r.len], fun m k b h1 h2 => ?_, fun m b x h1 h2 => ?_, tabs⟩, ext⟩
  · by_cases e : m = k
    · exact .inl e
    · have keep : ∀ {j : Nat} {xs : List D}, st[j]? = some (O.rl xs) → (st.set n o)[j]? = some (O.rl xs) := fun {j xs} z => by
        have : n ≠ j := fun e => h0 xs (by rw [e]; exact z)
        rw [List.getElem?_set_ne this]; exact z
      rcases r.nd m k b h1 h2 with z | ⟨xs, z⟩ | ⟨xs, z⟩
      · exact .inl z
      · exact .inr (.inl ⟨xs, keep z⟩)
      · exact .inr (.inr ⟨xs, keep z⟩)
  · by_cases e : m = n
    · subst e
      rw [ha] at h1; cases h1
      rw [List.getElem?_set_self hl] at h2
      cases h2
      exact ho ext
    · rw [List.getElem?_set_ne (Ne.symm e)] at h2
      have z := r.at_ m b x h1 h2
      by_cases hb : b = a
      · subst hb
        obtain ⟨xs, hx⟩ := other m h1 e
        rw [h2] at hx; cases hx
        obtain ⟨ys, hy, ry⟩ := z
        rcases hy with ⟨ob, hy⟩ | hy
        · rw [hy] at mu; exact False.elim mu
        · exact ⟨ys, .inr hy, ry.ext ext⟩
      · exact z.stay ext (upd_ne hb)
end
end VL

/-! VL2: readings by functions of the store; expressions, tests, statements. -/
namespace L2
open PySem PySem.Spec PyProof.Rows
section
variable {X : Cx}
theorem PE.imp {e : Expr} {t t' : TE} (h : PE X e t) (i : ∀ sg H Q, t' sg H Q → t sg H Q) : PE X e t' := ⟨fun pins s sg H Q I w => h.run pins s sg H Q I (i _ _ _ w)⟩
theorem PT.imp {e : Expr} {t t' : TT} (h : PT X e t) (i : ∀ sg H Q, t' sg H Q → t sg H Q) : PT X e t' := ⟨fun pins s sg H Q I w => h.run pins s sg H Q I (i _ _ _ w)⟩
theorem PW.imp {e : Expr} {t t' : TT} (h : PW X e t) (i : ∀ sg H Q, t' sg H Q → t sg H Q) : PW X e t' := ⟨fun wh pins s sg H Q I w => h.run wh pins s sg H Q I (i _ _ _ w)⟩
theorem PA.imp {e : List Expr} {t t' : TA} (h : PA X e t) (i : ∀ sg H Q, t' sg H Q → t sg H Q) : PA X e t' := ⟨fun pos pins s sg H Q I w => h.run pos pins s sg H Q I (i _ _ _ w)⟩
theorem PS.imp {e : Stmt} {t t' : TS} (h : PS X e t) (i : ∀ T sg H, t' T sg H → t T sg H) : PS X e t' := ⟨fun pins s sg H Q I w => h.run pins s sg H Q I (i _ _ _ w)⟩
theorem PSs.imp {e : List Stmt} {t t' : TS} (h : PSs X e t) (i : ∀ T sg H, t' T sg H → t T sg H) : PSs X e t' := ⟨fun pins s sg H Q I w => h.run pins s sg H Q I (i _ _ _ w)⟩
theorem OpR.imp {f : Value → Value → Sem Value} {r r' : R2} (h : OpR X f r) (i : ∀ x y H Q, r' x y H Q → r x y H Q) : OpR X f r' := fun pins s sg H x y v u Q I r1 r2 w => h pins s sg H x y v u Q I r1 r2 (i _ _ _ _ w)
theorem CallR.imp {f : Value} {r r' : List V → Hp → VK → Prop} (h : CallR X f r) (i : ∀ xs H Q, r' xs H Q → r xs H Q) : CallR X f r' := fun pins s sg H xs us Q I r1 w => h pins s sg H xs us Q I r1 (i _ _ _ w)
theorem MtR.imp {f : String} {r r' : V → List V → Hp → VK → Prop} (h : MtR X f r) (i : ∀ x xs H Q, r' x xs H Q → r x xs H Q) : MtR X f r' := fun pins s sg H x xs v us Q I r1 r2 w => h pins s sg H x xs v us Q I r1 r2 (i _ _ _ _ w)
theorem IxR.imp {r r' : R2} (h : IxR X r) (i : ∀ x y H Q, r' x y H Q → r x y H Q) : IxR X r' := fun a b pins s sg H x y v u Q I r1 r2 w => h a b pins s sg H x y v u Q I r1 r2 (i _ _ _ _ w)
theorem UnR.imp {f : Value → Sem Value} {r r' : V → Hp → VK → Prop} (h : UnR X f r) (i : ∀ x H Q, r' x H Q → r x H Q) : UnR X f r' := fun pins s sg H x v Q I r1 w => h pins s sg H x v Q I r1 (i _ _ _ w)
theorem PG.imp {e : Expr} {t t' : TG} (h : PG X e t) (i : ∀ v sg H Q, t' v sg H Q → t v sg H Q) : PG X e t' := ⟨fun pins s sg H v u Q I r w => h.run pins s sg H v u Q I r (i _ _ _ _ w)⟩
theorem PGs.imp {e : List Expr} {t t' : TGs} (h : PGs X e t) (i : ∀ v sg H Q, t' v sg H Q → t v sg H Q) : PGs X e t' := ⟨fun pins s sg H v u Q I r w => h.run pins s sg H v u Q I r (i _ _ _ _ w)⟩
end
end L2
namespace VL
open PySem PySem.Spec PyProof.Rows L2 LamX NdefX
variable {B : Tb}

/-! ### liftings -/
/-- behind a value; behind an exception -/
def KV (g : G) (q : List Addr) (H : Hp) (Q : VK) : D → Sto → Prop := fun d st => ∀ q' v H', Ext q H q' H' → RS g q' H' st → RD g q' H' v d → Q v H'
def KX (g : G) (q : List Addr) (H : Hp) (E : XK) : Str → Sto → Prop := fun c st => ∀ q' H' C, Ext q H q' H' → RS g q' H' st → g.mg c = some (.ref C) → E (.ref C) none H'
theorem KX.ext {g : G} {q q' : List Addr} {H H' : Hp} {E : XK} (e : Ext q H q' H') {c : Str} {st : Sto} (k : KX g q H E c st) : KX g q' H' E c st := fun q2 H2 C e2 r m => k q2 H2 C (e.trans e2) r m
theorem KV.ext {g : G} {q q' : List Addr} {H H' : Hp} {Q : VK} (e : Ext q H q' H') {d : D} {st : Sto} (k : KV g q H Q d st) : KV g q' H' Q d st := fun q2 v H2 e2 r m => k q2 v H2 (e.trans e2) r m
abbrev EF := EnvD → Sto → R D
abbrev TF := EnvD → Sto → R Bool
abbrev AF := EnvD → Sto → R (List D)
inductive Fl where
  | nx (e : EnvD) | rt (d : D) | bk (e : EnvD) | ct (e : EnvD)
abbrev SF := EnvD → Sto → R Fl
abbrev Fn := List D → Sto → R D
def LE (g : G) (E : XK) (f : EF) : TE := fun sg H Q => ∃ q env st, RS g q H st ∧ RE g q H sg env ∧ (f env st).post (KV g q H Q) (KX g q H E)
def LT (g : G) (E : XK) (f : TF) : TT := fun sg H Q => ∃ q env st, RS g q H st ∧ RE g q H sg env ∧ (f env st).post (fun b st' => ∀ q' H', Ext q H q' H' → RS g q' H' st' → Q b H') (KX g q H E)
def LA (g : G) (E : XK) (f : AF) : TA := fun sg H Q => ∃ q env st, RS g q H st ∧ RE g q H sg env ∧ (f env st).post (fun ds st' => ∀ q' vs H', Ext q H q' H' → RS g q' H' st' → RDs g q' H' vs ds → Q vs H') (KX g q H E)
def KS (g : G) (q : List Addr) (H : Hp) (T : Ends) : Fl → Sto → Prop := fun fl st => ∀ q' H', Ext q H q' H' → RS g q' H' st → match fl with
  | .nx e => ∀ sg, RE g q' H' sg e → T.nx sg H'
  | .rt d => ∀ v, RD g q' H' v d → T.rt v H'
  | .bk e => ∀ sg, RE g q' H' sg e → T.bk sg H'
  | .ct e => ∀ sg, RE g q' H' sg e → T.ct sg H'
def LS (g : G) (E : XK) (f : SF) : TS := fun T sg H => ∃ q env st, RS g q H st ∧ RE g q H sg env ∧ (f env st).post (KS g q H T) (KX g q H E)
theorem KS.ext {g : G} {q q' : List Addr} {H H' : Hp} {T : Ends} (e : Ext q H q' H') {c : Fl} {st : Sto} (k : KS g q H T c st) : KS g q' H' T c st := fun q2 H2 e2 r => k q2 H2 (e.trans e2) r

section
variable {X : Cx}

variable {E : XK} {fa fb : EF} {a b : Expr} {pos : Pos}
/-! ### names, constants -/
def varF (i : Nat) : EF := fun env st => match env[i]? with
  | some (some d) => .ok d st
  | _ => .bad
def cF (d : D) : EF := fun _ st => .ok d st
theorem le_var {i : Nat} {x : Str} {pos : Pos} (h : PE X (.Name x pos) (tVar i)) : PE X (.Name x pos) (LE (gOf B X) E (varF i)) := h.imp fun sg H Q w => by
  obtain ⟨q, env, st, rs, re, p⟩ := w
  unfold varF at p
  split at p
  · rename_i d hd
    obtain ⟨v, h1, h2⟩ := re.get hd
    exact ⟨v, h1, p q v H Ext.refl rs h2⟩
  · exact False.elim p
theorem le_c {e : Expr} {v : V} {d : D} (h : PE X e (tC v)) (r : ∀ q H, RD (gOf B X) q H v d) : PE X e (LE (gOf B X) E (cF d)) := h.imp fun sg H Q w => by
  obtain ⟨q, env, st, rs, re, p⟩ := w
  exact p q v H Ext.refl rs (r q H)
theorem le_int {i j pos} : PE X (.Constant (.int i) j pos) (LE (gOf B X) E (cF (.int i))) := le_c pe_int fun _ _ => .int i
theorem le_bl {b j pos} : PE X (.Constant (.bool b) j pos) (LE (gOf B X) E (cF (.bl b))) := le_c pe_bl fun _ _ => .bl b
theorem le_non {j pos} : PE X (.Constant .none j pos) (LE (gOf B X) E (cF .non)) := le_c pe_non fun _ _ => .non
theorem RD.ty_inv {g : G} {q : List Addr} {H : Hp} {v : V} {n : String} (r : RD g q H v (.ty n)) : v = .ty n := by cases r; rfl
theorem le_str {x j pos} : PE X (.Constant (.str x) j pos) (LE (gOf B X) E (cF (.str x))) := le_c pe_str fun _ _ => .str x

/-! ### two-place operations by values -/
def LR (g : G) (E : XK) (f : D → D → Sto → R D) : R2 := fun x y H Q => ∃ q st a b, RS g q H st ∧ RD g q H x a ∧ RD g q H y b ∧ (f a b st).post (KV g q H Q) (KX g q H E)
def opF (f : D → D → Sto → R D) (fa fb : EF) : EF := fun env st => (fa env st).bind fun a s1 => (fb env s1).bind fun b s2 => f a b s2
theorem LE.chain {g : G} {sg : L2.St} {H : Hp} {f : EF} {q : List Addr} {env : EnvD} {st : Sto} {Q : VK} {K : D → Sto → Prop} (rs : RS g q H st) (re : RE g q H sg env) (p : (f env st).post K (KX g q H E))
    (k : ∀ d st' q' v H', K d st' → Ext q H q' H' → RS g q' H' st' → RE g q' H' sg env → RD g q' H' v d → Q v H') : LE g E f sg H Q :=
  ⟨q, env, st, rs, re, p.imp (fun d st' hk q' v H' e rs' rd => k d st' q' v H' hk e rs' (re.ext e) rd) fun _ _ h => h⟩
theorem opT_le {f : D → D → Sto → R D} {sg : L2.St} {H : Hp} {Q : VK} (w : LE (gOf B X) E (opF f fa fb) sg H Q) : tOp (LR (gOf B X) E f) (LE (gOf B X) E fa) (LE (gOf B X) E fb) sg H Q := by
  obtain ⟨q, env, st, rs, re, p⟩ := w
  refine LE.chain rs re (R.post_bind.mp p) fun x s1 q1 v H1 p e1 rs1 re1 rx => ?_
  refine LE.chain rs1 re1 ((R.post_bind.mp p).imp (fun _ _ h => h) fun _ _ h => h.ext e1) fun y s2 q2 u H2 p e2 rs2 re2 ry => ?_
  exact ⟨q2, s2, x, y, rs2, rx.ext e2, ry, p.imp (fun _ _ h => h.ext (e1.trans e2)) fun _ _ h => h.ext (e1.trans e2)⟩
theorem le_op {op : Operator} {f : D → D → Sto → R D} (ho : OpR X (binaryOp op) (LR (gOf B X) E f)) (ha : PE X a (LE (gOf B X) E fa)) (hb : PE X b (LE (gOf B X) E fb)) : PE X (.BinOp a op b pos) (LE (gOf B X) E (opF f fa fb)) :=
  (pe_op ho ha hb).imp fun _ _ _ w => opT_le w
theorem le_cmp {op : CmpOp} {f : D → D → Sto → R D} (ho : OpR X (compareOp op) (LR (gOf B X) E f)) (ha : PE X a (LE (gOf B X) E fa)) (hb : PE X b (LE (gOf B X) E fb)) (hm : behindInMarks op b = false) : PE X (.Compare a [op] [b] pos) (LE (gOf B X) E (opF f fa fb)) :=
  (pe_cmpR ho ha hb hm).imp fun _ _ _ w => opT_le w
theorem le_ix {f : D → D → Sto → R D} (ho : IxR X (LR (gOf B X) E f)) (ha : PE X a (LE (gOf B X) E fa)) (hb : PE X b (LE (gOf B X) E fb)) (hs : PlainIx b) : PE X (.Subscript a b pos) (LE (gOf B X) E (opF f fa fb)) :=
  (pe_ix ho ha hb hs).imp fun _ _ _ w => opT_le w

/-! ### tests -/
/-- the truth of a value that is a bool -/
def bF (f : EF) : TF := fun env st => (f env st).bind fun d s => match d with
  | .bl b => .ok b s
  | _ => .bad
theorem RD.bl_inv {g : G} {q : List Addr} {H : Hp} {v : V} {b : Bool} (r : RD g q H v (.bl b)) : v = .bl b := by cases r; rfl
theorem RD.int_inv {g : G} {q : List Addr} {H : Hp} {v : V} {b : Int} (r : RD g q H v (.int b)) : v = .int b := by cases r; rfl
theorem RD.str_inv {g : G} {q : List Addr} {H : Hp} {v : V} {b : Str} (r : RD g q H v (.str b)) : v = .str b := by cases r; rfl
theorem RD.non_inv {g : G} {q : List Addr} {H : Hp} {v : V} (r : RD g q H v .non) : v = .non := by cases r; rfl
theorem RD.tup_inv {g : G} {q : List Addr} {H : Hp} {v : V} {ds : List D} (r : RD g q H v (.tup ds)) : ∃ a xs, v = .ref a ∧ SqT g.K H a xs ∧ RDs g q H xs ds := by cases r with | tup h r => exact ⟨_, _, rfl, h, r⟩
theorem RD.ref_inv {g : G} {q : List Addr} {H : Hp} {v : V} {n : Nat} (r : RD g q H v (.ref n)) : ∃ a, v = .ref a ∧ q[n]? = some a := by cases r with | ref h => exact ⟨_, rfl, h⟩
theorem RD.glb_inv {g : G} {q : List Addr} {H : Hp} {v : V} {x : Str} (r : RD g q H v (.glb x)) : ∃ a, v = .ref a ∧ g.mg x = some (.ref a) := by cases r with | glb h => exact ⟨_, rfl, h⟩
theorem bool_le {sg : L2.St} {H : Hp} {Q : Bool → Hp → Prop} {f : EF} (w : LT (gOf B X) E (bF f) sg H Q) : LE (gOf B X) E f sg H fun x H1 => ∃ c, x = .bl c ∧ Q c H1 := by
  obtain ⟨q, env, st, rs, re, p⟩ := w
  refine LE.chain rs re (R.post_bind.mp p) fun x s1 q1 v H1 p e1 rs1 re1 rx => ?_
  cases x with
  | bl b => exact ⟨b, rx.bl_inv, p q1 H1 e1 rs1⟩
  | _ => exact False.elim p
theorem lt_val {e : Expr} {f : EF} (h : PE X e (LE (gOf B X) E f)) (he : ∀ whole, isTrue e X.env whole = (do let v ← whole; standAt e.pos; holding [v] (truthy v)) := by intro _; rfl) : PT X e (LT (gOf B X) E (bF f)) :=
  (pt_val h he).imp fun _ _ _ w => bool_le w
theorem lt_cmp {op : CmpOp} {f : D → D → Sto → R D} (ho : OpR X (compareOp op) (LR (gOf B X) E f)) (ha : PE X a (LE (gOf B X) E fa)) (hb : PE X b (LE (gOf B X) E fb)) (hm : behindInMarks op b = false) : PT X (.Compare a [op] [b] pos) (LT (gOf B X) E (bF (opF f fa fb))) :=
  (pt_cmpR ho ha hb hm).imp fun _ _ _ w => by
    obtain ⟨q, env, st, rs, re, p⟩ := w
    exact opT_le (bool_le ⟨q, env, st, rs, re, p⟩)
theorem LT.chain {g : G} {sg : L2.St} {H : Hp} {f : TF} {q : List Addr} {env : EnvD} {st : Sto} {Q : Bool → Hp → Prop} {K : Bool → Sto → Prop} (rs : RS g q H st) (re : RE g q H sg env) (p : (f env st).post K (KX g q H E))
    (k : ∀ d st' q' H', K d st' → Ext q H q' H' → RS g q' H' st' → RE g q' H' sg env → Q d H') : LT g E f sg H Q :=
  ⟨q, env, st, rs, re, p.imp (fun d st' hk q' H' e rs' => k d st' q' H' hk e rs' (re.ext e)) fun _ _ h => h⟩
variable {ta tb : TF} {rest : List Expr}
def andT (ta tb : TF) : TF := fun env st => (ta env st).bind fun c s => if c = true then tb env s else .ok false s
def orT (ta tb : TF) : TF := fun env st => (ta env st).bind fun c s => if c = true then .ok true s else tb env s
def notT (ta : TF) : TF := fun env st => (ta env st).bind fun c s => .ok (!c) s
def KT (g : G) (q : List Addr) (H : Hp) (Q : Bool → Hp → Prop) : Bool → Sto → Prop := fun b st => ∀ q' H', Ext q H q' H' → RS g q' H' st → Q b H'
theorem KT.ext {g : G} {q q' : List Addr} {H H' : Hp} {Q : Bool → Hp → Prop} (e : Ext q H q' H') {c : Bool} {st : Sto} (k : KT g q H Q c st) : KT g q' H' Q c st := fun q2 H2 e2 r => k q2 H2 (e.trans e2) r
theorem lw_and1 {ta : TF} (ha : PT X a (LT (gOf B X) E ta)) : PW X (.BoolOp .And [a] pos) (LT (gOf B X) E ta) := pw_and1 ha
theorem lw_or1 {ta : TF} (ha : PT X a (LT (gOf B X) E ta)) : PW X (.BoolOp .Or [a] pos) (LT (gOf B X) E ta) := pw_or1 ha
theorem lw_and (ha : PT X a (LT (gOf B X) E ta)) (hb : PW X (.BoolOp .And (b :: rest) pos) (LT (gOf B X) E tb)) : PW X (.BoolOp .And (a :: b :: rest) pos) (LT (gOf B X) E (andT ta tb)) :=
  (pw_and ha hb).imp fun sg H Q w => by
    obtain ⟨q, env, st, rs, re, p⟩ := w
    refine LT.chain rs re (R.post_bind.mp p) fun c s1 q1 H1 p e1 rs1 re1 => ?_
    cases c with
    | true => exact iteT ⟨q1, env, s1, rs1, re1, (show (tb env s1).post _ _ from p).imp (fun _ _ h => KT.ext e1 h) fun _ _ h => h.ext e1⟩
    | false => exact iteF (p q1 H1 e1 rs1)
theorem lw_or (ha : PT X a (LT (gOf B X) E ta)) (hb : PW X (.BoolOp .Or (b :: rest) pos) (LT (gOf B X) E tb)) : PW X (.BoolOp .Or (a :: b :: rest) pos) (LT (gOf B X) E (orT ta tb)) :=
  (pw_or ha hb).imp fun sg H Q w => by
    obtain ⟨q, env, st, rs, re, p⟩ := w
    refine LT.chain rs re (R.post_bind.mp p) fun c s1 q1 H1 p e1 rs1 re1 => ?_
    cases c with
    | false => exact iteF ⟨q1, env, s1, rs1, re1, (show (tb env s1).post _ _ from p).imp (fun _ _ h => KT.ext e1 h) fun _ _ h => h.ext e1⟩
    | true => exact iteT (p q1 H1 e1 rs1)
theorem lt_not (ha : PT X a (LT (gOf B X) E ta)) : PT X (.UnaryOp .Not a pos) (LT (gOf B X) E (notT ta)) :=
  (pt_not ha).imp fun sg H Q w => by
    obtain ⟨q, env, st, rs, re, p⟩ := w
    exact LT.chain rs re (R.post_bind.mp p) fun c s1 q1 H1 p e1 rs1 re1 => p q1 H1 e1 rs1
/-! .. as values -/
def andV (fa fb : EF) : EF := fun env st => (bF fa env st).bind fun c s => if c = true then fb env s else .ok (.bl false) s
def orV (fa fb : EF) : EF := fun env st => (bF fa env st).bind fun c s => if c = true then .ok (.bl true) s else fb env s
def notV (fa : EF) : EF := fun env st => (bF fa env st).bind fun c s => .ok (.bl (!c)) s
theorem bool_chain {g : G} {sg : L2.St} {H : Hp} {f : EF} {q : List Addr} {env : EnvD} {st : Sto} {Q : V → Hp → Prop} {K : Bool → Sto → Prop} (rs : RS g q H st) (re : RE g q H sg env) (p : (bF f env st).post K (KX g q H E))
    (k : ∀ c st' q' H', K c st' → Ext q H q' H' → RS g q' H' st' → RE g q' H' sg env → Q (.bl c) H') : LE g E f sg H Q := by
  refine LE.chain rs re (R.post_bind.mp p) fun x s1 q1 v H1 p e1 rs1 re1 rx => ?_
  cases x with
  | bl b => rw [rx.bl_inv]; exact k b s1 q1 H1 p e1 rs1 re1
  | _ => exact False.elim p
theorem le_and1 {op} (ha : PE X a (LE (gOf B X) E fa)) : PE X (.BoolOp op [a] pos) (LE (gOf B X) E fa) := pe_one ha
theorem le_and (ha : PE X a (LE (gOf B X) E fa)) (hb : PE X (.BoolOp .And (b :: rest) pos) (LE (gOf B X) E fb)) : PE X (.BoolOp .And (a :: b :: rest) pos) (LE (gOf B X) E (andV fa fb)) :=
  (pe_and ha hb).imp fun sg H Q w => by
    obtain ⟨q, env, st, rs, re, p⟩ := w
    refine bool_chain rs re (R.post_bind.mp p) fun c s1 q1 H1 p e1 rs1 re1 => ⟨c, rfl, ?_⟩
    cases c with
    | true => exact iteT ⟨q1, env, s1, rs1, re1, (show (fb env s1).post _ _ from p).imp (fun _ _ h => h.ext e1) fun _ _ h => h.ext e1⟩
    | false => exact iteF (p q1 _ H1 e1 rs1 (.bl false))
theorem le_or (ha : PE X a (LE (gOf B X) E fa)) (hb : PE X (.BoolOp .Or (b :: rest) pos) (LE (gOf B X) E fb)) : PE X (.BoolOp .Or (a :: b :: rest) pos) (LE (gOf B X) E (orV fa fb)) :=
  (pe_or ha hb).imp fun sg H Q w => by
    obtain ⟨q, env, st, rs, re, p⟩ := w
    refine bool_chain rs re (R.post_bind.mp p) fun c s1 q1 H1 p e1 rs1 re1 => ⟨c, rfl, ?_⟩
    cases c with
    | false => exact iteF ⟨q1, env, s1, rs1, re1, (show (fb env s1).post _ _ from p).imp (fun _ _ h => h.ext e1) fun _ _ h => h.ext e1⟩
    | true => exact iteT (p q1 _ H1 e1 rs1 (.bl true))
theorem le_not (ha : PE X a (LE (gOf B X) E fa)) : PE X (.UnaryOp .Not a pos) (LE (gOf B X) E (notV fa)) :=
  (pe_not ha).imp fun sg H Q w => by
    obtain ⟨q, env, st, rs, re, p⟩ := w
    exact bool_chain rs re (R.post_bind.mp p) fun c s1 q1 H1 p e1 rs1 re1 => ⟨c, rfl, p q1 _ H1 e1 rs1 (.bl _)⟩
/-- a if t else b -/
def ifF (t : TF) (fa fb : EF) : EF := fun env st => (t env st).bind fun c s => if c = true then fa env s else fb env s
theorem le_ifExp {c : Expr} (hc : PT X c (LT (gOf B X) E ta)) (ha : PE X a (LE (gOf B X) E fa)) (hb : PE X b (LE (gOf B X) E fb)) : PE X (.IfExp c a b pos) (LE (gOf B X) E (ifF ta fa fb)) :=
  (pe_ifExp hc ha hb).imp fun sg H Q w => by
    obtain ⟨q, env, st, rs, re, p⟩ := w
    refine LT.chain rs re (R.post_bind.mp p) fun c s1 q1 H1 p e1 rs1 re1 => ?_
    cases c with
    | true => exact iteT ⟨q1, env, s1, rs1, re1, (show (fa env s1).post _ _ from p).imp (fun _ _ h => h.ext e1) fun _ _ h => h.ext e1⟩
    | false => exact iteF ⟨q1, env, s1, rs1, re1, (show (fb env s1).post _ _ from p).imp (fun _ _ h => h.ext e1) fun _ _ h => h.ext e1⟩

/-! ### arguments, displays -/
def nilA : AF := fun _ st => .ok [] st
def consA (fa : EF) (fr : AF) : AF := fun env st => (fa env st).bind fun x s => (fr env s).bind fun xs s' => .ok (x :: xs) s'
theorem la_nil : PA X [] (LA (gOf B X) E nilA) := pa_nil.imp fun sg H Q w => by
  obtain ⟨q, env, st, rs, re, p⟩ := w
  exact p q [] H Ext.refl rs .nil
theorem LA.chain {g : G} {sg : L2.St} {H : Hp} {f : AF} {q : List Addr} {env : EnvD} {st : Sto} {Q : List V → Hp → Prop} {K : List D → Sto → Prop} (rs : RS g q H st) (re : RE g q H sg env) (p : (f env st).post K (KX g q H E))
    (k : ∀ d st' q' v H', K d st' → Ext q H q' H' → RS g q' H' st' → RE g q' H' sg env → RDs g q' H' v d → Q v H') : LA g E f sg H Q :=
  ⟨q, env, st, rs, re, p.imp (fun d st' hk q' v H' e rs' rd => k d st' q' v H' hk e rs' (re.ext e) rd) fun _ _ h => h⟩
theorem la_cons {es : List Expr} {fr : AF} (ha : PE X a (LE (gOf B X) E fa)) (hr : PA X es (LA (gOf B X) E fr)) (hs : starEach (a :: es) X.env = (false, eval a X.env) :: starEach es X.env := by rfl) : PA X (a :: es) (LA (gOf B X) E (consA fa fr)) :=
  (pa_cons ha hr hs).imp fun sg H Q w => by
    obtain ⟨q, env, st, rs, re, p⟩ := w
    refine LE.chain rs re (R.post_bind.mp p) fun x s1 q1 v H1 p e1 rs1 re1 rx => ?_
    refine LA.chain rs1 re1 ((R.post_bind.mp p).imp (fun _ _ h => h) fun _ _ h => h.ext e1) fun ys s2 q2 vs H2 p e2 rs2 re2 ry => ?_
    exact p q2 _ H2 (e1.trans e2) rs2 (.cons (rx.ext e2) ry)
/-- a new object of the store -/
def newO (o : O) (st : Sto) : R D := .ok (.ref st.length) (st ++ [o])
def tupA (f : AF) : EF := fun env st => (f env st).bind fun xs s => if xs.length ≤ sizeLine then .ok (.tup xs) s else .bad
def lstA (f : AF) : EF := fun env st => (f env st).bind fun xs s => if xs.length ≤ sizeLine then newO (.lst xs) s else .bad
section
variable {g : G} {q : List Addr} {H : Hp} {st : Sto} {p : Addr}
/-- a new tuple -/
theorem tup_new {xs : List V} {ds : List D} (rs : RS g q H st) (hp : H p = none) (r : RDs g q H xs ds) : Ext q H q (upd H p (.tup xs)) ∧ RS g q (upd H p (.tup xs)) st ∧ RD g q (upd H p (.tup xs)) (.ref p) (.tup ds) := by
  have s := same_upd (o := HO.tup xs) hp
  exact ⟨Same.ext0 s, rs.same s, .tup (.inl (.inl upd_same)) (r.ext (Same.ext0 s))⟩
theorem lst_new {xs : List V} {ds : List D} (rs : RS g q H st) (hp : H p = none) (r : RDs g q H xs ds) : Ext q H (q ++ [p]) (upd H p (.lst xs)) ∧ RS g (q ++ [p]) (upd H p (.lst xs)) (st ++ [.lst ds]) ∧ RD g (q ++ [p]) (upd H p (.lst xs)) (.ref p) (.ref st.length) := by
  have s := same_upd (o := HO.lst xs) hp
  refine ⟨Same.ext s hp, rs.new hp ⟨xs, upd_same, r.ext (Same.ext s hp)⟩, .ref ?_⟩
  rw [← rs.len]; simp
theorem dic_new (rs : RS g q H st) (hp : H p = none) : Ext q H (q ++ [p]) (upd H p (.dK [])) ∧ RS g (q ++ [p]) (upd H p (.dK [])) (st ++ [.dic []]) ∧ RD g (q ++ [p]) (upd H p (.dK [])) (.ref p) (.ref st.length) := by
  have s := same_upd (o := HO.dK []) hp
  refine ⟨Same.ext s hp, rs.new hp (.inl ⟨[], upd_same, .nil⟩), .ref ?_⟩
  rw [← rs.len]; simp
end
theorem le_tup {es : List Expr} {f : AF} {x1} (h : PA X es (LA (gOf B X) E f)) : PE X (.Tuple es x1 pos) (LE (gOf B X) E (tupA f)) := (pe_tup h).imp fun sg H Q w => by
  obtain ⟨q, env, st, rs, re, p⟩ := w
  refine LA.chain rs re (R.post_bind.mp p) fun xs s1 q1 vs H1 p e1 rs1 re1 rx => ?_
  by_cases hz : xs.length ≤ sizeLine
  · rw [if_pos hz] at p
    refine ⟨by rw [rx.length]; exact hz, fun pp hp => ?_⟩
    obtain ⟨e2, rs2, r2⟩ := tup_new rs1 hp rx
    exact p q1 _ _ (e1.trans e2) rs2 r2
  · rw [if_neg hz] at p
    exact False.elim p
theorem le_lst {es : List Expr} {f : AF} (h : PA X es (LA (gOf B X) E f)) : PE X (.List es pos) (LE (gOf B X) E (lstA f)) := (pe_lst h).imp fun sg H Q w => by
  obtain ⟨q, env, st, rs, re, p⟩ := w
  refine LA.chain rs re (R.post_bind.mp p) fun xs s1 q1 vs H1 p e1 rs1 re1 rx => ?_
  by_cases hz : xs.length ≤ sizeLine
  · rw [if_pos hz] at p
    refine ⟨by rw [rx.length]; exact hz, fun pp hp => ?_⟩
    obtain ⟨e2, rs2, r2⟩ := lst_new rs1 hp rx
    exact p _ _ _ (e1.trans e2) rs2 r2
  · rw [if_neg hz] at p
    exact False.elim p
def dicF : EF := fun _ st => newO (.dic []) st
theorem le_dic {e : Expr} (h : PE X e (fun _ H Q => ∀ p, H p = none → Q (.ref p) (upd H p (.dK [])))) : PE X e (LE (gOf B X) E dicF) := h.imp fun sg H Q w p hp => by
  obtain ⟨q, env, st, rs, re, k⟩ := w
  obtain ⟨e2, rs2, r2⟩ := dic_new rs hp
  exact k _ _ _ e2 rs2 r2

/-! ### calls by values -/
def LC (g : G) (E : XK) (f : List D → Sto → R D) : List V → Hp → VK → Prop := fun vs H Q => ∃ q st ds, RS g q H st ∧ RDs g q H vs ds ∧ (f ds st).post (KV g q H Q) (KX g q H E)
def callF (f : List D → Sto → R D) (fa : AF) : EF := fun env st => (fa env st).bind fun ds s => f ds s
theorem call_le {f : List D → Sto → R D} {fa : AF} {sg : L2.St} {H : Hp} {Q : VK} (w : LE (gOf B X) E (callF f fa) sg H Q) : LA (gOf B X) E fa sg H fun vs H1 => LC (gOf B X) E f vs H1 Q := by
  obtain ⟨q, env, st, rs, re, p⟩ := w
  exact LA.chain rs re (R.post_bind.mp p) fun xs s1 q1 vs H1 p e1 rs1 re1 rx => ⟨q1, s1, xs, rs1, rx, p.imp (fun _ _ h => h.ext e1) fun _ _ h => h.ext e1⟩
theorem le_callB {x : Str} {p : Pos} {id : String} {e : Expr} {es : List Expr} {fa : AF} {f : List D → Sto → R D} (hc : CallR X (.builtin id) (LC (gOf B X) E f)) (hg : Gl X x) (hm : X.mg x = none) (hv : bootBuiltins x = some (.builtin id)) (ha : PA X (e :: es) (LA (gOf B X) E fa)) (hn : x ≠ "__name__" := by decide) (hdb : (x == ("__debug__" : Str)) = false := by decide)
    (he : starEach (e :: es) X.env = (false, eval e X.env) :: starEach es X.env := by rfl) (hpl : (backTo pos (starEach es X.env)).any (·.1) = false := by rfl) : PE X (.Call (.Name x p) (e :: es) [] pos) (LE (gOf B X) E (callF f fa)) :=
  (pe_callB hc hg hm hv ha hn hdb he hpl).imp fun _ _ _ w => call_le w
theorem le_callTy {x : Str} {p : Pos} {T : String} {e : Expr} {es : List Expr} {fa : AF} {f : List D → Sto → R D} (hc : CallR X (.type T) (LC (gOf B X) E f)) (hg : Gl X x) (hm : X.mg x = none) (hv : bootBuiltins x = some (.type T)) (ha : PA X (e :: es) (LA (gOf B X) E fa)) (hn : x ≠ "__name__" := by decide) (hdb : (x == ("__debug__" : Str)) = false := by decide)
    (he : starEach (e :: es) X.env = (false, eval e X.env) :: starEach es X.env := by rfl) (hpl : (backTo pos (starEach es X.env)).any (·.1) = false := by rfl) : PE X (.Call (.Name x p) (e :: es) [] pos) (LE (gOf B X) E (callF f fa)) :=
  (pe_callTy hc hg hm hv ha hn hdb he hpl).imp fun _ _ _ w => call_le w
/-- a def's promise -/
def SpD (g : G) (n : Nat) (f : Fn) : Sp := fun vs H Q E => vs.length = n ∧ LC g E f vs H Q
theorem le_call {CX : CXT} {k n : Nat} {f : Addr} {fd : FuncData} {ps : List Str} {fn : Fn} {x : Str} {p : Pos} {e : Expr} {es : List Expr} {fa : AF} (F : FnOk X.prog X.w X.K X.mg X.base CX k f fd ps (SpD (gOf B X) n fn)) (hr : Room k X.A) (hg : Gl X x) (hm : X.mg x = some (.ref f)) (hk : PySem.W.keepIn X.K (.ref f) = true) (hb : Binds X.K fd ps []) (hx : Passes CX X E)
    (ha : PA X (e :: es) (LA (gOf B X) E fa)) (hl : (e :: es).length = n) (hla : ∀ env st ds s, fa env st = .ok ds s → ds.length = (e :: es).length) (hdb : (x == ("__debug__" : Str)) = false := by decide) (he : starEach (e :: es) X.env = (false, eval e X.env) :: starEach es X.env := by rfl) (hpl : (backTo pos (starEach es X.env)).any (·.1) = false := by rfl) :
    PE X (.Call (.Name x p) (e :: es) [] pos) (LE (gOf B X) E (callF fn fa)) :=
  (pe_call F hr hg hm hk hb .nil hx ha hdb he hpl).imp fun sg H Q w => by
    obtain ⟨q, env, st, rs, re, p⟩ := w
    have p := R.post_bind.mp p
    have p' : (fa env st).post (fun ds s => ds.length = n ∧ (fn ds s).post (KV (gOf B X) q H Q) (KX (gOf B X) q H E)) (KX (gOf B X) q H E) := by
      cases hfa : fa env st with
      | ok ds s => rw [hfa] at p; exact ⟨(hla _ _ _ _ hfa).trans hl, p⟩
      | ex c s => rw [hfa] at p; exact p
      | bad => rw [hfa] at p; exact p
    refine LA.chain rs re p' fun xs s1 q1 vs H1 p e1 rs1 re1 rx => ?_
    rw [List.append_nil]
    exact ⟨by rw [rx.length]; exact p.1, q1, s1, xs, rs1, rx, p.2.imp (fun _ _ h => h.ext e1) fun _ _ h => h.ext e1⟩
theorem len_nil {env : EnvD} {st : Sto} {ds : List D} {s : Sto} (h : nilA env st = .ok ds s) : ds.length = 0 := by cases h; rfl
theorem len_cons {fa : EF} {fr : AF} {n : Nat} (hr : ∀ env st ds s, fr env st = .ok ds s → ds.length = n) : ∀ env st ds s, consA fa fr env st = .ok ds s → ds.length = n + 1 := by
  intro env st ds s h
  unfold consA at h
  cases e1 : fa env st with
  | ok x s1 =>
    rw [e1, R.bind_ok] at h
    cases e2 : fr env s1 with
    | ok xs s2 =>
      rw [e2, R.bind_ok] at h
      cases h
      rw [List.length_cons, hr _ _ _ _ e2]
    | ex c s => rw [e2] at h; cases h
    | bad => rw [e2] at h; cases h
  | ex c s => rw [e1] at h; cases h
  | bad => rw [e1] at h; cases h

/-! ### statements -/
theorem LS.chain {g : G} {sg : L2.St} {H : Hp} {f : SF} {q : List Addr} {env : EnvD} {st : Sto} {T : Ends} {K : Fl → Sto → Prop} (rs : RS g q H st) (re : RE g q H sg env) (p : (f env st).post K (KX g q H E))
    (k : ∀ d st', K d st' → KS g q H T d st') : LS g E f T sg H := ⟨q, env, st, rs, re, p.imp k fun _ _ h => h⟩
def nilS : SF := fun env st => .ok (.nx env) st
def seqS (f r : SF) : SF := fun env st => (f env st).bind fun fl s => match fl with
  | .nx e => r e s
  | fl => .ok fl s
theorem lss_nil : PSs X [] (LS (gOf B X) E nilS) := pss_nil.imp fun T sg H w => by
  obtain ⟨q, env, st, rs, re, p⟩ := w
  exact p q H Ext.refl rs sg re
theorem lss_one {st : Stmt} {f : SF} (h : PS X st (LS (gOf B X) E f)) : PSs X [st] (LS (gOf B X) E f) := pss_one h
theorem lss_cons {st : Stmt} {r : List Stmt} {f fr : SF} (h : PS X st (LS (gOf B X) E f)) (hr : PSs X r (LS (gOf B X) E fr)) : PSs X (st :: r) (LS (gOf B X) E (seqS f fr)) := (pss_cons h hr).imp fun T sg H w => by
  obtain ⟨q, env, st, rs, re, p⟩ := w
  refine LS.chain rs re (R.post_bind.mp p) fun fl s p q1 H1 e1 rs1 => ?_
  cases fl with
  | nx e => exact fun sg1 re1 => ⟨q1, e, s, rs1, re1, (show (fr e s).post _ _ from p).imp (fun _ _ h => h.ext e1) fun _ _ h => h.ext e1⟩
  | rt d => exact p q1 H1 e1 rs1
  | bk e => exact p q1 H1 e1 rs1
  | ct e => exact p q1 H1 e1 rs1
theorem ls_pass : PS X (.Pass pos) (LS (gOf B X) E nilS) := ps_pass.imp fun T sg H w => by
  obtain ⟨q, env, st, rs, re, p⟩ := w
  exact p q H Ext.refl rs sg re
def bkS : SF := fun env st => .ok (.bk env) st
def ctS : SF := fun env st => .ok (.ct env) st
theorem ls_break : PS X (.Break pos) (LS (gOf B X) E bkS) := ps_break.imp fun T sg H w => by
  obtain ⟨q, env, st, rs, re, p⟩ := w
  exact p q H Ext.refl rs sg re
theorem ls_continue : PS X (.Continue pos) (LS (gOf B X) E ctS) := ps_continue.imp fun T sg H w => by
  obtain ⟨q, env, st, rs, re, p⟩ := w
  exact p q H Ext.refl rs sg re
def dropS (f : EF) : SF := fun env st => (f env st).bind fun _ s => .ok (.nx env) s
theorem ls_expr {e : Expr} {f : EF} (h : PE X e (LE (gOf B X) E f)) (hs : swapsWith e none pos.line X.env = pure false := by rfl) : PS X (.Expr e pos) (LS (gOf B X) E (dropS f)) := (ps_expr h hs).imp fun T sg H w => by
  obtain ⟨q, env, st, rs, re, p⟩ := w
  exact LE.chain rs re (R.post_bind.mp p) fun x s1 q1 v H1 p e1 rs1 re1 rx => p q1 H1 e1 rs1 sg re1
def retS (f : EF) : SF := fun env st => (f env st).bind fun d s => .ok (.rt d) s
theorem ls_ret {e : Expr} {f : EF} (h : PE X e (LE (gOf B X) E f)) : PS X (.Return (some e) pos) (LS (gOf B X) E (retS f)) := (ps_ret h).imp fun T sg H w => by
  obtain ⟨q, env, st, rs, re, p⟩ := w
  exact LE.chain rs re (R.post_bind.mp p) fun x s1 q1 v H1 p e1 rs1 re1 rx => p q1 H1 e1 rs1 v rx
def retN : SF := fun _ st => .ok (.rt .non) st
theorem ls_retN : PS X (.Return none pos) (LS (gOf B X) E retN) := ps_retN.imp fun T sg H w => by
  obtain ⟨q, env, st, rs, re, p⟩ := w
  exact p q H Ext.refl rs .non .non
def ifS (t : TF) (f r : SF) : SF := fun env st => (t env st).bind fun c s => if c = true then f env s else r env s
theorem ls_if {c : Expr} {x y : List Stmt} {t : TF} {f r : SF} (hc : PT X c (LT (gOf B X) E t)) (hx : PSs X x (LS (gOf B X) E f)) (hy : PSs X y (LS (gOf B X) E r)) : PS X (.If c x y pos) (LS (gOf B X) E (ifS t f r)) := (ps_if hc hx hy).imp fun T sg H w => by
  obtain ⟨q, env, st, rs, re, p⟩ := w
  refine LT.chain rs re (R.post_bind.mp p) fun c s1 q1 H1 p e1 rs1 re1 => ?_
  cases c with
  | true => exact iteT ⟨q1, env, s1, rs1, re1, (show (f env s1).post _ _ from p).imp (fun _ _ h => h.ext e1) fun _ _ h => h.ext e1⟩
  | false => exact iteF ⟨q1, env, s1, rs1, re1, (show (r env s1).post _ _ from p).imp (fun _ _ h => h.ext e1) fun _ _ h => h.ext e1⟩

/-! ### targets -/
abbrev GF := D → EnvD → Sto → R EnvD
def LG (g : G) (E : XK) (f : GF) : TG := fun v sg H Q => ∃ q d env st, RS g q H st ∧ RE g q H sg env ∧ RD g q H v d ∧ (f d env st).post (fun e st' => ∀ q' H' sg', Ext q H q' H' → RS g q' H' st' → RE g q' H' sg' e → Q sg' H') (KX g q H E)
def LGs (g : G) (E : XK) (f : List D → EnvD → Sto → R EnvD) : TGs := fun vs sg H Q => ∃ q ds env st, RS g q H st ∧ RE g q H sg env ∧ RDs g q H vs ds ∧ (f ds env st).post (fun e st' => ∀ q' H' sg', Ext q H q' H' → RS g q' H' st' → RE g q' H' sg' e → Q sg' H') (KX g q H E)
def nameG (i : Nat) : GF := fun d env st => .ok (env.set i (some d)) st
theorem lg_name {e : Expr} {i : Nat} (h : PG X e (gName i)) : PG X e (LG (gOf B X) E (nameG i)) := h.imp fun v sg H Q w => by
  obtain ⟨q, d, env, st, rs, re, rd, p⟩ := w
  exact p q H _ Ext.refl rs (re.set rd)
def nilG : List D → EnvD → Sto → R EnvD := fun ds env st => match ds with
  | [] => .ok env st
  | _ => .bad
def consG (f : GF) (r : List D → EnvD → Sto → R EnvD) : List D → EnvD → Sto → R EnvD := fun ds env st => match ds with
  | d :: ds => (f d env st).bind fun e s => r ds e s
  | [] => .bad
theorem lgs_nil : PGs X [] (LGs (gOf B X) E nilG) := pgs_nil.imp fun vs sg H Q w => by
  obtain ⟨q, ds, env, st, rs, re, rd, p⟩ := w
  cases rd with
  | nil => exact ⟨rfl, p q H sg Ext.refl rs re⟩
  | cons _ _ => exact False.elim p
theorem lgs_cons {e : Expr} {es : List Expr} {f : GF} {r : List D → EnvD → Sto → R EnvD} (h1 : PG X e (LG (gOf B X) E f)) (h2 : PGs X es (LGs (gOf B X) E r))
    (hs : (assignEach (e :: es) X.env).map (·.2) = assign e X.env :: (assignEach es X.env).map (·.2) := by rfl) : PGs X (e :: es) (LGs (gOf B X) E (consG f r)) := (pgs_cons h1 h2 hs).imp fun vs sg H Q w => by
  obtain ⟨q, ds, env, st, rs, re, rd, p⟩ := w
  cases rd with
  | nil => exact False.elim p
  | cons rd rds =>
    refine ⟨_, _, rfl, q, _, env, st, rs, re, rd, (R.post_bind.mp p).imp (fun e1 s1 p q1 H1 sg1 x1 rs1 re1 => ?_) fun _ _ h => h⟩
    exact ⟨q1, _, e1, s1, rs1, re1, rds.ext x1, (show (r _ e1 s1).post _ _ from p).imp (fun e2 s2 p q2 H2 sg2 x2 rs2 re2 => p q2 H2 sg2 (x1.trans x2) rs2 re2) fun _ _ h => h.ext x1⟩
/-- (a, b, ..) = a tuple -/
def tupG (n : Nat) (f : List D → EnvD → Sto → R EnvD) : GF := fun d env st => match d with
  | .tup ds => if ds.length = n then f ds env st else .bad
  | _ => .bad
theorem lg_tup {es : List Expr} {k : Nat} {f : List D → EnvD → Sto → R EnvD} {n : Nat} (hc : X.calm = true) (h : PGs X es (LGs (gOf B X) E f))
    (hn : (assignEach es X.env).length = n := by rfl) (hst : (assignEach es X.env).findIdx? (·.1) = none := by rfl) : PG X (.Tuple es k pos) (LG (gOf B X) E (tupG n f)) := (pg_tup hc h hn hst).imp fun v sg H Q w => by
  obtain ⟨q, d, env, st, rs, re, rd, p⟩ := w
  cases d with
  | tup ds =>
    obtain ⟨a, xs, rfl, hs, rx⟩ := rd.tup_inv
    by_cases hl : ds.length = n
    · have z : tupG n f (.tup ds) env st = f ds env st := if_pos hl
      rw [z] at p
      exact ⟨a, xs, rfl, hs, by rw [rx.length]; exact hl, q, ds, env, st, rs, re, rx, p⟩
    · have z : tupG n f (.tup ds) env st = .bad := if_neg hl
      rw [z] at p
      exact False.elim p
  | _ => exact False.elim p
def asgS (f : EF) (gf : GF) : SF := fun env st => (f env st).bind fun d s => (gf d env s).bind fun e s' => .ok (.nx e) s'
theorem asg_le {f : EF} {gf : GF} {T : Ends} {sg : L2.St} {H : Hp} (w : LS (gOf B X) E (asgS f gf) T sg H) : tAsg (LE (gOf B X) E f) (LG (gOf B X) E gf) T sg H := by
  obtain ⟨q, env, st, rs, re, p⟩ := w
  refine LE.chain rs re (R.post_bind.mp p) fun x s1 q1 v H1 p e1 rs1 re1 rx => ?_
  exact ⟨q1, x, env, s1, rs1, re1, rx, (R.post_bind.mp p).imp (fun e2 s2 p q2 H2 sg2 x2 rs2 re2 => p q2 H2 (e1.trans x2) rs2 sg2 re2) fun _ _ h => h.ext e1⟩
theorem ls_asg {tg e : Expr} {f : EF} {gf : GF} (he : PE X e (LE (gOf B X) E f)) (hg : PG X tg (LG (gOf B X) E gf)) (hs : swapsWithSole [tg] e pos.line X.env = pure false := by rfl) (hw : swappedStores [tg] e X.env = pure none := by rfl)
    (h1 : (assignEach [tg] X.env).map (·.2) = [assign tg X.env] := by rfl) : PS X (.Assign [tg] e pos) (LS (gOf B X) E (asgS f gf)) := (ps_asg he hg hs hw h1).imp fun _ _ _ w => asg_le w
def setS (i : Nat) (f : EF) : SF := fun env st => (f env st).bind fun d s => .ok (.nx (env.set i (some d))) s
theorem set_le {i : Nat} {f : EF} {T : Ends} {sg : L2.St} {H : Hp} (w : LS (gOf B X) E (setS i f) T sg H) : tAsg (LE (gOf B X) E f) (gName i) T sg H := by
  obtain ⟨q, env, st, rs, re, p⟩ := w
  exact LE.chain rs re (R.post_bind.mp p) fun x s1 q1 v H1 p e1 rs1 re1 rx => p q1 H1 e1 rs1 _ (re1.set rx)
theorem ls_set {i : Nat} {x : Str} {e : Expr} {f : EF} {pos' : Pos} (hN : X.N.Nodup) (he : PE X e (LE (gOf B X) E f)) (hi : X.N[i]? = some x := by rfl) (hx : Loc X.env.scope x := by first | exact Or.inl rfl | exact Or.inr rfl) (hs : swapsWith e (some (.Name x pos')) pos.line X.env = pure false := by rfl) (hf : X.fn x = true ∨ X.env.scope.names.lookup x = some .local := by first | exact .inl rfl | exact .inr rfl | assumption) :
    PS X (.Assign [.Name x pos'] e pos) (LS (gOf B X) E (setS i f)) := (ps_set hN hi hx he hs hf).imp fun _ _ _ w => set_le w
/-! ### a def -/
def startE (n : Nat) (ds : List D) : EnvD := ds.map some ++ List.replicate (n - ds.length) none
def fnF (n : Nat) (f : SF) : Fn := fun ds st => (f (startE n ds) st).bind fun fl s => match fl with
  | .nx _ => .ok .non s
  | .rt d => .ok d s
  | _ => .bad
theorem RE.of {g : G} {q : List Addr} {H : Hp} : ∀ {vs : List V} {ds : List D}, RDs g q H vs ds → RE g q H (vs.map some) (ds.map some)
  | _, _, .nil => .nil
  | _, _, .cons r t => .cons (fun x e => by cases e; exact ⟨_, rfl, r⟩) (RE.of t)
theorem RE.start {g : G} {q : List Addr} {H : Hp} {vs : List V} {ds : List D} (r : RDs g q H vs ds) (n : Nat) : RE g q H (vs.map some ++ List.replicate (n - vs.length) none) (startE n ds) := by
  have h2 : ∀ k : Nat, RE g q H (List.replicate k none) (List.replicate k none) := by
    intro k
    induction k with
    | zero => exact .nil
    | succ k ih => exact .cons (fun x e => nomatch e) ih
  unfold startE
  rw [r.length]
  exact Paired.app (RE.of r) (h2 _)
theorem fn_le {g : G} {E : XK} {n : Nat} {f : SF} {N : List Str} {vs : List V} {H : Hp} {Q : VK} (hN : N.length = n) (w : LC g E (fnF n f) vs H Q) : LS g E f { nx := fun _ H' => Q .non H', rt := Q } (start N vs) H := by
  obtain ⟨q, st, ds, rs, rd, p⟩ := w
  subst hN
  refine ⟨q, startE N.length ds, st, rs, RE.start rd _, (R.post_bind.mp p).imp (fun fl s p q1 H1 e1 rs1 => ?_) fun _ _ h => h⟩
  cases fl with
  | nx e => exact fun sg re => p q1 _ H1 e1 rs1 .non
  | rt d => exact fun v rv => p q1 v H1 e1 rs1 rv
  | bk e => exact False.elim p
  | ct e => exact False.elim p
end
end VL

/-! VL3: what the built-in operations are on data; loops, comprehensions; the rule for a def. -/
namespace L2
open PySem PySem.Spec PyProof.Rows
section
variable {X : Cx}
theorem OpR.rI0 {op : Value → Value → Sem Value} {v : Int → Int → V} (h : OpR X op (rI0 v)) : OpR X op (rI (fun _ _ => True) v) := h.imp fun x y H Q ⟨i, j, h1, h2, _, h3⟩ => ⟨i, j, h1, h2, h3⟩
theorem PO.imp {e : Option Expr} {t t' : TO} (h : PO X e t) (i : ∀ sg H Q, t' sg H Q → t sg H Q) : PO X e t' := ⟨fun pins s sg H Q I w => h.run pins s sg H Q I (i _ _ _ w)⟩
end
end L2
namespace VL
open PySem PySem.Spec PyProof.Rows L2 LamX NdefX
variable {B : Tb}

section
variable {X : Cx} {E : XK}
/-- a sequence that may be read: list or tuple -/
theorem RO.seqL {g : G} {q : List Addr} {H : Hp} {a : Addr} {ds : List D} (h : RO g q H a (.lst ds) ∨ RO g q H a (.rl ds)) : ∃ xs, SqL g.K H a xs ∧ RDs g q H xs ds := by
  rcases h with ⟨xs, h, r⟩ | ⟨xs, h, r⟩
  · exact ⟨xs, SqL.of h, r⟩
  · exact ⟨xs, h.sq, r⟩
/-- the items of the list n -/
def listAt (st : Sto) (n : Nat) : Option (List D) := match st[n]? with
  | some (.lst xs) => some xs
  | some (.rl xs) => some xs
  | _ => none
theorem listAt_lst {st : Sto} {n : Nat} {xs : List D} (h : st[n]? = some (.lst xs)) : listAt st n = some xs := by unfold listAt; rw [h]
theorem listAt_rl {st : Sto} {n : Nat} {xs : List D} (h : st[n]? = some (.rl xs)) : listAt st n = some xs := by unfold listAt; rw [h]
theorem RS.listAt {g : G} {q : List Addr} {H : Hp} {st : Sto} (rs : RS g q H st) {n : Nat} {ds : List D} (h : listAt st n = some ds) : ∃ a xs, q[n]? = some a ∧ SqL g.K H a xs ∧ RDs g q H xs ds := by
  unfold VL.listAt at h
  split at h
  · rename_i xs e
    cases h
    obtain ⟨a, h1, h2⟩ := rs.get e
    obtain ⟨ys, h3, h4⟩ := RO.seqL (.inl h2)
    exact ⟨a, ys, h1, h3, h4⟩
  · rename_i xs e
    cases h
    obtain ⟨a, h1, h2⟩ := rs.get e
    obtain ⟨ys, h3, h4⟩ := RO.seqL (.inr h2)
    exact ⟨a, ys, h1, h3, h4⟩
  · cases h
theorem RS.lstAt {g : G} {q : List Addr} {H : Hp} {st : Sto} (rs : RS g q H st) {n : Nat} {ds : List D} (h : st[n]? = some (.lst ds)) : ∃ a xs, q[n]? = some a ∧ H a = some (.lst xs) ∧ RDs g q H xs ds := by
  obtain ⟨a, h1, xs, h2, h3⟩ := rs.get h
  exact ⟨a, xs, h1, h2, h3⟩

/-! ### arithmetic -/
def addD : D → D → Sto → R D
  | .int a, .int b, st => .ok (.int (a + b)) st
  | .str a, .str b, st => if a.length + b.length ≤ sizeLine then .ok (.str (a ++ b)) st else .bad
  | .tup a, .tup b, st => if a.length + b.length ≤ sizeLine then .ok (.tup (a ++ b)) st else .bad
  | .ref m, .ref n, st => match st[m]?, st[n]? with
    | some (.lst a), some (.lst b) => if a.length + b.length ≤ sizeLine then newO (.lst (a ++ b)) st else .bad
    | _, _ => .bad
  | _, _, _ => .bad
theorem op_addD : OpR X (binaryOp .Add) (LR (gOf B X) E addD) := ((op_add.or op_add_str).or (op_cat.or op_catA)).imp fun x y H Q w => by
  obtain ⟨q, st, a, b, rs, ra, rb, p⟩ := w
  cases a with
  | int i =>
    cases b with
    | int j => rw [ra.int_inv, rb.int_inv]; exact .inl (.inl ⟨i, j, rfl, rfl, p q _ H Ext.refl rs (.int _)⟩)
    | _ => exact False.elim p
  | str i =>
    cases b with
    | str j =>
      rw [ra.str_inv, rb.str_inv]
      by_cases hz : i.length + j.length ≤ sizeLine
      · have p : ((if i.length + j.length ≤ sizeLine then .ok (.str (i ++ j)) st else .bad) : R D).post _ _ := p
        rw [if_pos hz] at p
        exact .inl (.inr ⟨i, j, rfl, rfl, hz, p q _ H Ext.refl rs (.str _)⟩)
      · have p : ((if i.length + j.length ≤ sizeLine then .ok (.str (i ++ j)) st else .bad) : R D).post _ _ := p
        rw [if_neg hz] at p
        exact False.elim p
    | _ => exact False.elim p
  | tup i =>
    cases b with
    | tup j =>
      obtain ⟨a, xs, rfl, sa, rx⟩ := ra.tup_inv
      obtain ⟨b, ys, rfl, sb, ry⟩ := rb.tup_inv
      by_cases hz : i.length + j.length ≤ sizeLine
      · have p : ((if i.length + j.length ≤ sizeLine then .ok (.tup (i ++ j)) st else .bad) : R D).post _ _ := p
        rw [if_pos hz] at p
        have rxy := rx.append ry
        refine .inr (.inr ⟨a, b, xs, ys, rfl, rfl, sa, sb, by rw [rx.length, ry.length]; exact hz, fun e => ?_, fun _ e => ?_, fun _ _ t ht => ?_⟩)
        · subst e
          exact p q _ H Ext.refl rs (.tup sb rxy)
        · subst e
          rw [List.append_nil] at rxy
          exact p q _ H Ext.refl rs (.tup sa rxy)
        · obtain ⟨e2, rs2, r2⟩ := tup_new rs ht rxy
          exact p _ _ _ e2 rs2 r2
      · have p : ((if i.length + j.length ≤ sizeLine then .ok (.tup (i ++ j)) st else .bad) : R D).post _ _ := p
        rw [if_neg hz] at p
        exact False.elim p
    | _ => exact False.elim p
  | ref m =>
    cases b with
    | ref n =>
      have p : (match st[m]?, st[n]? with
        | some (.lst a), some (.lst b) => if a.length + b.length ≤ sizeLine then newO (.lst (a ++ b)) st else .bad
        | _, _ => .bad : R D).post _ _ := p
      split at p
      · rename_i i j e1 e2
        split at p
        · rename_i hz
          obtain ⟨a, xs, qa, ha, rx⟩ := rs.lstAt e1
          obtain ⟨b, ys, qb, hb, ry⟩ := rs.lstAt e2
          obtain ⟨a', rfl, qa'⟩ := ra.ref_inv
          obtain ⟨b', rfl, qb'⟩ := rb.ref_inv
          rw [qa] at qa'; cases qa'
          rw [qb] at qb'; cases qb'
          refine .inr (.inl ⟨a, b, xs, ys, rfl, rfl, ha, hb, by rw [rx.length, ry.length]; exact hz, fun t ht => ?_⟩)
          obtain ⟨e2, rs2, r2⟩ := lst_new rs ht (rx.append ry)
          exact p _ _ _ e2 rs2 r2
        · exact False.elim p
      · exact False.elim p
    | _ => exact False.elim p
  | _ => exact False.elim p
/-- two ints, under a condition -/
def intD (c : Int → Int → Bool) (f : Int → Int → D) : D → D → Sto → R D
  | .int a, .int b, st => if c a b = true then .ok (f a b) st else .bad
  | _, _, _ => .bad
theorem op_intD {op : Value → Value → Sem Value} {C : Int → Int → Prop} {v : Int → Int → V} {c : Int → Int → Bool} {f : Int → Int → D} (h : OpR X op (rI C v)) (hc : ∀ i j, c i j = true → C i j) (hv : ∀ q H i j, RD (gOf B X) q H (v i j) (f i j)) : OpR X op (LR (gOf B X) E (intD c f)) := h.imp fun x y H Q w => by
  obtain ⟨q, st, a, b, rs, ra, rb, p⟩ := w
  cases a with
  | int i =>
    cases b with
    | int j =>
      have p : ((if c i j = true then .ok (f i j) st else .bad) : R D).post _ _ := p
      split at p
      · rename_i hcc
        exact ⟨i, j, ra.int_inv, rb.int_inv, hc i j hcc, p q _ H Ext.refl rs (hv q H i j)⟩
      · exact False.elim p
    | _ => exact False.elim p
  | _ => exact False.elim p
def yes2 : Int → Int → Bool := fun _ _ => true
abbrev subD := intD yes2 fun a b => .int (a - b)
/-- within the model's line -/
def MulOk (a b : Int) : Prop := a.natAbs.log2 + b.natAbs.log2 < 1000000 ∨ a.natAbs < 2 ^ 64 ∨ b.natAbs < 2 ^ 64
instance {a b : Int} : Decidable (MulOk a b) := inferInstanceAs (Decidable (_ ∨ _ ∨ _))
abbrev mulD := intD (fun a b => decide (MulOk a b)) fun a b => .int (a * b)
abbrev modD := intD (fun _ b => decide (0 < b)) fun a b => .int (a % b)
abbrev divD := intD (fun _ b => decide (0 < b ∧ b.natAbs.log2 < 9000)) fun a b => .int (a / b)
abbrev powD := intD (fun a b => decide (0 ≤ b ∧ b ≤ 1000000 ∧ a.natAbs < 2 ^ 64)) fun a b => .int (a ^ b.toNat)
abbrev ltD := intD yes2 fun a b => .bl (decide (a < b))
abbrev leD := intD yes2 fun a b => .bl (decide (a ≤ b))
abbrev gtD := intD yes2 fun a b => .bl (decide (b < a))
abbrev geD := intD yes2 fun a b => .bl (decide (b ≤ a))
theorem op_subD : OpR X (binaryOp .Sub) (LR (gOf B X) E subD) := op_intD op_sub.rI0 (fun _ _ _ => trivial) fun _ _ _ _ => .int _
theorem op_mulD : OpR X (binaryOp .Mult) (LR (gOf B X) E mulD) := op_intD (C := MulOk) ((op_mul.or op_mulW).imp fun x y H Q ⟨i, j, e1, e2, c, q⟩ => by
  rcases c with c | c | c
  · exact .inr ⟨i, j, e1, e2, c, q⟩
  · exact .inl ⟨i, j, e1, e2, .inl (by omega), q⟩
  · exact .inl ⟨i, j, e1, e2, .inr (by omega), q⟩) (fun i j h => of_decide_eq_true (p := MulOk i j) h) fun _ _ _ _ => .int _
theorem op_modD : OpR X (binaryOp .Mod) (LR (gOf B X) E modD) := op_intD op_mod (fun i j h => of_decide_eq_true (p := 0 < j) h) fun _ _ _ _ => .int _
theorem op_divD : OpR X (binaryOp .FloorDiv) (LR (gOf B X) E divD) := op_intD op_fdivW (fun i j h => of_decide_eq_true (p := _ ∧ _) h) fun _ _ _ _ => .int _
theorem op_powD : OpR X (binaryOp .Pow) (LR (gOf B X) E powD) := op_intD op_pow (fun i j h => of_decide_eq_true (p := _ ∧ _) h) fun _ _ _ _ => .int _
theorem op_ltD : OpR X (compareOp .Lt) (LR (gOf B X) E ltD) := op_intD op_lt.rI0 (fun _ _ _ => trivial) fun _ _ _ _ => .bl _
theorem op_leD : OpR X (compareOp .LtE) (LR (gOf B X) E leD) := op_intD op_le.rI0 (fun _ _ _ => trivial) fun _ _ _ _ => .bl _
theorem op_gtD : OpR X (compareOp .Gt) (LR (gOf B X) E gtD) := op_intD op_gt.rI0 (fun _ _ _ => trivial) fun _ _ _ _ => .bl _
theorem op_geD : OpR X (compareOp .GtE) (LR (gOf B X) E geD) := op_intD op_ge.rI0 (fun _ _ _ => trivial) fun _ _ _ _ => .bl _
def negD : D → Sto → R D
  | .int a, st => .ok (.int (-a)) st
  | _, _ => .bad
def un1 (f : D → Sto → R D) (fa : EF) : EF := fun env st => (fa env st).bind f
theorem le_neg {a : Expr} {fa : EF} {pos : Pos} (ha : PE X a (LE (gOf B X) E fa)) : PE X (.UnaryOp .USub a pos) (LE (gOf B X) E (un1 negD fa)) := (pe_un un_neg ha).imp fun sg H Q w => by
  obtain ⟨q, env, st, rs, re, p⟩ := w
  refine LE.chain rs re (R.post_bind.mp p) fun x s1 q1 v H1 p e1 rs1 re1 rx => ?_
  cases x with
  | int i => exact ⟨i, rx.int_inv, p q1 _ H1 e1 rs1 (.int _)⟩
  | _ => exact False.elim p

/-! ### == -/
mutual
/-- as the library's data -/
def toPy : D → Option PyData
  | .non => some .none
  | .bl b => some (.bool b)
  | .int i => some (.int i)
  | .str x => some (.str x)
  | .tup xs => (toPys xs).map .tuple
  | .ref _ => none
  | .glb _ => none
  | .ty _ => none
  | .clo _ _ => none
def toPys : List D → Option (List PyData)
  | [] => some []
  | x :: xs => (toPy x).bind fun k => (toPys xs).map fun ks => k :: ks
end
mutual
theorem RD.dp {g : G} {q : List Addr} {H : Hp} : ∀ {v : V} {d : D} {p : PyData}, RD g q H v d → toPy d = some p → Dp g.K H v p
  | _, _, _, .non, e => by cases e; exact .non
  | _, _, _, .bl b, e => by cases e; exact .bl b
  | _, _, _, .int b, e => by cases e; exact .int b
  | _, _, _, .str b, e => by cases e; exact .str b
  | _, .tup ds, p, .tup h r, e => by
    unfold toPy at e
    obtain ⟨ps, h1, h2⟩ := Option.map_eq_some_iff.mp e
    subst h2
    exact .tup h (RDs.dp r h1)
  | _, .clo _ _, _, _, e => by unfold toPy at e; cases e
theorem RDs.dp {g : G} {q : List Addr} {H : Hp} : ∀ {v : List V} {d : List D} {p : List PyData}, RDs g q H v d → toPys d = some p → DpAll g.K H v p
  | _, _, _, .nil, e => by cases e; exact .nil
  | _, x :: xs, p, .cons r t, e => by
    unfold toPys at e
    obtain ⟨k, h1, h2⟩ := Option.bind_eq_some_iff.mp e
    obtain ⟨ks, h3, h4⟩ := Option.map_eq_some_iff.mp h2
    subst h4
    exact .cons (RD.dp r h1) (RDs.dp t h3)
end
/-- two scalars of which == is told at once -/
def sEq : D → D → Option Bool
  | .non, .non => some true
  | .non, .int _ => some false | .int _, .non => some false | .non, .bl _ => some false | .bl _, .non => some false | .non, .str _ => some false | .str _, .non => some false
  | .int a, .int b => some (decide (a = b))
  | .bl a, .bl b => some (decide (a = b))
  | .str a, .str b => some (decide (a = b))
  | .int _, .str _ => some false | .str _, .int _ => some false | .bl _, .str _ => some false | .str _, .bl _ => some false
  | _, _ => none
/-- a == b of data without lists -/
def eqP (a b : D) : Option Bool := match sEq a b with
  | some c => some c
  | none => match toPy a, toPy b with
    | some p, some r => if (SeqAt.shaped p && SeqAt.shaped r) = true then some (PyData.eqv p r) else none
    | _, _ => none
def eqD (a b : D) (st : Sto) : R D := match eqP a b with
  | some c => .ok (.bl c) st
  | none => .bad
def neD (a b : D) (st : Sto) : R D := match eqP a b with
  | some c => .ok (.bl (!c)) st
  | none => .bad
theorem sEq_scal {g : G} {q : List Addr} {H : Hp} {x y : V} {a b : D} {c : Bool} (ra : RD g q H x a) (rb : RD g q H y b) (h : sEq a b = some c) : scal x y = true ∧ decide (x = y) = c := by
  cases a <;> cases b <;> first
    | (cases h; done)
    | (cases ra; cases rb; cases h; exact ⟨rfl, by simp⟩)
theorem eqP_of {g : G} {q : List Addr} {H : Hp} {x y : V} {a b : D} {c : Bool} (ra : RD g q H x a) (rb : RD g q H y b) (h : eqP a b = some c) :
    (scal x y = true ∧ decide (x = y) = c) ∨ ∃ d e, Dp g.K H x d ∧ Dp g.K H y e ∧ SeqAt.shaped d = true ∧ SeqAt.shaped e = true ∧ PyData.eqv d e = c := by
  unfold eqP at h
  split at h
  · rename_i c' e
    cases h
    exact .inl (sEq_scal ra rb e)
  · split at h
    · rename_i p r e1 e2
      split at h
      · rename_i hs
        cases h
        rw [Bool.and_eq_true] at hs
        exact .inr ⟨p, r, ra.dp e1, rb.dp e2, hs.1, hs.2, rfl⟩
      · cases h
    · cases h
theorem op_eqDD (hu : X.A.units + 64 < cLine) : OpR X (compareOp .Eq) (LR (gOf B X) E eqD) := (op_eq.or (op_eqD hu)).imp fun x y H Q w => by
  obtain ⟨q, st, a, b, rs, ra, rb, p⟩ := w
  unfold eqD at p
  split at p
  · rename_i c e
    have k := p q (.bl c) H Ext.refl rs (.bl c)
    rcases eqP_of ra rb e with ⟨h1, h2⟩ | ⟨d, e, h1, h2, h3, h4, h5⟩
    · exact .inl ⟨h1, by rw [h2]; exact k⟩
    · exact .inr ⟨d, e, h1, h2, h3, h4, by rw [h5]; exact k⟩
  · exact False.elim p
theorem op_neDD (hu : X.A.units + 64 < cLine) : OpR X (compareOp .NotEq) (LR (gOf B X) E neD) := (op_ne.or (op_neD hu)).imp fun x y H Q w => by
  obtain ⟨q, st, a, b, rs, ra, rb, p⟩ := w
  unfold neD at p
  split at p
  · rename_i c e
    have k := p q (.bl (!c)) H Ext.refl rs (.bl (!c))
    rcases eqP_of ra rb e with ⟨h1, h2⟩ | ⟨d, e, h1, h2, h3, h4, h5⟩
    · exact .inl ⟨h1, by rw [h2]; exact k⟩
    · exact .inr ⟨d, e, h1, h2, h3, h4, by rw [h5]; exact k⟩
  · exact False.elim p
/-- x is None -/
def isN (neg : Bool) : D → D → Sto → R D
  | a, .non, st => .ok (.bl (match a with | .non => !neg | _ => neg)) st
  | _, _, _ => .bad
theorem RD.isnon {g : G} {q : List Addr} {H : Hp} {x : V} {a : D} (r : RD g q H x a) : decide (x = .non) = (match a with | .non => true | _ => false) := by
  cases r <;> simp
theorem op_isND : OpR X (compareOp .Is) (LR (gOf B X) E (isN false)) := op_isN.imp fun x y H Q w => by
  obtain ⟨q, st, a, b, rs, ra, rb, p⟩ := w
  cases b with
  | non =>
    refine ⟨rb.non_inv, ?_⟩
    rw [ra.isnon]
    have k := p q _ H Ext.refl rs (.bl _)
    cases a <;> exact k
  | _ => cases a <;> exact False.elim p
theorem op_notND : OpR X (compareOp .IsNot) (LR (gOf B X) E (isN true)) := op_notN.imp fun x y H Q w => by
  obtain ⟨q, st, a, b, rs, ra, rb, p⟩ := w
  cases b with
  | non =>
    refine ⟨rb.non_inv, ?_⟩
    rw [ra.isnon]
    have k := p q _ H Ext.refl rs (.bl _)
    cases a <;> exact k
  | _ => cases a <;> exact False.elim p

/-! ### subscripts, slices -/
def ixD : D → D → Sto → R D
  | .tup xs, .int i, st => match atI xs i with
    | some d => .ok d st
    | none => .bad
  | .ref n, .int i, st => match (listAt st n).bind fun xs => atI xs i with
    | some d => .ok d st
    | none => .bad
  | .str z, .int i, st => if z.length ≤ sizeLine then match atI z.cps.toList i with
    | some c => .ok (.str ⟨#[c]⟩) st
    | none => .bad
    else .bad
  | _, _, _ => .bad
theorem RDs.atI {g : G} {q : List Addr} {H : Hp} {xs : List V} {ds : List D} {i : Int} {d : D} (r : RDs g q H xs ds) (h : atI ds i = some d) : ∃ v, L2.atI xs i = some v ∧ RD g q H v d := by
  unfold L2.atI at h ⊢
  rw [r.length]
  obtain ⟨j, h1, h2⟩ := Option.bind_eq_some_iff.mp h
  rw [h1]
  exact r.get h2
theorem ix_D : IxR X (LR (gOf B X) E ixD) := ix_seq.imp fun x y H Q w => by
  obtain ⟨q, st, a, b, rs, ra, rb, p⟩ := w
  cases b with
  | int i =>
    cases a with
    | tup ds =>
      have p : (match atI ds i with | some d => .ok d st | none => .bad : R D).post _ _ := p
      split at p
      · rename_i d e
        obtain ⟨a, xs, rfl, hs, rx⟩ := ra.tup_inv
        obtain ⟨v, h1, h2⟩ := rx.atI e
        exact .inr (.inl ⟨a, xs, i, v, rfl, rb.int_inv, hs, h1, p q v H Ext.refl rs h2⟩)
      · exact False.elim p
    | ref n =>
      have p : (match (listAt st n).bind fun xs => atI xs i with | some d => .ok d st | none => .bad : R D).post _ _ := p
      split at p
      · rename_i d e
        obtain ⟨ds, e1, e2⟩ := Option.bind_eq_some_iff.mp e
        obtain ⟨a, xs, qa, hs, rx⟩ := rs.listAt e1
        obtain ⟨a', rfl, qa'⟩ := ra.ref_inv
        rw [qa] at qa'; cases qa'
        obtain ⟨v, h1, h2⟩ := rx.atI e2
        exact .inl ⟨a, xs, i, v, rfl, rb.int_inv, hs, h1, p q v H Ext.refl rs h2⟩
      · exact False.elim p
    | str z =>
      have p : (if z.length ≤ sizeLine then match atI z.cps.toList i with
        | some c => .ok (.str ⟨#[c]⟩) st
        | none => .bad
        else .bad : R D).post _ _ := p
      split at p
      · rename_i hz
        split at p
        · rename_i c e
          exact .inr (.inr ⟨z, i, c, ra.str_inv, rb.int_inv, hz, e, p q _ H Ext.refl rs (.str _)⟩)
        · exact False.elim p
      · exact False.elim p
    | _ => exact False.elim p
  | _ => cases a <;> exact False.elim p

/-- a part of a slice: none, or an int -/
abbrev OF := EnvD → Sto → R (Option Int)
def LO (g : G) (E : XK) (f : OF) : TO := fun sg H Q => ∃ q env st, RS g q H st ∧ RE g q H sg env ∧ (f env st).post (fun o st' => ∀ q' H', Ext q H q' H' → RS g q' H' st' → Q o H') (KX g q H E)
def nonO : OF := fun _ st => .ok none st
def someO (f : EF) : OF := fun env st => (f env st).bind fun d s => match d with
  | .int i => .ok (some i) s
  | _ => .bad
theorem lo_none : PO X none (LO (gOf B X) E nonO) := po_none.imp fun sg H Q w => by
  obtain ⟨q, env, st, rs, re, p⟩ := w
  exact p q H Ext.refl rs
theorem lo_some {e : Expr} {f : EF} (h : PE X e (LE (gOf B X) E f)) : PO X (some e) (LO (gOf B X) E (someO f)) := (po_some h).imp fun sg H Q w => by
  obtain ⟨q, env, st, rs, re, p⟩ := w
  refine LE.chain rs re (R.post_bind.mp p) fun x s1 q1 v H1 p e1 rs1 re1 rx => ?_
  cases x with
  | int i => exact ⟨i, rx.int_inv, p q1 H1 e1 rs1⟩
  | _ => exact False.elim p
def cutD (xs : List D) (lo hi : Option Int) : List D := (xs.drop (HT.sIx xs.length 0 lo)).take (HT.sIx xs.length xs.length hi - HT.sIx xs.length 0 lo)
theorem RDs.cut {g : G} {q : List Addr} {H : Hp} {xs : List V} {ds : List D} (r : RDs g q H xs ds) (lo hi : Option Int) : RDs g q H (cutV xs lo hi) (cutD ds lo hi) := by
  unfold cutV cutD
  rw [r.length]
  exact (r.drop _).take _
def slD : D → Option Int → Option Int → Sto → R D
  | .tup xs, lo, hi, st => .ok (.tup (cutD xs lo hi)) st
  | .ref n, lo, hi, st => match listAt st n with
    | some xs => newO (.lst (cutD xs lo hi)) st
    | none => .bad
  | .str z, lo, hi, st => if z.length ≤ sizeLine then .ok (.str (cutS z lo hi)) st else .bad
  | _, _, _, _ => .bad
def slF (fa : EF) (fl fh : OF) : EF := fun env st => (fa env st).bind fun d s => (fl env s).bind fun lo s1 => (fh env s1).bind fun hi s2 => slD d lo hi s2
theorem slD_ok {g : G} {q : List Addr} {H : Hp} {Q : VK} {K' : Str → Sto → Prop} {x : V} {d : D} {lo hi : Option Int} {st : Sto} (rs : RS g q H st) (rx : RD g q H x d) (p : (slD d lo hi st).post (KV g q H Q) K') :
    rSlA g.K x lo hi H Q ∨ rSlL g.K x lo hi H Q ∨ rSlS x lo hi H Q := by
  cases d with
  | tup ds =>
    obtain ⟨a, xs, rfl, hs, r⟩ := rx.tup_inv
    refine .inl ⟨a, xs, rfl, hs, fun hw => ?_, fun _ t ht => ?_⟩
    · have e : cutV xs lo hi = xs := by
        unfold cutV
        rw [hw.1, hw.2, List.drop_zero, Nat.sub_zero, List.take_length]
      have rc := r.cut lo hi
      rw [e] at rc
      exact p q _ H Ext.refl rs (.tup hs rc)
    · obtain ⟨e2, rs2, r2⟩ := tup_new rs ht (r.cut lo hi)
      exact p _ _ _ e2 rs2 r2
  | ref n =>
    have p : (match listAt st n with | some xs => newO (.lst (cutD xs lo hi)) st | none => .bad : R D).post _ _ := p
    split at p
    · rename_i ds e
      obtain ⟨a, xs, qa, hs, r⟩ := rs.listAt e
      obtain ⟨a', rfl, qa'⟩ := rx.ref_inv
      rw [qa] at qa'; cases qa'
      refine .inr (.inl ⟨a, xs, rfl, hs, fun t ht => ?_⟩)
      obtain ⟨e2, rs2, r2⟩ := lst_new rs ht (r.cut lo hi)
      exact p _ _ _ e2 rs2 r2
    · exact False.elim p
  | str z =>
    have p : (if z.length ≤ sizeLine then .ok (.str (cutS z lo hi)) st else .bad : R D).post _ _ := p
    split at p
    · rename_i hz
      exact .inr (.inr ⟨z, rx.str_inv, hz, p q _ H Ext.refl rs (.str _)⟩)
    · exact False.elim p
  | _ => exact False.elim p
theorem le_slice {e : Expr} {lo hi : Option Expr} {fa : EF} {fl fh : OF} {pos p2 : Pos} (he : PE X e (LE (gOf B X) E fa)) (hl : PO X lo (LO (gOf B X) E fl)) (hh : PO X hi (LO (gOf B X) E fh)) : PE X (.Subscript e (.Slice lo hi none p2) pos) (LE (gOf B X) E (slF fa fl fh)) :=
  (pe_slice (sl_tupA.or (sl_list.or sl_str)) he hl hh).imp fun sg H Q w => by
    obtain ⟨q, env, st, rs, re, p⟩ := w
    refine LE.chain rs re (R.post_bind.mp p) fun d s1 q1 v H1 p e1 rs1 re1 rx => ?_
    refine ⟨q1, env, s1, rs1, re1, (R.post_bind.mp p).imp (fun o s2 p q2 H2 e2 rs2 => ?_) fun _ _ h => h.ext e1⟩
    refine ⟨q2, env, s2, rs2, re1.ext e2, (R.post_bind.mp p).imp (fun o' s3 p q3 H3 e3 rs3 => ?_) fun _ _ h => h.ext (e1.trans e2)⟩
    exact slD_ok rs3 (rx.ext (e2.trans e3)) (p.imp (fun _ _ h => h.ext (e1.trans (e2.trans e3))) fun _ _ h => h)

/-! ### len, tuple, list, min, max, abs -/
def lenD : List D → Sto → R D
  | [.tup xs], st => .ok (.int xs.length) st
  | [.str z], st => if z.length ≤ sizeLine then .ok (.int z.length) st else .bad
  | [.ref n], st => match listAt st n with
    | some xs => .ok (.int xs.length) st
    | none => .bad
  | _, _ => .bad
theorem RDs.one_inv {g : G} {q : List Addr} {H : Hp} {vs : List V} {d : D} (r : RDs g q H vs [d]) : ∃ v, vs = [v] ∧ RD g q H v d := by
  cases r with | cons r t => cases t; exact ⟨_, rfl, r⟩
theorem RDs.two_inv {g : G} {q : List Addr} {H : Hp} {vs : List V} {d e : D} (r : RDs g q H vs [d, e]) : ∃ v w, vs = [v, w] ∧ RD g q H v d ∧ RD g q H w e := by
  cases r with | cons r t => cases t with | cons r' t' => cases t'; exact ⟨_, _, rfl, r, r'⟩
theorem call_lenD : CallR X (.builtin "len") (LC (gOf B X) E lenD) := call_len.imp fun vs H Q w => by
  obtain ⟨q, st, ds, rs, rd, p⟩ := w
  unfold lenD at p
  split at p
  · obtain ⟨v, rfl, r⟩ := rd.one_inv
    obtain ⟨a, xs, rfl, hs, rx⟩ := r.tup_inv
    exact ⟨_, xs.length, rfl, .inr ⟨xs, hs, rfl⟩, by rw [rx.length]; exact p q _ H Ext.refl rs (.int _)⟩
  · split at p
    · rename_i hz
      obtain ⟨v, rfl, r⟩ := rd.one_inv
      rw [r.str_inv]
      exact ⟨_, _, rfl, ⟨hz, rfl⟩, p q _ H Ext.refl rs (.int _)⟩
    · exact False.elim p
  · split at p
    · rename_i xs e
      obtain ⟨v, rfl, r⟩ := rd.one_inv
      obtain ⟨a, ys, qa, hs, rx⟩ := rs.listAt e
      obtain ⟨a', rfl, qa'⟩ := r.ref_inv
      rw [qa] at qa'; cases qa'
      exact ⟨_, ys.length, rfl, .inl ⟨ys, hs, rfl⟩, by rw [rx.length]; exact p q _ H Ext.refl rs (.int _)⟩
    · exact False.elim p
  · exact False.elim p
def tupleD : List D → Sto → R D
  | [.tup xs], st => .ok (.tup xs) st
  | [.ref n], st => match listAt st n with
    | some xs => .ok (.tup xs) st
    | none => .bad
  | _, _ => .bad
theorem call_tupleD : CallR X (.type "tuple") (LC (gOf B X) E tupleD) := call_tuple_of.imp fun vs H Q w => by
  obtain ⟨q, st, ds, rs, rd, p⟩ := w
  unfold tupleD at p
  split at p
  · obtain ⟨v, rfl, r⟩ := rd.one_inv
    obtain ⟨a, xs, rfl, hs, rx⟩ := r.tup_inv
    exact ⟨a, xs, rfl, .inr ⟨hs, p q _ H Ext.refl rs (.tup hs rx)⟩⟩
  · split at p
    · rename_i xs e
      obtain ⟨v, rfl, r⟩ := rd.one_inv
      obtain ⟨a, ys, qa, hs, rx⟩ := rs.listAt e
      obtain ⟨a', rfl, qa'⟩ := r.ref_inv
      rw [qa] at qa'; cases qa'
      refine ⟨a, ys, rfl, .inl ⟨hs, fun t ht => ?_⟩⟩
      obtain ⟨e2, rs2, r2⟩ := tup_new rs ht rx
      exact p _ _ _ e2 rs2 r2
    · exact False.elim p
  · exact False.elim p
def listD : List D → Sto → R D
  | [.tup xs], st => newO (.lst xs) st
  | [.ref n], st => match listAt st n with
    | some xs => newO (.lst xs) st
    | none => .bad
  | _, _ => .bad
theorem call_listD : CallR X (.type "list") (LC (gOf B X) E listD) := call_list_of.imp fun vs H Q w => by
  obtain ⟨q, st, ds, rs, rd, p⟩ := w
  unfold listD at p
  split at p
  · obtain ⟨v, rfl, r⟩ := rd.one_inv
    obtain ⟨a, xs, rfl, hs, rx⟩ := r.tup_inv
    refine ⟨a, xs, rfl, .inr hs, fun t ht => ?_⟩
    obtain ⟨e2, rs2, r2⟩ := lst_new rs ht rx
    exact p _ _ _ e2 rs2 r2
  · split at p
    · rename_i xs e
      obtain ⟨v, rfl, r⟩ := rd.one_inv
      obtain ⟨a, ys, qa, hs, rx⟩ := rs.listAt e
      obtain ⟨a', rfl, qa'⟩ := r.ref_inv
      rw [qa] at qa'; cases qa'
      refine ⟨a, ys, rfl, .inl hs, fun t ht => ?_⟩
      obtain ⟨e2, rs2, r2⟩ := lst_new rs ht rx
      exact p _ _ _ e2 rs2 r2
    · exact False.elim p
  · exact False.elim p
def int2D (f : Int → Int → Int) : List D → Sto → R D
  | [.int a, .int b], st => .ok (.int (f a b)) st
  | _, _ => .bad
theorem call_int2D {id : String} {f : Int → Int → Int} (h : CallR X (.builtin id) (fun xs H Q => ∃ i j, xs = [.int i, .int j] ∧ Q (.int (f i j)) H)) : CallR X (.builtin id) (LC (gOf B X) E (int2D f)) := h.imp fun vs H Q w => by
  obtain ⟨q, st, ds, rs, rd, p⟩ := w
  unfold int2D at p
  split at p
  · obtain ⟨v, w', rfl, r1, r2⟩ := rd.two_inv
    exact ⟨_, _, by rw [r1.int_inv, r2.int_inv], p q _ H Ext.refl rs (.int _)⟩
  · exact False.elim p
abbrev minD := int2D fun i j => if j < i then j else i
abbrev maxD := int2D fun i j => if j > i then j else i
theorem call_minD (hc : X.calm = true) : CallR X (.builtin "min") (LC (gOf B X) E minD) := call_int2D (call_min2 hc)
theorem call_maxD (hc : X.calm = true) : CallR X (.builtin "max") (LC (gOf B X) E maxD) := call_int2D (call_max2 hc)
def bools : List D → Option (List Bool)
  | [] => some []
  | .bl b :: r => (bools r).map fun bs => b :: bs
  | _ :: _ => none
theorem RDs.bools {g : G} {q : List Addr} {H : Hp} : ∀ {vs : List V} {ds : List D} {bs : List Bool}, RDs g q H vs ds → bools ds = some bs → vs = bs.map V.bl
  | _, _, _, .nil, e => by cases e; rfl
  | _, _, bs, .cons (d := .bl b) r t, e => by
    unfold VL.bools at e
    obtain ⟨cs, h1, h2⟩ := Option.map_eq_some_iff.mp e
    subst h2
    rw [r.bl_inv, RDs.bools t h1]
    rfl
  | _, _, _, .cons (d := .non) r t, e => nomatch e
  | _, _, _, .cons (d := .int _) r t, e => nomatch e
  | _, _, _, .cons (d := .str _) r t, e => nomatch e
  | _, _, _, .cons (d := .tup _) r t, e => nomatch e
  | _, _, _, .cons (d := .ref _) r t, e => nomatch e
  | _, _, _, .cons (d := .glb _) r t, e => nomatch e
  | _, _, _, .cons (d := .ty _) r t, e => nomatch e
def allD : List D → Sto → R D
  | [.ref n], st => match (listAt st n).bind bools with
    | some bs => .ok (.bl (bs.all id)) st
    | none => .bad
  | _, _ => .bad
theorem call_allD (hc : X.calm = true) : CallR X (.builtin "all") (LC (gOf B X) E allD) := (cr_all hc).imp fun vs H Q w => by
  obtain ⟨q, st, ds, rs, rd, p⟩ := w
  unfold allD at p
  split at p
  · split at p
    · rename_i bs e
      obtain ⟨xs, e1, e2⟩ := Option.bind_eq_some_iff.mp e
      obtain ⟨v, rfl, r⟩ := rd.one_inv
      obtain ⟨a, ys, qa, hs, rx⟩ := rs.listAt e1
      obtain ⟨a', rfl, qa'⟩ := r.ref_inv
      rw [qa] at qa'; cases qa'
      rw [rx.bools e2] at hs
      exact ⟨a, bs, rfl, hs, p q _ H Ext.refl rs (.bl _)⟩
    · exact False.elim p
  · exact False.elim p

/-! ### append -/
/-- a method of a built-in type: the receiver and the arguments -/
def LM (g : G) (E : XK) (f : D → List D → Sto → R D) : V → List V → Hp → VK → Prop := fun v vs H Q => ∃ q st d ds, RS g q H st ∧ RD g q H v d ∧ RDs g q H vs ds ∧ (f d ds st).post (KV g q H Q) (KX g q H E)
/-- the receiver's built-in type, as a method is looked up -/
def tyD (T : String) (d : D) (st : Sto) : Prop := match d with
  | .str _ => T = "str"
  | .ref n => (T = "list" ∧ (listAt st n).isSome = true) ∨ (T = "dict" ∧ ∃ kvs, st[n]? = some (.dic kvs))
  | _ => False
theorem tyD_is {g : G} {q : List Addr} {H : Hp} {st : Sto} {T : String} {pins : List (Addr × Obj)} {sg : L2.St} {s : Shared} {x : V} {d : D} {v : Value} (I : Inv X pins sg H s) (rs : RS (gOf B X) q H st) (rx : RD (gOf B X) q H x d) (r : RelV x v) (ty : tyD T d st) :
    s.TypeIs v T ∧ ∀ a, v = .ref a → ∃ ob, s.heap.get? a = some ob ∧ ob.dict = none := by
  cases d with
  | str z =>
    refine tyV_is (T := T) I r ?_
    rw [rx.str_inv]
    exact ty
  | ref n =>
    obtain ⟨a, rfl, qa⟩ := rx.ref_inv
    rcases ty with ⟨rfl, h⟩ | ⟨rfl, kvs, h⟩
    · obtain ⟨ds, h⟩ := Option.isSome_iff_exists.mp h
      obtain ⟨b, xs, qb, hs, _⟩ := rs.listAt h
      rw [qa] at qb; cases qb
      exact tyV_is (T := "list") I r (.inl ⟨rfl, xs, hs⟩)
    · obtain ⟨b, qb, hb⟩ := rs.get h
      rw [qa] at qb; cases qb
      rcases hb with ⟨gs, hk, _⟩ | ⟨_, xs, hk, _⟩
      · exact tyV_is (T := "dict") I r (.inr (.inr (.inl ⟨rfl, .inl ⟨gs, hk⟩⟩)))
      · cases r
        obtain ⟨⟨_, o, es, ep, e, ex, _⟩, _⟩ := I.hok a _ hk
        exact ⟨⟨o, e, ex.1⟩, fun b eb => by cases eb; exact ⟨o, e, ex.2.1⟩⟩
  | _ => exact False.elim ty
open Classical in
noncomputable def methF (T : String) (f : D → List D → Sto → R D) (fo : EF) (fa : AF) : EF := fun env st => (fo env st).bind fun d s => if tyD T d s then (fa env s).bind fun ds s' => f d ds s' else .bad
theorem le_bm {T id : String} {f : D → List D → Sto → R D} {o e : Expr} {es : List Expr} {name : Str} {apos cpos : Pos} {fo : EF} {fa : AF} (pa : PlainAttrs T) (slot : Slot T name id) (hty : typeOf (.builtin id) = pure (.type "method_descriptor")) (hm : MtR X id (LM (gOf B X) E f)) (ho : PE X o (LE (gOf B X) E fo)) (ha : PA X (e :: es) (LA (gOf B X) E fa))
    (hbase : attributeBase o name X.env (eval o X.env) = eval o X.env := by rfl)
    (hfew : ((backTo cpos (starEach (e :: es) X.env)).all (fun x => !x.1) && (backToKw cpos (keywordEach [] X.env)).all (fun x => x.1.isSome)
      && decide ((e :: es).length + ([] : List Keyword).length + (if ([] : List Keyword).isEmpty then 0 else 1) < 30)) = true := by rfl)
    (hline : (apos.endLine == cpos.line) = true := by rfl) (hs : starEach (e :: es) X.env = (false, eval e X.env) :: starEach es X.env := by rfl) (hplain : (backTo cpos (starEach es X.env)).any (·.1) = false := by rfl) :
    PE X (.Call (.Attribute o name apos) (e :: es) [] cpos) (LE (gOf B X) E (methF T f fo fa)) := by
  refine ⟨fun pins s sg H Q I w => ?_⟩
  obtain ⟨q, env, st, rs, re, p⟩ := w
  have w2 : LE (gOf B X) E fo sg H (fun x H1 => ∃ q1 s1 d, RS (gOf B X) q1 H1 s1 ∧ RD (gOf B X) q1 H1 x d ∧ tyD T d s1 ∧ LA (gOf B X) E fa sg H1 fun vs H2 => LM (gOf B X) E f x vs H2 Q) := by
    refine LE.chain rs re (R.post_bind.mp p) fun d s1 q1 v H1 p e1 rs1 re1 rx => ?_
    by_cases ht : tyD T d s1
    · rw [if_pos ht] at p
      refine ⟨q1, s1, d, rs1, rx, ht, ?_⟩
      refine LA.chain rs1 re1 ((R.post_bind.mp p).imp (fun _ _ h => h) fun _ _ h => h.ext e1) fun ds s2 q2 vs H2 p e2 rs2 re2 rd => ?_
      exact ⟨q2, s2, d, ds, rs2, rx.ext e2, rd, p.imp (fun _ _ h => h.ext (e1.trans e2)) fun _ _ h => h.ext (e1.trans e2)⟩
    · rw [if_neg ht] at p
      exact False.elim p
  refine wpAny_Call_method_late hbase hfew hline rfl (thn (ho.run pins s sg H _ I w2) fun v s1 ⟨x, H1, I1, r1, q1, st1, d, rs1, rx, ty, w3⟩ => ?_)
  obtain ⟨h1, h2⟩ := tyD_is (g := gOf B X) I1 rs1 rx r1 ty
  refine ⟨T, id, pa, slot, hty, h1, h2, ?_⟩
  have hA := ha.run cpos pins s1 sg H1 _ I1 w3
  rw [hs] at hA ⊢
  refine Calls.callWith_builtin (by show (false || (backTo cpos (starEach es X.env)).any (·.1)) = false; rw [hplain] <;> rfl) (Calls.evalArgs_plain ?_)
  exact thn hA fun us s2 ⟨vs, H2, I2, r2, q2⟩ => hm pins s2 sg H2 x vs v us Q I2 r1 r2 q2
theorem le_bm0 {T id : String} {f : D → List D → Sto → R D} {o : Expr} {name : Str} {apos cpos : Pos} {fo : EF} (pa : PlainAttrs T) (slot : Slot T name id) (hty : typeOf (.builtin id) = pure (.type "method_descriptor")) (hm : MtR X id (LM (gOf B X) E f)) (ho : PE X o (LE (gOf B X) E fo))
    (hbase : attributeBase o name X.env (eval o X.env) = eval o X.env := by rfl) (hline : (apos.endLine == cpos.line) = true := by rfl) : PE X (.Call (.Attribute o name apos) [] [] cpos) (LE (gOf B X) E (methF T f fo nilA)) := by
  refine ⟨fun pins s sg H Q I w => ?_⟩
  obtain ⟨q, env, st, rs, re, p⟩ := w
  have w2 : LE (gOf B X) E fo sg H (fun x H1 => ∃ q1 s1 d, RS (gOf B X) q1 H1 s1 ∧ RD (gOf B X) q1 H1 x d ∧ tyD T d s1 ∧ LM (gOf B X) E f x [] H1 Q) := by
    refine LE.chain rs re (R.post_bind.mp p) fun d s1 q1 v H1 p e1 rs1 re1 rx => ?_
    by_cases ht : tyD T d s1
    · rw [if_pos ht] at p
      exact ⟨q1, s1, d, rs1, rx, ht, q1, s1, d, [], rs1, rx, .nil, (show (f d [] s1).post _ _ from p).imp (fun _ _ h => h.ext e1) fun _ _ h => h.ext e1⟩
    · rw [if_neg ht] at p
      exact False.elim p
  refine wpAny_Call_method0_late hbase hline (thn (ho.run pins s sg H _ I w2) fun v s1 ⟨x, H1, I1, r1, q1, st1, d, rs1, rx, ty, w3⟩ => ?_)
  obtain ⟨h1, h2⟩ := tyD_is (g := gOf B X) I1 rs1 rx r1 ty
  exact ⟨T, id, pa, slot, hty, h1, h2, Calls.callWith_builtin rfl (PySem.evalArgs_none (hm pins s1 sg H1 x [] v [] Q I1 r1 .nil w3))⟩
def appD : D → List D → Sto → R D
  | .ref n, [d], st => match st[n]? with
    | some (.lst xs) => if xs.length < sizeLine then .ok .non (st.set n (.lst (xs ++ [d]))) else .bad
    | _ => .bad
  | _, _, _ => .bad
theorem lst_put {g : G} {q : List Addr} {H : Hp} {st : Sto} {n : Nat} {ds es : List D} {a : Addr} {xs ys : List V} (rs : RS g q H st) (h : st[n]? = some (.lst ds)) (qa : q[n]? = some a) (ha : H a = some (.lst xs)) (r : RDs g q H ys es) :
    RS g q (upd H a (.lst ys)) (st.set n (.lst es)) ∧ Ext q H q (upd H a (.lst ys)) := by
  have mu : Mut (H a) := by rw [ha]; trivial
  exact rs.put' qa (fun zs e => by rw [h] at e; cases e) mu (fun φ e => by rw [ha] at e; cases e) (fun ps e => by cases e) fun ext => ⟨ys, upd_same, r.ext ext⟩
theorem mt_appD : MtR X "list.append" (LM (gOf B X) E appD) := MtR.imp mt_append fun x vs H Q w => by
  obtain ⟨q, st, d, ds, rs, rx, rd, p⟩ := w
  unfold appD at p
  split at p
  · rename_i n e
    split at p
    · rename_i xs hx
      split at p
      · rename_i hz
        obtain ⟨y, rfl, ry⟩ := rd.one_inv
        obtain ⟨a, ys, qa, ha, r⟩ := rs.lstAt hx
        obtain ⟨a', rfl, qa'⟩ := rx.ref_inv
        rw [qa] at qa'; cases qa'
        obtain ⟨rs2, e2⟩ := lst_put rs hx qa ha (r.append (.cons ry .nil))
        exact ⟨a, ys, y, rfl, rfl, ha, by rw [r.length]; exact hz, p q _ _ e2 rs2 .non⟩
      · exact False.elim p
    · exact False.elim p
  · exact False.elim p
end
end VL

/-! VL4: walks, for, list comprehensions, the rule for a def. -/
namespace L2
open PySem PySem.Spec PyProof.Rows
theorem PI.imp {X : Cx} {tg e : Expr} {t t' : TI} (h : PI X tg e t) (i : ∀ sg H R, t' sg H R → t sg H R) : PI X tg e t' := ⟨fun pins s sg H R I w => h.run pins s sg H R I (i _ _ _ w)⟩
theorem PTs.imp {X : Cx} {e : List Expr} {t t' : TT} (h : PTs X e t) (i : ∀ sg H Q, t' sg H Q → t sg H Q) : PTs X e t' := ⟨fun pins s sg H Q I w => h.run pins s sg H Q I (i _ _ _ w)⟩
section
variable {X : Cx} {tg : Expr} {pins : List (Addr × Obj)} {σ : L2.St} {H : Hp} {s : Shared} {R : It → Hp → Prop} {a : Addr} {xs : List V}
theorem iter_l (I : Inv X pins σ H s) (hq : SqL X.K H a xs) (q : R (Itl X.K a) H) : wpAny (model X.prog X.w) X.A (pyIter (.ref a)) (PIE X pins σ tg R) X.xe s := by
  obtain ⟨its, rv, p, hz⟩ := I.list hq
  refine wpAny_pyIter_list p.isList ?_
  refine ⟨s.heap.objs.size, [s.heap.objs.size], _, _, H, rfl, I.kept (t' := s.toks) fun b o e => Heap.get?_push_of_some _ e, turn_list a _, ⟨_, Heap.get?_push_size _ rfl, rfl, rfl⟩, fun b hb => ?_, q⟩
  have e : b = s.heap.objs.size := by simpa using hb
  subst e
  exact I.fpOk (Nat.le_refl _) (I.hok.fresh (Nat.le_refl _))
theorem iter_t (I : Inv X pins σ H s) (hq : SqT X.K H a xs) (q : R (Itt X.K a) H) : wpAny (model X.prog X.w) X.A (pyIter (.ref a)) (PIE X pins σ tg R) X.xe s := by
  obtain ⟨its, rv, p, hz⟩ := I.tuple hq
  refine wpAny_pyIter_tuple (show s.heap.IsTuple a its.toArray from p) ?_
  refine ⟨s.heap.objs.size, [s.heap.objs.size], _, _, H, rfl, I.kept (t' := s.toks) fun b o e => Heap.get?_push_of_some _ e, turn_tuple a _, ⟨_, Heap.get?_push_size _ rfl, rfl, rfl⟩, fun b hb => ?_, q⟩
  have e : b = s.heap.objs.size := by simpa using hb
  subst e
  exact I.fpOk (Nat.le_refl _) (I.hok.fresh (Nat.le_refl _))
theorem iter_s {x : Str} {t : Tok} (I : Inv X pins σ H s) (q : R (Its x) H) : wpAny (model X.prog X.w) X.A (pyIter (.str x t)) (PIE X pins σ tg R) X.xe s := by
  cases ha : x.cps.all (· < 128)
  · exact wpAny_pyIter_wide ha (pi_one (tk := s.toks) I _ (turn_str _ x t "str_iterator" (.inr rfl)) ⟨_, Heap.get?_push_size _ rfl, rfl, rfl⟩ q)
  · exact wpAny_pyIter_ascii ha (pi_one (tk := s.toks) I _ (turn_str _ x t "str_ascii_iterator" (.inl rfl)) ⟨_, Heap.get?_push_size _ rfl, rfl, rfl⟩ q)
end
end L2
namespace VL
open PySem PySem.Spec PyProof.Rows L2 RZ RT LamX NdefX
variable {B : Tb}

/-! ### what is walked: the items, and what must stand still meanwhile -/
abbrev Chk := List (Nat × O)
def ChkOk (c : Chk) (st : Sto) : Prop := ∀ p ∈ c, st[p.1]? = some p.2
theorem ChkOk.nil {st : Sto} : ChkOk [] st := fun _ h => nomatch h
theorem ChkOk.one {st : Sto} {n : Nat} {o : O} (h : st[n]? = some o) : ChkOk [(n, o)] st := fun p hp => by
  rw [List.mem_singleton] at hp
  subst hp
  exact h
def chkAt (st : Sto) (n : Nat) : Chk := match st[n]? with
  | some o => [(n, o)]
  | none => []
theorem chkAt_list {st st' : Sto} {n : Nat} {xs : List D} (h : listAt st n = some xs) (c : ChkOk (chkAt st n) st') : listAt st' n = some xs := by
  unfold listAt at h
  split at h
  · rename_i ys e
    cases h
    unfold chkAt at c
    rw [e] at c
    exact listAt_lst (c _ (List.mem_singleton.mpr rfl))
  · rename_i ys e
    cases h
    unfold chkAt at c
    rw [e] at c
    exact listAt_rl (c _ (List.mem_singleton.mpr rfl))
  · cases h
abbrev ItF := EnvD → Sto → R (List D × Chk)
def Walks (g : G) (J : It) (q : List Addr) (H : Hp) (p : List D × Chk) : Prop := ∀ i q' H' st', Ext q H q' H' → RS g q' H' st' → ChkOk p.2 st' →
  (p.1.length ≤ i → J.stop i H') ∧ ∀ d, p.1[i]? = some d → J.go i H' ∧ ∀ x H2, J.yld i H' x H2 → Ext q' H' q' H2 ∧ RS g q' H2 st' ∧ RD g q' H2 x d
def KI (g : G) (q : List Addr) (H : Hp) (R : It → Hp → Prop) : List D × Chk → Sto → Prop := fun p st => ∀ q' H' J, Ext q H q' H' → RS g q' H' st → Walks g J q' H' p → R J H'
theorem KI.ext {g : G} {q q' : List Addr} {H H' : Hp} {R : It → Hp → Prop} (e : Ext q H q' H') {p : List D × Chk} {st : Sto} (k : KI g q H R p st) : KI g q' H' R p st := fun q2 H2 J e2 r m => k q2 H2 J (e.trans e2) r m
def LI (g : G) (E : XK) (f : ItF) : TI := fun sg H R => ∃ q env st, RS g q H st ∧ RE g q H sg env ∧ (f env st).post (KI g q H R) (KX g q H E)
theorem RDs.inj_get {g : G} {q : List Addr} {H : Hp} {xs : List V} {ds : List D} (r : RDs g q H xs ds) {i : Nat} {x : V} {d : D} (h1 : xs[i]? = some x) (h2 : ds[i]? = some d) : RD g q H x d := by
  obtain ⟨v, h3, h4⟩ := r.get h2
  rw [h1] at h3; cases h3
  exact h4
theorem walks_l {g : G} {q : List Addr} {H : Hp} {n : Nat} {a : Addr} {ds : List D} {c : Chk} (qa : q[n]? = some a) (hc : ∀ st', ChkOk c st' → listAt st' n = some ds) : Walks g (Itl g.K a) q H (ds, c) := by
  intro i q' H' st' e rs ok
  obtain ⟨b, xs, qb, hs, r⟩ := rs.listAt (hc st' ok)
  rw [e.at qa] at qb; cases qb
  refine ⟨fun hi => ⟨xs, hs, by rw [r.length]; exact hi⟩, fun d hd => ?_⟩
  obtain ⟨x, hx, rx⟩ := r.get hd
  refine ⟨⟨xs, x, hs, hx⟩, fun y H2 ⟨e2, hy⟩ => ?_⟩
  subst e2
  exact ⟨Ext.refl, rs, r.inj_get (hy xs hs) hd⟩
theorem walks_t {g : G} {q : List Addr} {H : Hp} {a : Addr} {xs : List V} {ds : List D} {c : Chk} (hs : SqT g.K H a xs) (r : RDs g q H xs ds) : Walks g (Itt g.K a) q H (ds, c) := by
  intro i q' H' st' e rs ok
  have hs' := sqT_ext e hs
  have r' := r.ext e
  refine ⟨fun hi => ⟨xs, hs', by rw [r.length]; exact hi⟩, fun d hd => ?_⟩
  obtain ⟨x, hx, rx⟩ := r'.get hd
  refine ⟨⟨xs, x, hs', hx⟩, fun y H2 ⟨e2, hy⟩ => ?_⟩
  subst e2
  exact ⟨Ext.refl, rs, r'.inj_get (hy xs hs') hd⟩
def signs (x : Str) : List D := x.cps.toList.map fun c => .str ⟨#[c]⟩
theorem walks_s {g : G} {q : List Addr} {H : Hp} {x : Str} {c : Chk} : Walks g (Its x) q H (signs x, c) := by
  intro i q' H' st' e rs ok
  refine ⟨fun hi => ?_, fun d hd => ?_⟩
  · show x.cps.size ≤ i
    have : (signs x).length = x.cps.size := by simp [signs]
    rw [← this]; exact hi
  · have hd : (signs x)[i]? = some d := hd
    unfold signs at hd
    rw [List.getElem?_map] at hd
    obtain ⟨k, hk, rfl⟩ := Option.map_eq_some_iff.mp hd
    have hk' : x.cps[i]? = some k := by simpa using hk
    refine ⟨(Array.getElem?_eq_some_iff.mp hk').1, fun y H2 ⟨e2, k', h1, h2⟩ => ?_⟩
    subst e2
    rw [hk'] at h1; cases h1
    subst h2
    exact ⟨Ext.refl, rs, .str _⟩
/-- over a list, a tuple, a text -/
def itD (d : D) (st : Sto) : R (List D × Chk) := match d with
  | .tup ds => .ok (ds, []) st
  | .str x => .ok (signs x, []) st
  | .ref n => match listAt st n with
    | some ds => .ok (ds, chkAt st n) st
    | none => .bad
  | _ => .bad
def itF (f : EF) : ItF := fun env st => (f env st).bind itD
section
variable {X : Cx} {E : XK} {tg : Expr}
theorem li_seq {e : Expr} {f : EF} (he : PE X e (LE (gOf B X) E f)) : PI X tg e (LI (gOf B X) E (itF f)) := by
  refine ⟨fun pins s sg H RR I w => ?_⟩
  obtain ⟨q, env, st, rs, re, p⟩ := w
  have w2 : LE (gOf B X) E f sg H (fun x H1 => ∃ q1 s1 d, RS (gOf B X) q1 H1 s1 ∧ RD (gOf B X) q1 H1 x d ∧ (itD d s1).post (KI (gOf B X) q1 H1 RR) (KX (gOf B X) q1 H1 E)) :=
    LE.chain rs re (R.post_bind.mp p) fun d s1 q1 v H1 p e1 rs1 re1 rx => ⟨q1, s1, d, rs1, rx, p.imp (fun _ _ h => h.ext e1) fun _ _ h => h.ext e1⟩
  refine thn (he.run pins s sg H _ I w2) fun v s1 ⟨x, H1, I1, r1, q1, st1, d, rs1, rx, p⟩ => ?_
  cases d with
  | tup ds =>
    obtain ⟨a, xs, rfl, hs, r⟩ := rx.tup_inv
    cases r1
    exact iter_t I1 hs (p q1 H1 _ Ext.refl rs1 (walks_t hs r))
  | str z =>
    rw [rx.str_inv] at r1
    obtain ⟨t, rfl⟩ := r1
    exact iter_s I1 (p q1 H1 _ Ext.refl rs1 walks_s)
  | ref n =>
    have p : (match listAt st1 n with | some ds => .ok (ds, chkAt st1 n) st1 | none => .bad : R (List D × Chk)).post _ _ := p
    split at p
    · rename_i ds e
      obtain ⟨a, xs, qa, hs, r⟩ := rs1.listAt e
      obtain ⟨a', rfl, qa'⟩ := rx.ref_inv
      rw [qa] at qa'; cases qa'
      cases r1
      exact iter_l I1 hs (p q1 H1 _ Ext.refl rs1 (walks_l qa fun st' ok => chkAt_list e ok))
    · exact False.elim p
  | _ => exact False.elim p
def intsD (lo c : Int) (n : Nat) : List D := (List.range n).map fun i => .int (lo + (i : Nat) * c)
theorem intsD_len {lo c : Int} {n : Nat} : (intsD lo c n).length = n := by simp [intsD]
theorem intsD_get {lo c : Int} {n i : Nat} {d : D} (h : (intsD lo c n)[i]? = some d) : i < n ∧ d = .int (lo + (i : Nat) * c) := by
  have h1 : i < n := by have l := (List.getElem?_eq_some_iff.mp h).1; rw [intsD_len] at l; exact l
  unfold intsD at h
  rw [List.getElem?_map, List.getElem?_range h1] at h
  exact ⟨h1, (Option.some.inj h).symm⟩
theorem walks_r {g : G} {q : List Addr} {H : Hp} {lo : Int} {n : Nat} {c : Chk} : Walks g (Itr lo n) q H (intsD lo 1 n, c) := by
  intro i q' H' st' e rs ok
  refine ⟨fun hi => ?_, fun d hd => ?_⟩
  · rw [intsD_len] at hi; exact hi
  · obtain ⟨h1, h2⟩ := intsD_get hd
    refine ⟨h1, fun y H2 ⟨e2, h3⟩ => ?_⟩
    subst e2
    subst h2 h3
    rw [Int.mul_one]
    exact ⟨Ext.refl, rs, .int _⟩
theorem walks_c {g : G} {q : List Addr} {H : Hp} {lo k : Int} {n : Nat} {c : Chk} : Walks g (Itc lo k n) q H (intsD lo k n, c) := by
  intro i q' H' st' e rs ok
  refine ⟨fun hi => ?_, fun d hd => ?_⟩
  · rw [intsD_len] at hi; exact hi
  · obtain ⟨h1, h2⟩ := intsD_get hd
    refine ⟨h1, fun y H2 ⟨e2, h3⟩ => ?_⟩
    subst e2
    subst h2 h3
    exact ⟨Ext.refl, rs, .int _⟩
def rng1D : List D → Sto → R (List D × Chk)
  | [.int j], st => if -(2 ^ 62) ≤ j ∧ j < 2 ^ 62 then .ok (intsD 0 1 j.toNat, []) st else .bad
  | _, _ => .bad
def rng2D : List D → Sto → R (List D × Chk)
  | [.int i, .int j], st => if -(2 ^ 62) ≤ i ∧ i < 2 ^ 62 ∧ -(2 ^ 62) ≤ j ∧ j < 2 ^ 62 then .ok (intsD i 1 (j - i).toNat, []) st else .bad
  | _, _ => .bad
def rng3D : List D → Sto → R (List D × Chk)
  | [.int i, .int j, .int c], st => if c ≠ 0 ∧ c.natAbs < 1073741824 ∧ Builtin.Range.small i j c = true ∧ 0 ≤ Builtin.Range.rangeSize i j c then .ok (intsD i c (Builtin.Range.rangeSize i j c).toNat, []) st else .bad
  | _, _ => .bad
def itA (f : List D → Sto → R (List D × Chk)) (fa : AF) : ItF := fun env st => (fa env st).bind f
theorem itA_le {f : List D → Sto → R (List D × Chk)} {fa : AF} {sg : L2.St} {H : Hp} {RR : It → Hp → Prop} (w : LI (gOf B X) E (itA f fa) sg H RR) {T : List V → Hp → Prop}
    (k : ∀ q st ds vs H, RS (gOf B X) q H st → RDs (gOf B X) q H vs ds → (f ds st).post (KI (gOf B X) q H RR) (KX (gOf B X) q H E) → T vs H) : LA (gOf B X) E fa sg H T := by
  obtain ⟨q, env, st, rs, re, p⟩ := w
  exact LA.chain rs re (R.post_bind.mp p) fun ds s1 q1 vs H1 p e1 rs1 re1 rx => k q1 s1 ds vs H1 rs1 rx (p.imp (fun _ _ h => h.ext e1) fun _ _ h => h.ext e1)
theorem RDs.three_inv {g : G} {q : List Addr} {H : Hp} {vs : List V} {d e f : D} (r : RDs g q H vs [d, e, f]) : ∃ v w u, vs = [v, w, u] ∧ RD g q H v d ∧ RD g q H w e ∧ RD g q H u f := by
  cases r with | cons r t => cases t with | cons r' t' => cases t' with | cons r2 t2 => cases t2; exact ⟨_, _, _, rfl, r, r', r2⟩
theorem li_rng1 {a : Expr} {fa : AF} {p pos : Pos} (hg : Gl X "range") (hm : X.mg "range" = none) (ha : PA X [a] (LA (gOf B X) E fa)) (hs : starEach [a] X.env = [(false, eval a X.env)] := by rfl) : PI X tg (.Call (.Name "range" p) [a] [] pos) (LI (gOf B X) E (itA rng1D fa)) :=
  (pi_range1 hg hm ha hs).imp fun sg H RR w => itA_le w fun q st ds vs H rs rd p => by
    unfold rng1D at p
    split at p
    · split at p
      · rename_i h
        obtain ⟨v, rfl, r⟩ := rd.one_inv
        rw [r.int_inv]
        exact ⟨_, rfl, h.1, h.2, p q H _ Ext.refl rs walks_r⟩
      · exact False.elim p
    · exact False.elim p
theorem li_rng2 {a b : Expr} {fa : AF} {p pos : Pos} (hg : Gl X "range") (hm : X.mg "range" = none) (ha : PA X [a, b] (LA (gOf B X) E fa)) (hs : starEach [a, b] X.env = [(false, eval a X.env), (false, eval b X.env)] := by rfl) (hs2 : starEach [b] X.env = [(false, eval b X.env)] := by rfl) :
    PI X tg (.Call (.Name "range" p) [a, b] [] pos) (LI (gOf B X) E (itA rng2D fa)) :=
  (pi_range2 hg hm ha hs hs2).imp fun sg H RR w => itA_le w fun q st ds vs H rs rd p => by
    unfold rng2D at p
    split at p
    · split at p
      · rename_i h
        obtain ⟨v, u, rfl, r, r'⟩ := rd.two_inv
        rw [r.int_inv, r'.int_inv]
        exact ⟨_, _, rfl, h, p q H _ Ext.refl rs walks_r⟩
      · exact False.elim p
    · exact False.elim p
theorem li_rng3 {fa : AF} {e : Expr} (h : PI X tg e (iRng3 (LA (gOf B X) E fa))) : PI X tg e (LI (gOf B X) E (itA rng3D fa)) :=
  h.imp fun sg H RR w => itA_le w fun q st ds vs H rs rd p => by
    unfold rng3D at p
    split at p
    · split at p
      · rename_i h
        obtain ⟨v, u, z, rfl, r, r', r2⟩ := rd.three_inv
        rw [r.int_inv, r'.int_inv, r2.int_inv]
        exact ⟨_, _, _, _, rfl, ⟨h.1, h.2.1, h.2.2.1, (Int.toNat_of_nonneg h.2.2.2).symm⟩, p q H _ Ext.refl rs walks_c⟩
      · exact False.elim p
    · exact False.elim p
/-- pairs of two walked together -/
def pairD (p : D × D) : D := .tup [p.1, p.2]
theorem zip_get {xs ys : List D} {i : Nat} {d : D} (h : ((xs.zip ys).map pairD)[i]? = some d) : ∃ x y, xs[i]? = some x ∧ ys[i]? = some y ∧ d = .tup [x, y] := by
  rw [List.getElem?_map] at h
  obtain ⟨⟨x, y⟩, h1, rfl⟩ := Option.map_eq_some_iff.mp h
  obtain ⟨h2, h3⟩ := List.getElem?_zip_eq_some.mp h1
  exact ⟨x, y, h2, h3, rfl⟩
theorem walks_zt {g : G} {q : List Addr} {H : Hp} {a b : Addr} {xs ys : List V} {ds es : List D} {c : Chk} (ha : SqT g.K H a xs) (r : RDs g q H xs ds) (hb : SqT g.K H b ys) (r' : RDs g q H ys es) : Walks g (ItzT g.K a b) q H ((ds.zip es).map pairD, c) := by
  intro i q' H' st' e rs ok
  have ha' := sqT_ext e ha
  have hb' := sqT_ext e hb
  have r := r.ext e
  have r' := r'.ext e
  refine ⟨fun hi => ⟨xs, ys, ha', hb', ?_⟩, fun d hd => ?_⟩
  · have hi : ((ds.zip es).map pairD).length ≤ i := hi
    rw [List.length_map, List.length_zip] at hi
    rw [r.length, r'.length]
    omega
  · obtain ⟨x, y, h1, h2, rfl⟩ := zip_get hd
    obtain ⟨u, hu, ru⟩ := r.get h1
    obtain ⟨v, hv, rv⟩ := r'.get h2
    refine ⟨⟨xs, ys, u, v, ha', hb', hu, hv⟩, fun z H2 ⟨T, x1, y1, hz, nT, h3, h4, h5⟩ => ?_⟩
    subst hz h3
    have e1 := h4 xs ha'
    rw [hu] at e1; cases e1
    have e2 := h5 ys hb'
    rw [hv] at e2; cases e2
    exact tup_new rs nT (.cons ru (.cons rv .nil))
theorem walks_zl {g : G} {q : List Addr} {H : Hp} {m n : Nat} {a b : Addr} {ds es : List D} {c : Chk} (qa : q[m]? = some a) (qb : q[n]? = some b) (hc : ∀ st', ChkOk c st' → listAt st' m = some ds ∧ listAt st' n = some es) : Walks g (Itz g.K a b) q H ((ds.zip es).map pairD, c) := by
  intro i q' H' st' e rs ok
  obtain ⟨ha, hb⟩ := hc st' ok
  obtain ⟨a', xs, qa', ha', r⟩ := rs.listAt ha
  obtain ⟨b', ys, qb', hb', r'⟩ := rs.listAt hb
  rw [e.at qa] at qa'; cases qa'
  rw [e.at qb] at qb'; cases qb'
  refine ⟨fun hi => ⟨xs, ys, ha', hb', ?_⟩, fun d hd => ?_⟩
  · have hi : ((ds.zip es).map pairD).length ≤ i := hi
    rw [List.length_map, List.length_zip] at hi
    rw [r.length, r'.length]
    omega
  · obtain ⟨x, y, h1, h2, rfl⟩ := zip_get hd
    obtain ⟨u, hu, ru⟩ := r.get h1
    obtain ⟨v, hv, rv⟩ := r'.get h2
    refine ⟨⟨xs, ys, u, v, ha', hb', hu, hv⟩, fun z H2 ⟨T, x1, y1, hz, nT, h3, h4, h5⟩ => ?_⟩
    subst hz h3
    have e1 := h4 xs ha'
    rw [hu] at e1; cases e1
    have e2 := h5 ys hb'
    rw [hv] at e2; cases e2
    exact tup_new rs nT (.cons ru (.cons rv .nil))
def zipD : List D → Sto → R (List D × Chk)
  | [.tup ds, .tup es], st => .ok ((ds.zip es).map pairD, []) st
  | [.ref m, .ref n], st => match listAt st m, listAt st n with
    | some ds, some es => .ok ((ds.zip es).map pairD, chkAt st m ++ chkAt st n) st
    | _, _ => .bad
  | _, _ => .bad
theorem li_zip {e : Expr} {fa : AF} (h : PI X tg e (iZipA X.K (LA (gOf B X) E fa))) : PI X tg e (LI (gOf B X) E (itA zipD fa)) :=
  h.imp fun sg H RR w => itA_le w fun q st ds vs H rs rd p => by
    unfold zipD at p
    split at p
    · obtain ⟨v, u, rfl, r, r'⟩ := rd.two_inv
      obtain ⟨a, xs, rfl, ha, ra⟩ := r.tup_inv
      obtain ⟨b, ys, rfl, hb, rb⟩ := r'.tup_inv
      exact ⟨a, b, xs, ys, rfl, .inr ⟨ha, hb, p q H _ Ext.refl rs (walks_zt ha ra hb rb)⟩⟩
    · split at p
      · rename_i ds es e1 e2
        obtain ⟨v, u, rfl, r, r'⟩ := rd.two_inv
        obtain ⟨a, xs, qa, ha, _⟩ := rs.listAt e1
        obtain ⟨b, ys, qb, hb, _⟩ := rs.listAt e2
        obtain ⟨a', rfl, qa'⟩ := r.ref_inv
        obtain ⟨b', rfl, qb'⟩ := r'.ref_inv
        rw [qa] at qa'; cases qa'
        rw [qb] at qb'; cases qb'
        exact ⟨a, b, xs, ys, rfl, .inl ⟨ha, hb, p q H _ Ext.refl rs (walks_zl qa qb fun st' ok => ⟨chkAt_list e1 fun z hz => ok z (List.mem_append_left _ hz), chkAt_list e2 fun z hz => ok z (List.mem_append_right _ hz)⟩)⟩⟩
      · exact False.elim p
    · exact False.elim p

/-! ### for -/
open Classical in
noncomputable def forL (c : Chk) (gf : GF) (body : SF) : List D → EnvD → Sto → R Fl
  | [], env, st => if ChkOk c st then .ok (.nx env) st else .bad
  | x :: r, env, st => if ChkOk c st then (gf x env st).bind fun e s => (body e s).bind fun fl s' => match fl with
      | .nx e' => forL c gf body r e' s'
      | .ct e' => forL c gf body r e' s'
      | .bk e' => .ok (.nx e') s'
      | .rt d => .ok (.rt d) s'
    else .bad
noncomputable def forS (it : ItF) (gf : GF) (body : SF) : SF := fun env st => (it env st).bind fun p s => forL p.2 gf body p.1 env s
theorem drop_cons {A : Type} {l : List A} {i : Nat} {x : A} (h : l[i]? = some x) : l.drop i = x :: l.drop (i + 1) := by
  obtain ⟨hl, e⟩ := List.getElem?_eq_some_iff.mp h
  rw [List.drop_eq_getElem_cons hl, e]
theorem ls_for {iter : Expr} {body : List Stmt} {it : ItF} {gf : GF} {fb : SF} {pos : Pos} (hp : PassesOwn (model X.prog X.w) X.A X.env X.xe) (hc : X.calm = true) (hi : PI X tg iter (LI (gOf B X) E it)) (hg : PG X tg (LG (gOf B X) E gf)) (hb : PSs X body (LS (gOf B X) E fb))
    (hs : ∀ x, foldedSetIterable iter X.env x = pure x := by intro _; rfl) : PS X (.For tg iter body [] pos) (LS (gOf B X) E (forS it gf fb)) := (ps_for hp hc hi hg hb hs).imp fun T sg H w => by
  obtain ⟨q, env, st, rs, re, p⟩ := w
  refine ⟨q, env, st, rs, re, (R.post_bind.mp p).imp (fun pr s1 p q1 H1 J e1 rs1 wk => ?_) fun _ _ h => h⟩
  obtain ⟨ds, c⟩ := pr
  refine ⟨fun i m sg2 H2 => ∃ q2 env2 st2, RS (gOf B X) q2 H2 st2 ∧ RE (gOf B X) q2 H2 sg2 env2 ∧ Ext q1 H1 q2 H2 ∧ i ≤ ds.length ∧ m = ds.length - i ∧ (forL c gf fb (ds.drop i) env2 st2).post (KS (gOf B X) q2 H2 T) (KX (gOf B X) q2 H2 E),
    ⟨_, q1, env, s1, rs1, re.ext e1, Ext.refl, Nat.zero_le _, rfl, (show (forL c gf fb ds env s1).post _ _ from p).imp (fun _ _ h => h.ext e1) fun _ _ h => h.ext e1⟩, ?_⟩
  rintro i m sg2 H2 ⟨q2, env2, st2, rs2, re2, e2, hil, rfl, p⟩
  by_cases hlt : i < ds.length
  · have hd : ds[i]? = some ds[i] := List.getElem?_eq_getElem hlt
    rw [drop_cons hd] at p
    unfold forL at p
    by_cases ok : ChkOk c st2
    · rw [if_pos ok] at p
      obtain ⟨go, yld⟩ := (wk i q2 H2 st2 e2 rs2 ok).2 _ hd
      refine .inr ⟨go, fun sg3 H3 => ∃ q3 env3 st3, RS (gOf B X) q3 H3 st3 ∧ RE (gOf B X) q3 H3 sg3 env3 ∧ Ext q1 H1 q3 H3 ∧ (forL c gf fb (ds.drop (i + 1)) env3 st3).post (KS (gOf B X) q3 H3 T) (KX (gOf B X) q3 H3 E), ?_, fun x H3 y => ?_⟩
      · rintro sg3 H3 ⟨q3, env3, st3, rs3, re3, e3, p3⟩
        exact ⟨ds.length - (i + 1), by omega, q3, env3, st3, rs3, re3, e3, by omega, rfl, p3⟩
      · obtain ⟨e3, rs3, rx⟩ := yld x H3 y
        refine ⟨q2, _, env2, st2, rs3, re2.ext e3, rx, (R.post_bind.mp p).imp (fun en s4 p q4 H4 sg4 e4 rs4 re4 => ?_) fun _ _ h => h.ext e3⟩
        refine ⟨q4, en, s4, rs4, re4, (R.post_bind.mp p).imp (fun fl s5 p q5 H5 e5 rs5 => ?_) fun _ _ h => h.ext (e3.trans e4)⟩
        have e25 : Ext q2 H2 q5 H5 := e3.trans (e4.trans e5)
        cases fl with
        | nx e => exact fun sg5 re5 => ⟨q5, e, s5, rs5, re5, e2.trans e25, (show (forL c gf fb (ds.drop (i + 1)) e s5).post _ _ from p).imp (fun _ _ h => h.ext e25) fun _ _ h => h.ext e25⟩
        | ct e => exact fun sg5 re5 => ⟨q5, e, s5, rs5, re5, e2.trans e25, (show (forL c gf fb (ds.drop (i + 1)) e s5).post _ _ from p).imp (fun _ _ h => h.ext e25) fun _ _ h => h.ext e25⟩
        | bk e => exact fun sg5 re5 => p q5 H5 e25 rs5 sg5 re5
        | rt d => exact fun v rv => p q5 H5 e25 rs5 v rv
    · rw [if_neg ok] at p
      exact False.elim p
  · have e : i = ds.length := by omega
    subst e
    rw [List.drop_length] at p
    unfold forL at p
    by_cases ok : ChkOk c st2
    · rw [if_pos ok] at p
      exact .inl ⟨(wk _ q2 H2 st2 e2 rs2 ok).1 (Nat.le_refl _), p q2 H2 Ext.refl rs2 sg2 re2⟩
    · rw [if_neg ok] at p
      exact False.elim p

/-! ### list comprehensions -/
def wipeE (env : EnvD) : List Nat → EnvD
  | [] => env
  | v :: vs => (wipeE env vs).set v none
theorem RE.wipe {g : G} {q : List Addr} {H : Hp} {sg : L2.St} {env : EnvD} (r : RE g q H sg env) : ∀ vs : List Nat, RE g q H (wipe sg vs) (wipeE env vs)
  | [] => r
  | v :: vs => Paired.set_ (fun x e => nomatch e) v (RE.wipe r vs)
/-- a target that stores names of vs alone -/
def LGw (g : G) (E : XK) (vs : List Nat) (f : GF) : TG := fun v sg H Q => ∃ q d env st, RS g q H st ∧ RE g q H sg env ∧ RD g q H v d ∧ (f d env st).post (fun e st' => ∀ q' H' sg', Ext q H q' H' → RS g q' H' st' → RE g q' H' sg' e → wipe sg' vs = wipe sg vs → Q sg' H') (KX g q H E)
def LGws (g : G) (E : XK) (vs : List Nat) (f : List D → EnvD → Sto → R EnvD) : TGs := fun xs sg H Q => ∃ q ds env st, RS g q H st ∧ RE g q H sg env ∧ RDs g q H xs ds ∧ (f ds env st).post (fun e st' => ∀ q' H' sg', Ext q H q' H' → RS g q' H' st' → RE g q' H' sg' e → wipe sg' vs = wipe sg vs → Q sg' H') (KX g q H E)
theorem wipe_set {sg : L2.St} {i : Nat} {v : Option V} : ∀ {vs : List Nat}, i ∈ vs → wipe (sg.set i v) vs = wipe sg vs
  | j :: vs, h => by
    unfold wipe
    by_cases hj : i ∈ vs
    · rw [wipe_set hj]
    · have e : i = j := by
        rcases List.mem_cons.mp h with e | e
        · exact e
        · exact absurd e hj
      subst e
      have comm : ∀ {ws : List Nat}, i ∉ ws → wipe (sg.set i v) ws = (wipe sg ws).set i v := by
        intro ws
        induction ws with
        | nil => intro _; rfl
        | cons w ws ih =>
          intro hn
          unfold wipe
          rw [ih (fun z => hn (List.mem_cons_of_mem _ z))]
          exact List.set_comm _ _ (fun z => hn (by rw [z]; exact List.mem_cons_self))
      rw [comm hj, List.set_set]
theorem lgw_name {e : Expr} {i : Nat} {vs : List Nat} (h : PG X e (gName i)) (hi : i ∈ vs) : PG X e (LGw (gOf B X) E vs (nameG i)) := h.imp fun v sg H Q w => by
  obtain ⟨q, d, env, st, rs, re, rd, p⟩ := w
  exact p q H _ Ext.refl rs (re.set rd) (wipe_set hi)
theorem lgws_nil {vs : List Nat} : PGs X [] (LGws (gOf B X) E vs nilG) := pgs_nil.imp fun xs sg H Q w => by
  obtain ⟨q, ds, env, st, rs, re, rd, p⟩ := w
  cases rd with
  | nil => exact ⟨rfl, p q H sg Ext.refl rs re rfl⟩
  | cons _ _ => exact False.elim p
theorem lgws_cons {e : Expr} {es : List Expr} {f : GF} {r : List D → EnvD → Sto → R EnvD} {vs : List Nat} (h1 : PG X e (LGw (gOf B X) E vs f)) (h2 : PGs X es (LGws (gOf B X) E vs r))
    (hs : (assignEach (e :: es) X.env).map (·.2) = assign e X.env :: (assignEach es X.env).map (·.2) := by rfl) : PGs X (e :: es) (LGws (gOf B X) E vs (consG f r)) := (pgs_cons h1 h2 hs).imp fun xs sg H Q w => by
  obtain ⟨q, ds, env, st, rs, re, rd, p⟩ := w
  cases rd with
  | nil => exact False.elim p
  | cons rd rds =>
    refine ⟨_, _, rfl, q, _, env, st, rs, re, rd, (R.post_bind.mp p).imp (fun e1 s1 p q1 H1 sg1 x1 rs1 re1 hw => ?_) fun _ _ h => h⟩
    exact ⟨q1, _, e1, s1, rs1, re1, rds.ext x1, (show (r _ e1 s1).post _ _ from p).imp (fun e2 s2 p q2 H2 sg2 x2 rs2 re2 hw2 => p q2 H2 sg2 (x1.trans x2) rs2 re2 (hw2.trans hw)) fun _ _ h => h.ext x1⟩
theorem lgw_tup {es : List Expr} {k : Nat} {f : List D → EnvD → Sto → R EnvD} {n : Nat} {vs : List Nat} {pos : Pos} (hc : X.calm = true) (h : PGs X es (LGws (gOf B X) E vs f))
    (hn : (assignEach es X.env).length = n := by rfl) (hst : (assignEach es X.env).findIdx? (·.1) = none := by rfl) : PG X (.Tuple es k pos) (LGw (gOf B X) E vs (tupG n f)) := (pg_tup hc h hn hst).imp fun v sg H Q w => by
  obtain ⟨q, d, env, st, rs, re, rd, p⟩ := w
  cases d with
  | tup ds =>
    obtain ⟨a, xs, rfl, hs, rx⟩ := rd.tup_inv
    by_cases hl : ds.length = n
    · have z : tupG n f (.tup ds) env st = f ds env st := if_pos hl
      rw [z] at p
      exact ⟨a, xs, rfl, hs, by rw [rx.length]; exact hl, q, ds, env, st, rs, re, rx, p⟩
    · have z : tupG n f (.tup ds) env st = .bad := if_neg hl
      rw [z] at p
      exact False.elim p
  | _ => exact False.elim p
open Classical in
noncomputable def lcL (c : Chk) (gf : GF) (tt : TF) (te : EF) (env : EnvD) (n : Nat) : List D → Sto → R Unit
  | [], st => if ChkOk c st then .ok () st else .bad
  | x :: r, st => if ChkOk c st then (gf x env st).noex.bind fun e s => (tt e s).noex.bind fun b s1 => if b = true then (te e s1).noex.bind fun d s2 => match s2[n]? with
        | some (.lst acc) => if acc.length < sizeLine then lcL c gf tt te env n r (s2.set n (.lst (acc ++ [d]))) else .bad
        | _ => .bad
      else lcL c gf tt te env n r s1
    else .bad
noncomputable def lcF (it : ItF) (vs : List Nat) (gf : GF) (tt : TF) (te : EF) : EF := fun env st => (it env st).bind fun p s => (lcL p.2 gf tt te (wipeE env vs) s.length p.1 (s ++ [.lst []])).bind fun _ s' => .ok (.ref s.length) s'
def yesT : TF := fun _ st => .ok true st
theorem lts_nil : PTs X [] (LT (gOf B X) E yesT) := pts_nil.imp fun sg H Q w => by
  obtain ⟨q, env, st, rs, re, p⟩ := w
  exact p q H Ext.refl rs
theorem lts_one {c : Expr} {t : TF} (h : PT X c (LT (gOf B X) E t)) : PTs X [c] (LT (gOf B X) E t) := pts_one h
theorem lc_le {it : ItF} {vs : List Nat} {gf : GF} {tt : TF} {te : EF} {sg : L2.St} {H : Hp} {Q : VK} (w : LE (gOf B X) E (lcF it vs gf tt te) sg H Q) : tLc (LI (gOf B X) E it) (LGw (gOf B X) E0 vs gf) (LT (gOf B X) E0 tt) (LE (gOf B X) E0 te) vs sg H Q := by
  obtain ⟨q, env, st, rs, re, p⟩ := w
  refine ⟨q, env, st, rs, re, (R.post_bind.mp p).imp (fun pr s1 p q1 H1 J e1 rs1 wk D hD => ?_) fun _ _ h => h⟩
  obtain ⟨ds, c⟩ := pr
  have p := R.post_bind.mp p
  obtain ⟨e2, rs2, r2⟩ := lst_new (xs := []) (ds := []) rs1 hD .nil
  have qD : (q1 ++ [D])[s1.length]? = some D := by rw [← rs1.len]; simp
  refine ⟨fun i m H3 => ∃ q3 st3, RS (gOf B X) q3 H3 st3 ∧ Ext (q1 ++ [D]) (upd H1 D (.lst [])) q3 H3 ∧ i ≤ ds.length ∧ m = ds.length - i ∧ (lcL c gf tt te (wipeE env vs) s1.length (ds.drop i) st3).post (fun _ st' => KV (gOf B X) q3 H3 Q (.ref s1.length) st') (KX (gOf B X) q3 H3 E),
    ⟨_, q1 ++ [D], s1 ++ [O.lst []], rs2, Ext.refl, Nat.zero_le _, rfl, (show (lcL c gf tt te (wipeE env vs) s1.length ds (s1 ++ [.lst []])).post _ _ from p).imp (fun _ _ h => KV.ext (e1.trans e2) h) fun _ _ h => h.ext (e1.trans e2)⟩, ?_⟩
  rintro i m H3 ⟨q3, st3, rs3, e3, hil, rfl, p⟩
  have reW : RE (gOf B X) q3 H3 (wipe sg vs) (wipeE env vs) := (re.ext (e1.trans (e2.trans e3))).wipe vs
  by_cases hlt : i < ds.length
  · have hd : ds[i]? = some ds[i] := List.getElem?_eq_getElem hlt
    rw [drop_cons hd] at p
    unfold lcL at p
    by_cases ok : ChkOk c st3
    · rw [if_pos ok] at p
      obtain ⟨go, yld⟩ := (wk i q3 H3 st3 (e2.trans e3) rs3 ok).2 _ hd
      refine .inr ⟨go, fun H4 => ∃ q4 st4, RS (gOf B X) q4 H4 st4 ∧ Ext (q1 ++ [D]) (upd H1 D (.lst [])) q4 H4 ∧ (lcL c gf tt te (wipeE env vs) s1.length (ds.drop (i + 1)) st4).post (fun _ st' => KV (gOf B X) q4 H4 Q (.ref s1.length) st') (KX (gOf B X) q4 H4 E), ?_, fun x H4 y => ?_⟩
      · rintro H4 ⟨q4, st4, rs4, e4, p4⟩
        exact ⟨ds.length - (i + 1), by omega, q4, st4, rs4, e4, by omega, rfl, p4⟩
      · obtain ⟨e4, rs4, rx⟩ := yld x H4 y
        refine ⟨q3, _, _, st3, rs4, reW.ext e4, rx, R.post_noex ((R.post_bind.mp p).imp (fun en s5 p q5 H5 sg5 e5 rs5 re5 hw => ?_) fun _ _ h => h)⟩
        have hww : wipe (wipe sg vs) vs = wipe sg vs := by
          have all : ∀ (ws : List Nat) (s0 : L2.St), (∀ v ∈ ws, s0.set v none = s0) → wipe s0 ws = s0 := by
            intro ws
            induction ws with
            | nil => intro s0 _; rfl
            | cons v ws ih =>
              intro s0 h
              unfold wipe
              rw [ih s0 fun u hu => h u (List.mem_cons_of_mem _ hu)]
              exact h v List.mem_cons_self
          have fix : ∀ (ws : List Nat) (v : Nat), v ∈ ws → (wipe sg ws).set v none = wipe sg ws := by
            intro ws
            induction ws with
            | nil => intro v h; cases h
            | cons u ws ih =>
              intro v h
              unfold wipe
              by_cases e : v = u
              · subst e; rw [List.set_set]
              · rw [List.set_comm _ _ (fun z => e z.symm), ih v (by
                  rcases List.mem_cons.mp h with z | z
                  · exact absurd z e
                  · exact z)]
          exact all vs _ (fix vs)
        refine ⟨hw.trans hww, q5, en, s5, rs5, re5, R.post_noex ((R.post_bind.mp p).imp (fun b s6 p q6 H6 e6 rs6 => ?_) fun _ _ h => h)⟩
        have re6 := re5.ext e6
        have e36 : Ext q3 H3 q6 H6 := e4.trans (e5.trans e6)
        cases b with
        | false =>
          exact iteF ⟨q6, s6, rs6, e3.trans e36, (show (lcL c gf tt te (wipeE env vs) s1.length (ds.drop (i + 1)) s6).post _ _ from p).imp (fun _ _ h => KV.ext e36 h) fun _ _ h => h.ext e36⟩
        | true =>
          refine iteT ⟨q6, en, s6, rs6, re6, R.post_noex ((R.post_bind.mp (show ((te en s6).noex.bind _).post _ _ from p)).imp (fun d s7 p q7 y7 H7 e7 rs7 ry => ?_) fun _ _ h => h)⟩
          have e37 : Ext q3 H3 q7 H7 := e36.trans e7
          have qD7 : q7[s1.length]? = some D := e37.at (e3.at qD)
          split at p
          · rename_i acc hacc
            split at p
            · rename_i hz
              obtain ⟨a, xs, qa, ha, r⟩ := rs7.lstAt hacc
              rw [qD7] at qa; cases qa
              obtain ⟨rs8, e8⟩ := lst_put rs7 hacc qD7 ha (r.append (.cons ry .nil))
              exact ⟨xs, ha, by rw [r.length]; exact hz, q7, _, rs8, e3.trans (e37.trans e8), p.imp (fun _ _ h => KV.ext (e37.trans e8) h) fun _ _ h => h.ext (e37.trans e8)⟩
            · exact False.elim p
          · exact False.elim p
    · rw [if_neg ok] at p
      exact False.elim p
  · have e : i = ds.length := by omega
    subst e
    rw [List.drop_length] at p
    unfold lcL at p
    by_cases ok : ChkOk c st3
    · rw [if_pos ok] at p
      exact .inl ⟨(wk _ q3 H3 st3 (e2.trans e3) rs3 ok).1 (Nat.le_refl _), p q3 _ H3 Ext.refl rs3 (.ref (e3.at qD))⟩
    · rw [if_neg ok] at p
      exact False.elim p
theorem le_lc {elt iter : Expr} {ifs : List Expr} {scope : Scope} {own : List (Str × Nat)} {pos : Pos} {it : ItF} {gf : GF} {tt : TF} {te : EF} (hc : X.calm = true) (hN : X.N.Nodup) (hi : PI X tg iter (LI (gOf B X) E it)) (ok : BlkOk X.N X.env.scope scope own)
    (hg : ∀ (s : Shared) (H : Hp) (C : Addr) (cl : List (Str × Addr)) (fp : List Addr), PG (X.blk s H scope (compEnvC scope cl C X.env) fp) tg (LGw (gOf B X) E0 (own.map (·.2)) gf)) (ht : ∀ (s : Shared) (H : Hp) (C : Addr) (cl : List (Str × Addr)) (fp : List Addr), PTs (X.blk s H scope (compEnvC scope cl C X.env) fp) ifs (LT (gOf B X) E0 tt))
    (he : ∀ (s : Shared) (H : Hp) (C : Addr) (cl : List (Str × Addr)) (fp : List Addr), PE (X.blk s H scope (compEnvC scope cl C X.env) fp) elt (LE (gOf B X) E0 te)) (hs : ∀ x, foldedSetIterable iter X.env x = pure x := by intro _; rfl) :
    PE X (.ListComp elt [⟨tg, iter, ifs, 0⟩] scope pos) (LE (gOf B X) E (lcF it (own.map (·.2)) gf tt te)) := (pe_lc hc hN hi ok hg ht he hs).imp fun _ _ _ w => lc_le w
theorem ls_setLc {i : Nat} {y : Str} {py : Pos} {elt iter : Expr} {ifs : List Expr} {scope : Scope} {own : List (Str × Nat)} {pos spos : Pos} {it : ItF} {gf : GF} {tt : TF} {te : EF} (hc : X.calm = true) (hN : X.N.Nodup) (hsw : swapsWith (.ListComp elt [⟨tg, iter, ifs, 0⟩] scope pos) (some (.Name y py)) spos.line X.env = pure true) (hi : PI X tg iter (LI (gOf B X) E it)) (ok : BlkOk X.N X.env.scope scope own)
    (hg : ∀ (s : Shared) (H : Hp) (C : Addr) (cl : List (Str × Addr)) (fp : List Addr), PG (X.blk s H scope (compEnvC scope cl C X.env) fp) tg (LGw (gOf B X) E0 (own.map (·.2)) gf)) (ht : ∀ (s : Shared) (H : Hp) (C : Addr) (cl : List (Str × Addr)) (fp : List Addr), PTs (X.blk s H scope (compEnvC scope cl C X.env) fp) ifs (LT (gOf B X) E0 tt))
    (he : ∀ (s : Shared) (H : Hp) (C : Addr) (cl : List (Str × Addr)) (fp : List Addr), PE (X.blk s H scope (compEnvC scope cl C X.env) fp) elt (LE (gOf B X) E0 te)) (hy : X.N[i]? = some y := by rfl) (hyl : X.env.scope.names.lookup y = some .local := by rfl) (hs : ∀ x, foldedSetIterable iter X.env x = pure x := by intro _; rfl) :
    PS X (.Assign [.Name y py] (.ListComp elt [⟨tg, iter, ifs, 0⟩] scope pos) spos) (LS (gOf B X) E (setS i (lcF it (own.map (·.2)) gf tt te))) :=
  (ps_setLc hc hN hy hyl hsw hi ok hg ht he hs).imp fun T sg H w => by
    obtain ⟨q, env, st, rs, re, p⟩ := w
    have h : LE (gOf B X) E (lcF it (own.map (·.2)) gf tt te) sg H (fun x H1 => gName i x sg H1 T.nx) :=
      LE.chain rs re (R.post_bind.mp p) fun x s1 q1 v H1 p e1 rs1 re1 rx => p q1 H1 e1 rs1 _ (re1.set rx)
    exact lc_le h
end

/-! ### a def that lets nothing out -/
def Sp0 (g : G) (n : Nat) (f : Fn) : Sp := fun vs H Q _ => vs.length = n ∧ LC g E0 f vs H Q
section
variable {P : Program} {w : World} {K : PySem.W.Frag} {mg : Str → Option Value} {base : Heap}
theorem fn0 {x qual : Str} {st : Stmt} {f : Addr} {fd : FuncData} {N ps : List Str} {k n m : Nat} {fb : SF} (F : Fun K x qual st f fd) (S : FnScope N ps (defScope st)) (hn : N.length = n) (hm : ps.length = m)
    (body : ∀ (cdv : Value) (A : Around) (outer : List Env) (s : Shared) (H : Hp) (E : XK), Room k (A.deeper (envOfC qual (defScope st) s.heap.objs.size f cdv)) →
      PSs (cxOf CX0 P w K mg base N qual (defScope st) f cdv A outer s H E).nox (defBody st) (LS ⟨P, w, K, mg, B⟩ E0 fb)) : FnOk P w K mg base CX0 (k + 1) f fd ps (Sp0 ⟨P, w, K, mg, B⟩ m (fnF n fb)) :=
  F.ok S (fun vs H Q E h => h.1.trans hm.symm) fun cdv A outer s H vs Q E hr h => ⟨_, body cdv A outer s H E hr, fn_le hn h.2⟩
end
section
variable {X : Cx}
theorem le_call0 {k n : Nat} {f : Addr} {fd : FuncData} {ps : List Str} {fn : Fn} {x : Str} {p pos : Pos} {e : Expr} {es : List Expr} {fa : AF} (F : FnOk X.prog X.w X.K X.mg X.base CX0 k f fd ps (Sp0 (gOf B X) n fn)) (hr : Room k X.A) (hm : X.mg x = some (.ref f)) (hk : PySem.W.keepIn X.K (.ref f) = true) (hb : Binds X.K fd ps [])
    (ha : PA X (e :: es) (LA (gOf B X) E0 fa)) (hla : ∀ env st ds s, fa env st = .ok ds s → ds.length = n) (hg : Gl X x := by rfl) (hdb : (x == ("__debug__" : Str)) = false := by decide) (he : starEach (e :: es) X.env = (false, eval e X.env) :: starEach es X.env := by rfl) (hpl : (backTo pos (starEach es X.env)).any (·.1) = false := by rfl) :
    PE X (.Call (.Name x p) (e :: es) [] pos) (LE (gOf B X) E0 (callF fn fa)) :=
  (pe_call F hr hg hm hk hb .nil pass0 ha hdb he hpl).imp fun sg H Q w => by
    obtain ⟨q, env, st, rs, re, p⟩ := w
    have p := R.post_bind.mp p
    have p' : (fa env st).post (fun ds s => ds.length = n ∧ (fn ds s).post (KV (gOf B X) q H Q) (KX (gOf B X) q H E0)) (KX (gOf B X) q H E0) := by
      cases hfa : fa env st with
      | ok ds s => rw [hfa] at p; exact ⟨hla _ _ _ _ hfa, p⟩
      | ex c s => rw [hfa] at p; exact p
      | bad => rw [hfa] at p; exact p
    refine LA.chain rs re p' fun xs s1 q1 vs H1 p e1 rs1 re1 rx => ?_
    rw [List.append_nil]
    exact ⟨by rw [rx.length]; exact p.1, q1, s1, xs, rs1, rx, p.2.imp (fun _ _ h => h.ext e1) fun _ _ h => h.ext e1⟩
theorem le_call00 {k : Nat} {f : Addr} {fd : FuncData} {ps : List Str} {fn : Fn} {x : Str} {p pos : Pos} (F : FnOk X.prog X.w X.K X.mg X.base CX0 k f fd ps (Sp0 (gOf B X) 0 fn)) (hr : Room k X.A) (hm : X.mg x = some (.ref f)) (hk : PySem.W.keepIn X.K (.ref f) = true) (hb : Binds X.K fd ps [])
    (hg : Gl X x := by rfl) (hdb : (x == ("__debug__" : Str)) = false := by decide) : PE X (.Call (.Name x p) [] [] pos) (LE (gOf B X) E0 (callF fn nilA)) :=
  (pe_call0 F hr hg hm hk hb .nil pass0 hdb).imp fun sg H Q w => by
    obtain ⟨q, env, st, rs, re, p⟩ := w
    exact ⟨rfl, q, st, [], rs, .nil, p⟩
end

/-! ### the law's end -/
def spLaw (K : PySem.W.Frag) : Sp := fun vs H Q _ => ∃ (a : Addr) (ns : List Int), vs = [.ref a] ∧ SqL K H a (ns.map V.int) ∧ ns.length ≤ 63 ∧ Only H ∧ ∀ H', Q (.bl true) H'
theorem law_end {g : G} {f : Fn} (hB : g.B.T = []) (h : ∀ ns : List Int, ns.length ≤ 63 → ∃ st, f [.ref 0] [.rl (ns.map D.int)] = .ok (.bl true) st) : ∀ vs H Q E, spLaw g.K vs H Q E → Sp0 g 1 f vs H Q E := by
  intro vs H Q E ⟨a, ns, hv, hS, hl, hO, k⟩
  subst hv
  obtain ⟨st, h⟩ := h ns hl
  have ro : RoL g.K H a (ns.map V.int) := by
    rcases hS with (hS | ⟨ob, hS⟩) | hS
    · rcases hO a with z | ⟨o, xs, z⟩
      · rw [hS] at z; cases z
      · rw [hS] at z; cases z
    · exact .inl ⟨ob, hS⟩
    · exact .inr hS
  refine ⟨rfl, [a], [.rl (ns.map D.int)], [.ref 0], ⟨rfl, fun m n b h1 h2 => ?_, fun n b o h1 h2 => ?_, ?_⟩, .cons (.ref rfl) .nil, ?_⟩
  · have l1 := (List.getElem?_eq_some_iff.mp h1).1
    have l2 := (List.getElem?_eq_some_iff.mp h2).1
    simp at l1 l2
    exact .inl (by omega)
  · have l1 := (List.getElem?_eq_some_iff.mp h1).1
    simp at l1
    subst l1
    simp at h1 h2
    subst h1 h2
    exact ⟨_, ro, RDs.ints⟩
  · intro p hp
    rw [hB] at hp
    cases hp
  · rw [h]
    intro q' v H' _ _ r
    rw [r.bl_inv]
    exact k H'
/-! .. where code objects are made -/
def spLawT (K : PySem.W.Frag) (T : List (Addr × Str)) : Sp := fun vs H Q _ => ∃ (a : Addr) (ns : List Int), vs = [.ref a] ∧ SqL K H a (ns.map V.int) ∧ ns.length ≤ 63 ∧ Tabs T H ∧ ∀ H', Q (.bl true) H'
theorem law_endT {g : G} {f : Fn} (h : ∀ (ns : List Int) (o : O), ns.length ≤ 63 → (o = .rl (ns.map D.int) ∨ o = .lst (ns.map D.int)) → ∃ st, f [.ref 0] [o] = .ok (.bl true) st) : ∀ vs H Q E, spLawT g.K g.B.T vs H Q E → Sp0 g 1 f vs H Q E := by
  intro vs H Q E ⟨a, ns, hv, hS, hl, hT, k⟩
  subst hv
  obtain ⟨o, ho, ro⟩ : ∃ o : O, (o = .rl (ns.map D.int) ∨ o = .lst (ns.map D.int)) ∧ RO g [a] H a o := by
    rcases hS with (hS | ⟨ob, hS⟩) | hS
    · exact ⟨_, .inr rfl, _, hS, RDs.ints⟩
    · exact ⟨_, .inl rfl, _, .inl ⟨ob, hS⟩, RDs.ints⟩
    · exact ⟨_, .inl rfl, _, .inr hS, RDs.ints⟩
  obtain ⟨st, h⟩ := h ns o hl ho
  refine ⟨rfl, [a], [o], [.ref 0], ⟨rfl, fun m n b h1 h2 => ?_, fun n b x h1 h2 => ?_, hT⟩, .cons (.ref rfl) .nil, ?_⟩
  · have l1 := (List.getElem?_eq_some_iff.mp h1).1
    have l2 := (List.getElem?_eq_some_iff.mp h2).1
    simp at l1 l2
    exact .inl (by omega)
  · have l1 := (List.getElem?_eq_some_iff.mp h1).1
    simp at l1
    subst l1
    simp at h1 h2
    subst h1 h2
    exact ro
  · rw [h]
    intro q' v H' _ _ r
    rw [r.bl_inv]
    exact k H'
end VL

/-! VL5: isinstance; names of types. -/
namespace VL
open PySem PySem.Spec PyProof.Rows L2 LamX NdefX
variable {B : Tb}
/-- a datum's built-in type -/
def tyOfD (d : D) (st : Sto) : Option String := match d with
  | .non => some "NoneType"
  | .bl _ => some "bool"
  | .int _ => some "int"
  | .str _ => some "str"
  | .tup _ => some "tuple"
  | .ref n => match st[n]? with
    | some (.lst _) => some "list"
    | some (.rl _) => some "list"
    | some (.dic _) => some "dict"
    | _ => none
  | _ => none
def isiD : List D → Sto → R D
  | [d, .ty T], st => match (tyOfD d st).bind fun a => kitB a T with
    | some b => .ok (.bl b) st
    | none => .bad
  | _, _ => .bad
section
variable {X : Cx} {E : XK}
theorem le_ty {x : Str} {T : String} {pos : Pos} (hg : Gl X x) (hm : X.mg x = none) (hv : bootBuiltins x = some (.type T)) (hn : x ≠ "__name__" := by decide) (hd : (x == ("__debug__" : Str)) = false := by decide) : PE X (.Name x pos) (LE (gOf B X) E (cF (.ty T))) :=
  le_c (pe_bltn (v := .ty T) hg hm hv rfl hn hd) fun _ _ => .ty T
theorem kit_D {pins : List (Addr × Obj)} {sg : L2.St} {q : List Addr} {H : Hp} {s : Shared} {st : Sto} {x : V} {d : D} {u : Value} {a : String} (I : L2.Inv X pins sg H s) (rs : RS (gOf B X) q H st) (rx : RD (gOf B X) q H x d) (r : RelV x u) (h : tyOfD d st = some a) :
    ∃ P : Heap → Prop, PySem.W.KitX X.K u (.type a) P ∧ P s.heap ∧ u ≠ .builtin "__main__.__loader__#opaque" := by
  cases d with
  | non => rw [rx.non_inv] at r; cases h; exact kit_of I r (.base .non)
  | bl b => rw [rx.bl_inv] at r; cases h; exact kit_of I r (.base (.bl b))
  | int i => rw [rx.int_inv] at r; cases h; exact kit_of I r (.base (.int i))
  | str z => rw [rx.str_inv] at r; cases h; exact kit_of I r (.base (.str z))
  | tup ds =>
    obtain ⟨p, xs, rfl, hs, _⟩ := rx.tup_inv
    cases h
    rcases hs with (hs | ⟨ob, hs⟩) | ⟨o, its, n, hk, hc, _⟩
    · exact kit_of I r (.base (.tup hs))
    · exact kit_of I r (.fTuple hs)
    · exact kit_of I r (.kTuple hk hc)
  | ref n =>
    obtain ⟨p, rfl, qp⟩ := rx.ref_inv
    unfold tyOfD at h
    simp only at h
    split at h
    · rename_i xs e
      cases h
      obtain ⟨b, ys, qb, hb, _⟩ := rs.lstAt e
      rw [qp] at qb; cases qb
      exact kit_of I r (.base (.lst hb))
    · rename_i xs e
      cases h
      obtain ⟨b, qb, ys, hb, _⟩ := rs.get e
      rw [qp] at qb; cases qb
      rcases hb with ⟨ob, hb⟩ | ⟨o, its, n, hk, hc, _⟩
      · exact kit_of I r (.base (.frz hb))
      · exact kit_of I r (.kList hk hc)
    · rename_i kvs e
      cases h
      obtain ⟨b, qb, hb⟩ := rs.get e
      rw [qp] at qb; cases qb
      rcases hb with ⟨gs, hk, _⟩ | ⟨_, xs, hk, _⟩
      · exact kit_of I r (.base (.dK hk))
      · cases r
        obtain ⟨⟨_, o, es, ep, e, ex, _⟩, _⟩ := I.hok p _ hk
        exact ⟨_, PySem.W.kitx_dict, ⟨o, e, ex.1⟩, fun z => nomatch z⟩
    · cases h
  | _ => cases h
theorem call_isiD : CallR X (.builtin "isinstance") (LC (gOf B X) E isiD) := by
  intro pins s sg H vs us Q I r w
  obtain ⟨q, st, ds, rs, rd, p⟩ := w
  unfold isiD at p
  split at p
  · rename_i d T
    split at p
    · rename_i b e
      obtain ⟨a, h1, h2⟩ := Option.bind_eq_some_iff.mp e
      obtain ⟨x, c, rfl, rx, rc⟩ := rd.two_inv
      rw [rc.ty_inv] at r
      obtain ⟨u1, u2, rfl, r1, r2⟩ := vals2 r
      cases (show u2 = Value.type T from r2)
      obtain ⟨P, Z, hp, hx⟩ := kit_D I rs rx r1 h1
      exact PySem.W.kia_one Z I.kIn hp (kit_ty h2) hx fun tk => ⟨.bl b, H, I.tok tk, rfl, p q _ H Ext.refl rs (.bl b)⟩
    · exact False.elim p
  · exact False.elim p
end
end VL

/-! VL6: in; enumerate, reversed; t[::-1]; a def that calls itself. -/
namespace PySem
open Sem (wp)
theorem vl_enum_newT (l : Addr) (items : Array Value) (n : Nat) (dct : Option Addr) (sl : Array (Option Value)) :
    Meets (Builtin.«enumerate.__new__» ⟨[.type "enumerate", .ref l], []⟩) (fun _ R s => s.heap.get? l = some { cls := .type "tuple", dict := dct, data := .seq items n, slots := sl } ∧
      R (.ok (.ret (.ref (s.heap.push { cls := .type "tuple_iterator", data := .fields #[.ref l, .int 0 0] }).objs.size)))
        { s with heap := (s.heap.push { cls := .type "tuple_iterator", data := .fields #[.ref l, .int 0 0] }).push { cls := .type "enumerate", data := .fields #[.none, .bool false, .ref s.heap.objs.size, rawInt 0, .none, .none] } }) :=
  .of_wp fun prog w A R s h => by
    obtain ⟨hp, g, d, tk, os⟩ := s; obtain ⟨hl, h⟩ := h
    have hsub := sub_enumerate
    have hL : Heap.IsTuple (Shared.heap ⟨hp, g, d, tk, os⟩) l items := ⟨_, hl, rfl, n, rfl⟩
    wp_walk using wpAny_loadPart' hl
    refine wpAny_stack_any fun st => wpAny_pure ?_
    split
    · rename_i c _ _ _ _ _
      cases (c == Value.type "enumerate")
      · wp_walk using wpAny_loadPart' hl, wpAny_pyIter_tuple hL
        exact ⟨_, rfl, h⟩
      · wp_walk using wpAny_loadPart' hl, wpAny_pyIter_tuple hL
        exact ⟨_, rfl, h⟩
    · wp_walk using wpAny_loadPart' hl, wpAny_pyIter_tuple hL
      exact ⟨_, rfl, h⟩
section
variable {prog : Program} {w : World} {A : Around} {E : Value → Shared → Prop} {s : Shared}
theorem vl_enum_tuple {l : Addr} {items : Array Value} {Q : Value → Shared → Prop} (hL : s.heap.IsTuple l items)
    (h : ∀ h', IsEnum h' (s.heap.objs.size + 1) s.heap.objs.size 0 .none → h'.IsTupleIter s.heap.objs.size l 0 → h'.objs.size = s.heap.objs.size + 2 →
      (∀ b o, s.heap.get? b = some o → h'.get? b = some o) → Q (.ref (s.heap.objs.size + 1)) { s with heap := h' }) :
    wpAny (model prog w) A (call (.type "enumerate") [.ref l]) Q E s := by
  obtain ⟨⟨c, dct, dt, sl⟩, hl, hc, n, hd⟩ := hL
  replace hc : c = .type "tuple" := hc
  replace hd : dt = .seq items n := hd
  subst hc hd
  refine callType_new F.called_enumerate (by decide) (F.typeCall_enumerate_1 _) (F.newCall_enumerate_1 _) (fun obj => F.args_object_init_2 obj _) F.entry_enumerate_new
    (vl_enum_newT l items n dct sl) ⟨hl, ?_⟩
  have hz : (s.heap.push { cls := .type "tuple_iterator", data := .fields #[.ref l, .int 0 0] }).objs.size = s.heap.objs.size + 1 := Heap.size_push ..
  show _ ∧ _
  rw [hz]
  have he : IsEnum ((s.heap.push { cls := .type "tuple_iterator", data := .fields #[.ref l, .int 0 0] }).push
      { cls := .type "enumerate", data := .fields #[.none, .bool false, .ref s.heap.objs.size, rawInt 0, .none, .none] }) (s.heap.objs.size + 1) s.heap.objs.size 0 .none := by
    have := Heap.get?_push_size (s.heap.push { cls := .type "tuple_iterator", data := .fields #[.ref l, .int 0 0] })
      (o := { cls := .type "enumerate", data := .fields #[.none, .bool false, .ref s.heap.objs.size, rawInt 0, .none, .none] }) rfl
    rw [hz] at this; exact this
  exact ⟨⟨_, he, rfl⟩, h _ he ⟨_, Heap.get?_push_of_some _ (Heap.get?_push_size _ rfl), rfl, rfl⟩ (by rw [Heap.size_push, hz]) fun b o x => Heap.get?_push_of_some _ (Heap.get?_push_of_some _ x)⟩
end
end PySem
namespace L2
open PySem PySem.Spec PyProof.Rows
/-! ### enumerate(tuple) -/
def IteT (K : PySem.W.Frag) (a : Addr) : It :=
  ⟨fun i H => ∃ (xs : List V) (x : V), SqT K H a xs ∧ xs[i]? = some x, fun i H v H' => ∃ T x, v = .ref T ∧ H T = none ∧ H' = upd H T (.tup [.int (i : Nat), x]) ∧ ∀ xs, SqT K H a xs → xs[i]? = some x, fun i H => ∃ xs : List V, SqT K H a xs ∧ xs.length ≤ i⟩
theorem turn_enumT {P : Program} {w : World} {K : PySem.W.Frag} {elts : List Expr} {kk : Nat} {tpos : Pos} (a e it : Addr) (hai : a ≠ it) (hae : a ≠ e) :
    Turn P w K (.Tuple elts kk tpos) (IteT K a) [e, it] e (fun i h => (∃ old, IsEnum h e it ((i : Nat) : Int) old) ∧ h.IsTupleIter it a i ∧ e ≠ it) where
  mem := by simp
  obj := fun i h st b hb => by
    obtain ⟨⟨old, he⟩, ⟨o, ho, hc, hd⟩, _⟩ := st
    have e' : b = e ∨ b = it := by simpa using hb
    rcases e' with z | z
    · rw [z]; exact ⟨_, he, fun v q => nomatch q⟩
    · rw [z]; exact ⟨o, ho, fun v q => by rw [hd] at q; cases q⟩
  keep := fun i h h' st k => let ⟨⟨old, he⟩, hi, hne⟩ := st; ⟨⟨old, k e (by simp) _ he⟩, hi.at fun o q => k it (by simp) o q, hne⟩
  item := by
    intro X hP hw hK hc i pins s σ H E I hf st hg
    subst hP hw hK
    obtain ⟨⟨old, he⟩, hit, hne⟩ := st
    obtain ⟨xs, x, hq, hx⟩ := hg
    obtain ⟨its, rv, p, hz⟩ := I.tuple hq
    obtain ⟨u, hu, ru⟩ := rv.get hx
    have hel : e < s.heap.objs.size := Heap.lt_size he
    have hil : it < s.heap.objs.size := by obtain ⟨_, q, _⟩ := hit; exact Heap.lt_size q
    have D := Draws.tuple (prog := X.prog) (w := X.w) (A := X.A.in1) (show X.A.in1.handled = none from I.ok.hd hc) it a hai its.toArray
    have pt : s.heap.IsTuple a its.toArray := p
    have hlt : i < its.toArray.size := by
      have := (List.getElem?_eq_some_iff.mp hu).1
      simpa using this
    refine wpAny_pyNext_enum_itemD D he ⟨hit, pt⟩ hlt hne (by simp only [List.mem_cons, List.not_mem_nil, or_false, not_or]; exact ⟨hne, Ne.symm hae⟩) fun x2 h' tk hP ho hst hT hsz hk => ?_
    have ex : x2 = u := by
      have : its.toArray[i]? = some u := by simpa using hu
      rw [this] at hP
      exact (Option.some.inj hP).symm
    subst ex
    obtain ⟨hit', _⟩ := hst
    refine ⟨_, rfl, wpAny_letOwnedTupleGo_enum (s := { s with heap := h', toks := tk + 1 }) ho fun h'' he' sb => ?_⟩
    have hT2 : h''.get? s.heap.objs.size = some { cls := .type "tuple", data := .seq #[.int i tk, x2] } := (sb.2 _ (Nat.ne_of_gt hel)).trans hT
    have new : ObjOk X.prog X.w (upd H s.heap.objs.size (.tup [.int (i : Nat), x])) h'' s.heap.objs.size (.tup [.int (i : Nat), x]) :=
      ⟨by show 2 ≤ sizeLine; decide, [.int i tk, x2], .cons ⟨_, rfl⟩ (.cons ru .nil), ⟨_, hT2, rfl, _, rfl⟩⟩
    have I1 : Inv X pins σ (upd H s.heap.objs.size (.tup [.int (i : Nat), x])) { s with heap := h'', toks := tk + 1 } :=
      I.turnedNew (ch := [e, it]) (fun b ob hb q => (sb.2 b (fun z => hb (by simp [z]))).trans (hk b ob (fun z => hb (by simp [z])) (fun z => hb (by simp [z])) q)) hf (Nat.le_refl _) new
    refine ⟨.ref s.heap.objs.size, _, I1, rfl, ⟨_, x, rfl, I.hok.fresh (Nat.le_refl _), rfl, fun ys hy => by rw [I.tuple_inj hy hq]; exact hx⟩, ⟨⟨x2, ?_⟩, hit'.at fun o q => (sb.2 it (Ne.symm hne)).trans q, hne⟩, fun b hb => ?_⟩
    · have e1 : ((i + 1 : Nat) : Int) = (i : Int) + 1 := by omega
      rw [e1]; exact he'
    · have hb' : b < s.heap.objs.size := by
        have e' : b = e ∨ b = it := by simpa using hb
        rcases e' with z | z
        · rw [z]; exact hel
        · rw [z]; exact hil
      rw [upd_ne (Nat.ne_of_lt hb')]
      exact (hf b hb).1
  done := by
    intro X hP hw hK hc i pins s σ H E I hf st hg
    subst hP hw hK
    obtain ⟨⟨old, he⟩, hit, hne⟩ := st
    obtain ⟨xs, hq, hx⟩ := hg
    obtain ⟨its, rv, p, hz⟩ := I.tuple hq
    obtain ⟨f0, f1, f2, f3, f4, f5⟩ := hf it (by simp)
    have hl := rv.length
    have hT : s.TypeIs (.ref e) "enumerate" := ⟨_, he, rfl⟩
    unfold pyNext
    refine wpAny_bind (wpAny_attempt (wpAny_callSpecial?_slot (name := Str.ofString "__next__") hT F.slot_enumerate_next
      (wpAny_call_entry F.slot_enumerate_next hT F.entry_enumerate_next ?_ (F.args_enumerate_next_1 _))))
    show wpAny _ _ (field (.ref e) 2 >>= _) _ _ _
    refine wpAny_bind (wpAny_field he rfl (x := .ref it) rfl ?_)
    refine wpAny_bind (wpAny_nextOf_tuple_end (I.ok.hd hc) hit (show s.heap.IsTuple a its.toArray from p) (by simp; omega) fun h' x he' hx' => ?_)
    obtain ⟨o, ho, hc'⟩ := hx'
    refine wpAny_bind (wpAny_isInstance (T := "StopIteration") (b := true) ⟨o, ho, hc'⟩ isSubtype_stop ?_)
    exact wpAny_pure ⟨rfl, I.turned (t' := s.toks) (fun b o hb q => he' b o hb q) f0 f1 f3 f4 f5⟩
  self := fun A i s Q E st h => let ⟨⟨_, he⟩, _⟩ := st; wpAny_pyIter_enum he h
def iEnumA (K : PySem.W.Frag) (ta : TA) : TI := fun σ H R => ta σ H fun vs H1 => ∃ a xs, vs = [.ref a] ∧ ((SqL K H1 a xs ∧ R (Ite K a) H1) ∨ (SqT K H1 a xs ∧ R (IteT K a) H1))
theorem pi_enumA {X : Cx} {e : Expr} {ta : TA} {p pos tpos : Pos} {elts : List Expr} {kk : Nat} (hg : Gl X "enumerate") (hm : X.mg "enumerate" = none) (ha : PA X [e] ta) (hs : starEach [e] X.env = [(false, eval e X.env)] := by rfl) :
    PI X (.Tuple elts kk tpos) (.Call (.Name "enumerate" p) [e] [] pos) (iEnumA X.K ta) := by
  refine ⟨fun pins s σ H R I h => ?_⟩
  refine Call_ (ld_blt I hg hm boot_enumerate (PyProof.Rows.callWith_type1 (thn (ha.run pos pins s σ H _ I h) fun us s1 ⟨vs, H1, I1, r1, q1⟩ => ?_) hs rfl))
  obtain ⟨a, xs, ex, hq⟩ := q1
  subst ex
  cases r1 with
  | cons r rr =>
    cases rr
    cases r
    rcases hq with ⟨hq, q⟩ | ⟨hq, q⟩
    · obtain ⟨its, rv, p', hz⟩ := I1.list hq
      refine call_enumerate_list p'.isList fun h' he hit hsz hk => wpAny_pyIter_enum he ?_
      have I2 : Inv X pins σ H1 { s1 with heap := h' } := I1.kept (t' := s1.toks) hk
      refine ⟨s1.heap.objs.size + 1, [s1.heap.objs.size + 1, s1.heap.objs.size], _, _, H1, rfl, I2, turn_enum a (s1.heap.objs.size + 1) s1.heap.objs.size, ⟨⟨.none, he⟩, hit, Nat.succ_ne_self _⟩, fun b hb => ?_, q⟩
      have e' : b = s1.heap.objs.size + 1 ∨ b = s1.heap.objs.size := by simpa using hb
      have hle : s1.heap.objs.size ≤ b := by
        rcases e' with z | z
        · rw [z]; exact Nat.le_add_right _ _
        · rw [z]; exact Nat.le_refl _
      exact I1.fpOk hle (I1.hok.fresh hle)
    · obtain ⟨its, rv, p', hz⟩ := I1.tuple hq
      have pt : s1.heap.IsTuple a its.toArray := p'
      have hal : a < s1.heap.objs.size := by obtain ⟨o, ho, _⟩ := id p'; exact Heap.lt_size ho
      refine vl_enum_tuple pt fun h' he hit hsz hk => wpAny_pyIter_enum he ?_
      have I2 : Inv X pins σ H1 { s1 with heap := h' } := I1.kept (t' := s1.toks) hk
      refine ⟨s1.heap.objs.size + 1, [s1.heap.objs.size + 1, s1.heap.objs.size], _, _, H1, rfl, I2, turn_enumT a (s1.heap.objs.size + 1) s1.heap.objs.size (Nat.ne_of_lt hal) (Nat.ne_of_lt (Nat.lt_succ_of_lt hal)), ⟨⟨.none, he⟩, hit, Nat.succ_ne_self _⟩, fun b hb => ?_, q⟩
      have e' : b = s1.heap.objs.size + 1 ∨ b = s1.heap.objs.size := by simpa using hb
      have hle : s1.heap.objs.size ≤ b := by
        rcases e' with z | z
        · rw [z]; exact Nat.le_add_right _ _
        · rw [z]; exact Nat.le_refl _
      exact I1.fpOk hle (I1.hok.fresh hle)
end L2
namespace VL
open PySem PySem.Spec PyProof.Rows L2 RZ RT LamX NdefX
variable {B : Tb}
section
variable {X : Cx} {E : XK} {tg : Expr}
/-- (0, x), (1, y), .. -/
def numbered (ds : List D) : List D := (ds.zipIdx).map fun p => .tup [.int (p.2 : Nat), p.1]
theorem numbered_get {ds : List D} {i : Nat} {d : D} (h : (numbered ds)[i]? = some d) : ∃ x, ds[i]? = some x ∧ d = .tup [.int (i : Nat), x] := by
  unfold numbered at h
  rw [List.getElem?_map, List.getElem?_zipIdx] at h
  cases e : ds[i]? with
  | none => rw [e] at h; simp at h
  | some x =>
    rw [e] at h
    simp at h
    exact ⟨x, rfl, h.symm⟩
theorem numbered_len {ds : List D} : (numbered ds).length = ds.length := by simp [numbered]
theorem walks_et {g : G} {q : List Addr} {H : Hp} {a : Addr} {xs : List V} {ds : List D} {c : Chk} (hs : SqT g.K H a xs) (r : RDs g q H xs ds) : Walks g (IteT g.K a) q H (numbered ds, c) := by
  intro i q' H' st' e rs ok
  have hs' := sqT_ext e hs
  have r' := r.ext e
  refine ⟨fun hi => ⟨xs, hs', by rw [r.length]; rw [numbered_len] at hi; exact hi⟩, fun d hd => ?_⟩
  obtain ⟨x, hx, rfl⟩ := numbered_get hd
  obtain ⟨u, hu, ru⟩ := r'.get hx
  refine ⟨⟨xs, u, hs', hu⟩, fun y H2 ⟨T, z, hz, nT, h3, h4⟩ => ?_⟩
  subst hz h3
  have e1 := h4 xs hs'
  rw [hu] at e1; cases e1
  exact tup_new rs nT (.cons (.int _) (.cons ru .nil))
theorem walks_el {g : G} {q : List Addr} {H : Hp} {n : Nat} {a : Addr} {ds : List D} {c : Chk} (qa : q[n]? = some a) (hc : ∀ st', ChkOk c st' → listAt st' n = some ds) : Walks g (Ite g.K a) q H (numbered ds, c) := by
  intro i q' H' st' e rs ok
  obtain ⟨b, xs, qb, hs, r⟩ := rs.listAt (hc st' ok)
  rw [e.at qa] at qb; cases qb
  refine ⟨fun hi => ⟨xs, hs, by rw [r.length]; rw [numbered_len] at hi; exact hi⟩, fun d hd => ?_⟩
  obtain ⟨x, hx, rfl⟩ := numbered_get hd
  obtain ⟨u, hu, ru⟩ := r.get hx
  refine ⟨⟨xs, u, hs, hu⟩, fun y H2 ⟨T, z, hz, nT, h3, h4⟩ => ?_⟩
  subst hz h3
  have e1 := h4 xs hs
  rw [hu] at e1; cases e1
  exact tup_new rs nT (.cons (.int _) (.cons ru .nil))
def enumD : List D → Sto → R (List D × Chk)
  | [.tup ds], st => .ok (numbered ds, []) st
  | [.ref n], st => match listAt st n with
    | some ds => .ok (numbered ds, chkAt st n) st
    | none => .bad
  | _, _ => .bad
theorem li_enum {e : Expr} {fa : AF} (h : PI X tg e (iEnumA X.K (LA (gOf B X) E fa))) : PI X tg e (LI (gOf B X) E (itA enumD fa)) :=
  h.imp fun sg H RR w => itA_le w fun q st ds vs H rs rd p => by
    unfold enumD at p
    split at p
    · obtain ⟨v, rfl, r⟩ := rd.one_inv
      obtain ⟨a, xs, rfl, ha, ra⟩ := r.tup_inv
      exact ⟨a, xs, rfl, .inr ⟨ha, p q H _ Ext.refl rs (walks_et ha ra)⟩⟩
    · split at p
      · rename_i ds e1
        obtain ⟨v, rfl, r⟩ := rd.one_inv
        obtain ⟨a, xs, qa, ha, _⟩ := rs.listAt e1
        obtain ⟨a', rfl, qa'⟩ := r.ref_inv
        rw [qa] at qa'; cases qa'
        exact ⟨a, xs, rfl, .inl ⟨ha, p q H _ Ext.refl rs (walks_el qa fun st' ok => chkAt_list e1 ok)⟩⟩
      · exact False.elim p
    · exact False.elim p
/-! ### in -/
def flatD : D → Bool
  | .non => true
  | .bl _ => true
  | .int _ => true
  | .str _ => true
  | _ => false
def eqF : D → D → Bool
  | .non, .non => true
  | .bl a, .bl b => a == b
  | .bl a, .int b => (if a then 1 else 0) == b
  | .int a, .bl b => a == (if b then 1 else 0)
  | .int a, .int b => a == b
  | .str a, .str b => a == b
  | _, _ => false
theorem flat_of {g : G} {q : List Addr} {H : Hp} {v : V} {d : D} (r : RD g q H v d) (h : flatD d = true) : flatV v = true := by cases r <;> first | rfl | cases h
theorem eqF_of {g : G} {q : List Addr} {H : Hp} {v w : V} {d e : D} (r : RD g q H v d) (r' : RD g q H w e) (h : flatD d = true) (h' : flatD e = true) : eqV v w = eqF d e := by
  cases r <;> first | (cases h; done) | (cases r' <;> first | rfl | (cases h'; done))
theorem all_flat {g : G} {q : List Addr} {H : Hp} : ∀ {vs : List V} {ds : List D}, RDs g q H vs ds → ds.all flatD = true → vs.all flatV = true
  | _, _, .nil, _ => rfl
  | _, _, .cons r t, h => by
    rw [List.all_cons, Bool.and_eq_true] at h
    rw [List.all_cons, flat_of r h.1, all_flat t h.2]
    rfl
theorem any_eqF {g : G} {q : List Addr} {H : Hp} {v : V} {d : D} (r : RD g q H v d) (h : flatD d = true) : ∀ {vs : List V} {ds : List D}, RDs g q H vs ds → ds.all flatD = true → (vs.any fun y => eqV y v) = ds.any fun y => eqF y d
  | _, _, .nil, _ => rfl
  | _, _, .cons r' t, h' => by
    rw [List.all_cons, Bool.and_eq_true] at h'
    rw [List.any_cons, List.any_cons, eqF_of r' r h'.1 h, any_eqF r h t h'.2]
/-- x in a list or tuple of flat items -/
def inL (neg : Bool) (x : D) (ds : List D) (st : Sto) : R D := if flatD x = true ∧ ds.all flatD = true then .ok (.bl (if neg then !(ds.any fun y => eqF y x) else ds.any fun y => eqF y x)) st else .bad
def inSq (neg : Bool) : D → D → Sto → R D
  | x, .tup ds, st => inL neg x ds st
  | x, .ref n, st => match listAt st n with
    | some ds => inL neg x ds st
    | none => .bad
  | _, _, _ => .bad
theorem inL_of {g : G} {q : List Addr} {H : Hp} {Q : VK} {K' : Str → Sto → Prop} {neg : Bool} {v : V} {x : D} {p : Addr} {xs : List V} {ds : List D} {st : Sto} (rs : RS g q H st) (rx : RD g q H v x) (hs : SqL g.K H p xs ∨ SqT g.K H p xs) (r : RDs g q H xs ds) (k : (inL neg x ds st).post (KV g q H Q) K') : rIn g.K neg v (.ref p) H Q := by
  unfold inL at k
  split at k
  · rename_i h
    refine ⟨p, xs, rfl, hs, flat_of rx h.1, all_flat r h.2, ?_⟩
    unfold inV
    rw [any_eqF rx h.1 r h.2]
    exact k q _ H Ext.refl rs (.bl _)
  · exact False.elim k
theorem inSq_of {neg : Bool} {x y : V} {H : Hp} {Q : VK} (w : LR (gOf B X) E (inSq neg) x y H Q) : rIn X.K neg x y H Q := by
  obtain ⟨q, st, a, b, rs, ra, rb, p⟩ := w
  cases b with
  | tup ds =>
    obtain ⟨p', xs, rfl, hs, r⟩ := rb.tup_inv
    exact inL_of (g := gOf B X) rs ra (.inr hs) r (show (inL neg a ds st).post _ _ by cases a <;> exact p)
  | ref n =>
    have p : (match listAt st n with | some ds => inL neg a ds st | none => .bad : R D).post (KV (gOf B X) q H Q) (KX (gOf B X) q H E) := by cases a <;> exact p
    split at p
    · rename_i ds e
      obtain ⟨p', xs, qa, hs, r⟩ := rs.listAt e
      obtain ⟨p2, rfl, qb⟩ := rb.ref_inv
      rw [qa] at qb; cases qb
      exact inL_of (g := gOf B X) rs ra (.inl hs) r p
    · exact False.elim p
  | _ => cases a <;> exact False.elim p
theorem op_inD : OpR X (compareOp .In) (LR (gOf B X) E (inSq false)) := op_in_seq.imp fun _ _ _ _ w => inSq_of w
theorem op_notInD : OpR X (compareOp .NotIn) (LR (gOf B X) E (inSq true)) := op_notIn_seq.imp fun _ _ _ _ w => inSq_of w
/-! ### reversed -/
theorem walks_rl {g : G} {q : List Addr} {H : Hp} {n : Nat} {a : Addr} {ds : List D} {c : Chk} (qa : q[n]? = some a) (hc : ∀ st', ChkOk c st' → listAt st' n = some ds) : Walks g (Itv g.K a ds.length) q H (ds.reverse, c) := by
  intro i q' H' st' e rs ok
  obtain ⟨b, xs, qb, hs, r⟩ := rs.listAt (hc st' ok)
  rw [e.at qa] at qb; cases qb
  refine ⟨fun hi => by rw [List.length_reverse] at hi; exact hi, fun d hd => ?_⟩
  have hl := (List.getElem?_eq_some_iff.mp hd).1
  rw [List.length_reverse] at hl
  have hd2 : ds[ds.length - 1 - i]? = some d := by
    have hd : ds.reverse[i]? = some d := hd
    rw [List.getElem?_reverse hl] at hd
    exact hd
  obtain ⟨x, hx, rx⟩ := r.get hd2
  refine ⟨⟨hl, xs, x, hs, hx⟩, fun y H2 ⟨e2, hy⟩ => ?_⟩
  subst e2
  exact ⟨Ext.refl, rs, r.inj_get (hy xs hs) hd2⟩
theorem walks_rt {g : G} {q : List Addr} {H : Hp} {a : Addr} {xs : List V} {ds : List D} {c : Chk} (hs : SqT g.K H a xs) (r : RDs g q H xs ds) : Walks g (ItvT g.K a ds.length) q H (ds.reverse, c) := by
  intro i q' H' st' e rs ok
  have hs' := sqT_ext e hs
  have r' := r.ext e
  refine ⟨fun hi => by rw [List.length_reverse] at hi; exact hi, fun d hd => ?_⟩
  have hl := (List.getElem?_eq_some_iff.mp hd).1
  rw [List.length_reverse] at hl
  have hd2 : ds[ds.length - 1 - i]? = some d := by
    have hd : ds.reverse[i]? = some d := hd
    rw [List.getElem?_reverse hl] at hd
    exact hd
  obtain ⟨x, hx, rx⟩ := r'.get hd2
  refine ⟨⟨hl, xs, x, hs', hx⟩, fun y H2 ⟨e2, hy⟩ => ?_⟩
  subst e2
  exact ⟨Ext.refl, rs, r'.inj_get (hy xs hs') hd2⟩
def revD (d : D) (st : Sto) : R (List D × Chk) := match d with
  | .tup ds => .ok (ds.reverse, []) st
  | .ref n => match listAt st n with
    | some ds => .ok (ds.reverse, chkAt st n) st
    | none => .bad
  | _ => .bad
theorem li_rev {e : Expr} {f : EF} (h : PI X tg e (iRevA X.K (LE (gOf B X) E f))) : PI X tg e (LI (gOf B X) E (fun env st => (f env st).bind revD)) :=
  h.imp fun sg H RR w => by
    obtain ⟨q, env, st, rs, re, p⟩ := w
    refine LE.chain rs re (R.post_bind.mp p) fun d s1 q1 v H1 p e1 rs1 re1 rx => ?_
    cases d with
    | tup ds =>
      obtain ⟨a, xs, rfl, ha, ra⟩ := rx.tup_inv
      exact ⟨a, xs, rfl, .inr ⟨ha, by rw [ra.length]; exact p q1 H1 _ e1 rs1 (walks_rt ha ra)⟩⟩
    | ref n =>
      have p : (match listAt s1 n with | some ds => .ok (ds.reverse, chkAt s1 n) s1 | none => .bad : R (List D × Chk)).post _ _ := p
      split at p
      · rename_i ds e
        obtain ⟨a, xs, qa, ha, ra⟩ := rs1.listAt e
        obtain ⟨a', rfl, qa'⟩ := rx.ref_inv
        rw [qa] at qa'; cases qa'
        exact ⟨a, xs, rfl, .inl ⟨ha, by rw [ra.length]; exact p q1 H1 _ e1 rs1 (walks_rl qa fun st' ok => chkAt_list e ok)⟩⟩
      · exact False.elim p
    | _ => exact False.elim p
end
/-! ### a def that calls itself: at depth 0 nothing is told -/
theorem fn_bad {P : Program} {w : World} {K : PySem.W.Frag} {mg : Str → Option Value} {base : Heap} {k n : Nat} {f : Addr} {fd : FuncData} {ps : List Str} {g : G} (hn : ps.length = n) : FnOk P w K mg base CX0 k f fd ps (Sp0 g n fun _ _ => .bad) :=
  ⟨fun vs H Q E h => h.1.trans hn.symm, fun A outer s H args us vs Q E hr he hb hv h => by
    obtain ⟨_, q, st, ds, _, _, p⟩ := h
    exact False.elim p⟩
end VL

/-! VL7: t[::-1] of tuples and lists. -/
namespace HT
open PySem PySem.Spec PyProof.Rows
section
variable {prog : Program} {w : World} {A : Around} {E : Value → Shared → Prop} {s : Shared}
theorem vl_applied_back {sl : Addr} {vl vu vk : Value} {n : Nat} {Q : Int × Int × Nat → Shared → Prop} (hs : s.heap.IsSliceOf sl vl vu vk) (pl : IsPart vl none) (pu : IsPart vu none) (pk : IsPart vk (some (-1)))
    (h : Q ((n : Int) - 1, -1, n) s) : wpAny (model prog w) A (Builtin.Slice.sliceApplied (.ref sl) (pure (n : Int))) Q E s := by
  obtain ⟨os, hos, hcs, hds⟩ := id hs
  unfold Builtin.Slice.sliceApplied Builtin.Slice.sliceFields
  refine wpAny_bind (wpAny_bind (wpAny_field hos hds (x := vl) rfl (wpAny_bind (wpAny_field hos hds (x := vu) rfl (wpAny_bind (wpAny_field hos hds (x := vk) rfl (wpAny_pure ?_)))))))
  refine wpAny_bind (slicePart_ pk ?_)
  show wpAny _ _ (if ((-1 : Int) == 0) = true then _ else _) _ _ s
  rw [if_neg (by decide)]
  refine wpAny_bind (slicePart_ pl (wpAny_bind (slicePart_ pu (wpAny_bind (wpAny_pure ?_)))))
  show wpAny _ _ (match Builtin.Slice.sliceAdjust none none (-1) (n : Int) with | (lo, hi) => pure (lo, (-1 : Int), Builtin.Slice.slicePlaces lo hi (-1))) _ _ s
  have e : Builtin.Slice.sliceAdjust none none (-1) (n : Int) = ((n : Int) - 1, -1) := rfl
  rw [e]
  have e2 : Builtin.Slice.slicePlaces ((n : Int) - 1) (-1) (-1) = n := by
    unfold Builtin.Slice.slicePlaces
    rw [if_neg (by decide)]
    split
    · simp
    · omega
  show wpAny _ _ (pure ((n : Int) - 1, (-1 : Int), Builtin.Slice.slicePlaces ((n : Int) - 1) (-1) (-1))) _ _ s
  rw [e2]
  exact wpAny_pure h
theorem vl_pick_back (xs : Array Value) : ((List.range xs.size).filterMap fun (m : Nat) => xs[(((xs.size : Int) - 1) + (m : Int) * -1).toNat]?).toArray = xs.toList.reverse.toArray := by
  have e : (fun (m : Nat) => xs[(((xs.size : Int) - 1) + (m : Int) * -1).toNat]?) = (fun i => xs[i]?) ∘ fun m => xs.size - 1 - m := by
    funext m
    have : (((xs.size : Int) - 1) + (m : Int) * -1).toNat = xs.size - 1 - m := by omega
    show xs[(((xs.size : Int) - 1) + (m : Int) * -1).toNat]? = xs[xs.size - 1 - m]?
    rw [this]
  rw [e, ← List.filterMap_map, PySem.W.krv_range, List.filterMap_reverse]
  have := PySem.W.krv_all xs
  rw [this]
theorem getItem_tuple_back {t sl : Addr} {items : Array Value} {vl vu vk : Value} {Q : Value → Shared → Prop} (ht : IsTup s.heap t items) (hs : s.heap.IsSliceOf sl vl vu vk) (pl : IsPart vl none) (pu : IsPart vu none) (pk : IsPart vk (some (-1)))
    (h : Q (.ref s.heap.objs.size) { s with heap := s.heap.push { cls := .type "tuple", data := .seq items.toList.reverse.toArray } })
    (hsz : items.size ≤ sizeLine) : wpAny (model prog w) A (getItem (.ref t) (.ref sl)) Q E s := by
  have htake : sizeOk (.seq items.toList.reverse.toArray) := by
    show items.toList.reverse.toArray.size ≤ sizeLine
    rw [List.size_toArray, List.length_reverse, Array.length_toList]
    exact hsz
  obtain ⟨os, hos, hcs, hds⟩ := id hs
  have hTs : s.TypeIs (.ref sl) "slice" := ⟨os, hos, hcs⟩
  unfold getItem
  try with_reducible refine wpAny_holding ?_
  first | refine wpAny_bind (wpAny_pure ?_) | skip
  refine wpAny_bind (wpAny_sequenceKey ht.typeIs (by decide) ?_)
  refine wpAny_bind (wpAny_callSpecial?_slot (name := Str.ofString "__getitem__") ht.typeIs PyProof.Rows.slot_tuple_getitem
    (wpAny_call_entry PyProof.Rows.slot_tuple_getitem ht.typeIs entry_tuple_getitem ?_ (args_tuple_getitem _ _)))
  show wpAny _ _ (Builtin.Tuple.tupleItemsOf (.ref t) >>= _) _ _ s
  refine wpAny_bind (tupleItemsOf_ ht ?_)
  refine wpAny_bind (wpAny_typeOf hTs ?_)
  rw [if_pos (by decide)]
  refine wpAny_bind (vl_applied_back hs pl pu pk ?_)
  have hno : ¬ ((((items.size : Int) - 1) == 0 && (-1 : Int) == 1 && items.size == items.size) = true) := by
    intro q
    rw [Bool.and_eq_true, Bool.and_eq_true] at q
    exact absurd q.1.2 (by decide)
  show wpAny _ _ (if (((items.size : Int) - 1) == 0 && (-1 : Int) == 1 && items.size == items.size) = true then _ else _) _ _ s
  rw [if_neg hno, vl_pick_back]
  first
    | exact wpAny_bind (m := Builtin.Tuple.tupleExact _) (wpAny_newObj_type (wpAny_pure ⟨_, rfl, wpAny_pure h⟩) htake)
    | exact wpAny_bind (m := Builtin.Tuple.tupleExact _) (wpAny_newObj_type (wpAny_bind (wpAny_pure (wpAny_pure ⟨_, rfl, wpAny_pure h⟩))) htake)
    | exact wpAny_bind (wpAny_bind (m := Builtin.Tuple.tupleExact _) (wpAny_newObj_type (wpAny_pure (wpAny_pure ⟨_, rfl, wpAny_pure h⟩)) htake))
    | exact wpAny_bind (wpAny_bind (m := Builtin.Tuple.tupleExact _) (wpAny_newObj_type (wpAny_pure ⟨_, rfl, wpAny_pure h⟩) htake))
end
end HT
namespace L2
open PySem PySem.Spec PyProof.Rows
def tRevA (K : PySem.W.Frag) (te : TE) : TE := fun σ H Q => te σ H fun x H1 => ∃ a xs, x = .ref a ∧ ((SqL K H1 a xs ∧ ∀ p, H1 p = none → Q (.ref p) (upd H1 p (.lst xs.reverse))) ∨ (SqT K H1 a xs ∧ ∀ p, H1 p = none → Q (.ref p) (upd H1 p (.tup xs.reverse))))
theorem pe_revA {X : Cx} {e : Expr} {te : TE} {k : Nat} {p1 p2 p3 pos : Pos} (he : PE X e te) : PE X (.Subscript e (.Slice none none (some (.UnaryOp .USub (.Constant (.int 1) k p1) p2)) p3) pos) (tRevA X.K te) := by
  refine ⟨fun pins s σ H Q I h => ?_⟩
  refine Subscript_ (thn (he.run pins s σ H _ I h) fun v s1 ⟨x, H1, I1, r1, q1⟩ => ?_)
  obtain ⟨a, xs, ex, hx⟩ := q1
  subst ex
  cases r1
  have hst : PO X (some (.UnaryOp .USub (.Constant (.int 1) k p1) p2)) (tPart (tUn (rU fun i => .int (-i)) (tC (.int 1)))) := po_some (pe_un un_neg pe_int)
  refine wpAny_Slice (thn (po_none.run pins s1 σ H1 (fun o H2 => o = none ∧ H2 = H1) I1 ⟨rfl, rfl⟩) fun vl s2 ⟨l, H2, I2, pl, el, e2⟩ => ?_)
  subst el e2
  refine thn (po_none.run pins s2 σ H2 (fun o H3 => o = none ∧ H3 = H2) I2 ⟨rfl, rfl⟩) fun vu s3 ⟨u, H3, I3, pu, eu, e3⟩ => ?_
  subst eu e3
  refine thn (hst.run pins s3 σ H3 (fun o H4 => o = some (-1) ∧ H4 = H3) I3 ⟨1, rfl, -1, rfl, rfl, rfl⟩) fun vs s4 ⟨o, H4, I4, ps, eo, e4⟩ => ?_
  subst eo e4
  have I5 : Inv X pins σ H4 { s4 with heap := s4.heap.push { cls := .type "slice", data := .fields #[vl, vu, vs] } } := I4.kept (t' := s4.toks) fun b ob q => Heap.get?_push_of_some _ q
  rcases hx with ⟨hx, q⟩ | ⟨hx, q⟩
  · obtain ⟨its, r, ht, hz⟩ := I5.list hx
    have hlen := r.length
    show wpAny (model X.prog X.w) X.A (subscriptTail e (.Slice none none (some (.UnaryOp .USub (.Constant (.int 1) k p1) p2)) p3) (.ref a) (.ref s4.heap.objs.size)) (EP X pins σ Q) X.xe { s4 with heap := s4.heap.push { cls := .type "slice", data := .fields #[vl, vu, vs] } }
    refine tail_any (ops := [.ref a, .ref s4.heap.objs.size]) ht.isList.typeIs (PySem.slot_list_getitem.lookup) ?_ (by with_unfolding_all rfl)
    refine wpAny_getItem_list_slice ht.isList (Heap.IsSliceOf.new _ vl vu vs) pl pu ps (by decide) ?_ (by rw [List.size_toArray]; omega)
    rw [PySem.W.krv_pick]
    refine ⟨.ref _, _, I5.laid (t' := s4.toks) (o := .lst xs.reverse) (fun b ob q => Heap.get?_push_of_some _ q) (Nat.le_refl _) ?_, rfl, q _ (I5.hok.fresh (Nat.le_refl _))⟩
    exact ⟨by rw [List.length_reverse]; exact hz, _, 0, r.reverse, Heap.get?_push_size _ rfl⟩
  · obtain ⟨its, r, ht, hz⟩ := I5.tuple hx
    have hlen := r.length
    show wpAny (model X.prog X.w) X.A (subscriptTail e (.Slice none none (some (.UnaryOp .USub (.Constant (.int 1) k p1) p2)) p3) (.ref a) (.ref s4.heap.objs.size)) (EP X pins σ Q) X.xe { s4 with heap := s4.heap.push { cls := .type "slice", data := .fields #[vl, vu, vs] } }
    refine tail_any (ops := [.ref a, .ref s4.heap.objs.size]) ht.typeIs (PyProof.Rows.slot_tuple_getitem.lookup) ?_ (by with_unfolding_all rfl)
    refine HT.getItem_tuple_back ht (Heap.IsSliceOf.new _ vl vu vs) pl pu ps ?_ (by rw [List.size_toArray]; omega)
    refine ⟨.ref _, _, I5.laid (t' := s4.toks) (o := .tup xs.reverse) (fun b ob q => Heap.get?_push_of_some _ q) (Nat.le_refl _) ?_, rfl, q _ (I5.hok.fresh (Nat.le_refl _))⟩
    exact ⟨by rw [List.length_reverse]; exact hz, _, r.reverse, IsTup.new _ _⟩
end L2
namespace VL
open PySem PySem.Spec PyProof.Rows L2 LamX NdefX
variable {B : Tb}
section
variable {X : Cx} {E : XK}
def backD (d : D) (st : Sto) : R D := match d with
  | .tup ds => .ok (.tup ds.reverse) st
  | .ref n => match listAt st n with
    | some ds => newO (.lst ds.reverse) st
    | none => .bad
  | _ => .bad
theorem le_back {e : Expr} {f : EF} {k : Nat} {p1 p2 p3 pos : Pos} (he : PE X e (LE (gOf B X) E f)) : PE X (.Subscript e (.Slice none none (some (.UnaryOp .USub (.Constant (.int 1) k p1) p2)) p3) pos) (LE (gOf B X) E (un1 backD f)) := (pe_revA he).imp fun sg H Q w => by
  obtain ⟨q, env, st, rs, re, p⟩ := w
  refine LE.chain rs re (R.post_bind.mp p) fun d s1 q1 v H1 p e1 rs1 re1 rx => ?_
  cases d with
  | tup ds =>
    obtain ⟨a, xs, rfl, ha, ra⟩ := rx.tup_inv
    refine ⟨a, xs, rfl, .inr ⟨ha, fun t ht => ?_⟩⟩
    obtain ⟨e2, rs2, r2⟩ := tup_new rs1 ht ra.reverse
    exact p _ _ _ (e1.trans e2) rs2 r2
  | ref n =>
    have p : (match listAt s1 n with | some ds => newO (.lst ds.reverse) s1 | none => .bad : R D).post _ _ := p
    split at p
    · rename_i ds e
      obtain ⟨a, xs, qa, ha, ra⟩ := rs1.listAt e
      obtain ⟨a', rfl, qa'⟩ := rx.ref_inv
      rw [qa] at qa'; cases qa'
      refine ⟨a, xs, rfl, .inl ⟨ha, fun t ht => ?_⟩⟩
      obtain ⟨e2, rs2, r2⟩ := lst_new rs1 ht ra.reverse
      exact p _ _ _ (e1.trans e2) rs2 r2
    · exact False.elim p
  | _ => exact False.elim p
end
end VL

/-! VLX: further built-ins, targets. -/
namespace VL
open PySem PySem.Spec PyProof.Rows L2 LamX NdefX
variable {B : Tb}
section
variable {X : Cx} {E : XK}
def int1D : List D → Sto → R D
  | [.int i], st => .ok (.int i) st
  | [.bl b], st => .ok (.int (if b = true then 1 else 0)) st
  | _, _ => .bad
theorem call_int1D : CallR X (.type "int") (LC (gOf B X) E int1D) := call_int1.imp fun vs H Q w => by
  obtain ⟨q, st, ds, rs, rd, p⟩ := w
  unfold int1D at p
  split at p
  · cases rd with
    | cons r t =>
      cases t
      exact .inl ⟨_, by rw [r.int_inv], p q _ H Ext.refl rs (.int _)⟩
  · cases rd with
    | cons r t =>
      cases t
      exact .inr ⟨_, by rw [r.bl_inv], p q _ H Ext.refl rs (.int _)⟩
  · exact False.elim p
/-! ### xs[i] = v -/
def setIx : D → D → D → Sto → R Unit
  | .ref n, .int i, d, st => match st[n]? with
    | some (.lst xs) => (match ixN xs.length i with
      | some j => .ok () (st.set n (.lst (xs.set j d)))
      | none => .bad)
    | _ => .bad
  | _, _, _, _ => .bad
def subG (fo fi : EF) (g : D → D → D → Sto → R Unit) : GF := fun d env st => (fo env st).bind fun o s => (fi env s).bind fun i s2 => (g o i d s2).bind fun _ s3 => .ok env s3
theorem setIx_of {x y v : V} {H : Hp} {Q : Hp → Prop} {g : G} {q : List Addr} {st : Sto} {a b d : D} {K' : Str → Sto → Prop} (rs : RS g q H st) (ra : RD g q H x a) (rb : RD g q H y b) (rd : RD g q H v d) (p : (setIx a b d st).post (fun _ st' => ∀ H', Ext q H q H' → RS g q H' st' → Q H') K') : rSetL x y v H Q := by
  cases a with
  | ref n =>
    cases b with
    | int i =>
      unfold setIx at p
      simp only at p
      split at p
      · rename_i xs hx
        split at p
        · rename_i j hj
          obtain ⟨a', rfl, qa⟩ := ra.ref_inv
          obtain ⟨a, qa', ro⟩ := rs.get hx
          rw [qa] at qa'; cases qa'
          obtain ⟨ys, hy, ry⟩ := ro
          obtain ⟨rs2, e2⟩ := lst_put (ys := ys.set j v) (es := xs.set j d) rs hx qa hy (RDs.set rd j ry)
          exact ⟨a', ys, i, j, rfl, rb.int_inv, hy, by rw [ry.length]; exact hj, p _ e2 rs2⟩
        · exact False.elim p
      · exact False.elim p
    | _ => exact False.elim p
  | _ => cases b <;> exact False.elim p
theorem lg_sub {o i : Expr} {fo fi : EF} {pos : Pos} (ho : PE X o (LE (gOf B X) E fo)) (hi : PE X i (LE (gOf B X) E fi))
    (ha : ∀ v, assign (.Subscript o i pos) X.env v = (do
      let ov ← holding [v] (eval o X.env)
      let iv ← holding [v, ov] (eval i X.env)
      standAt pos
      holding [v, ov, iv] (setItem ov iv v)
      release [v, ov, iv] []) := by intro _; rfl) : PG X (.Subscript o i pos) (LG (gOf B X) E (subG fo fi setIx)) := (pg_sub ho hi set_list ha).imp fun v sg H Q w => by
  obtain ⟨q, d, env, st, rs, re, rd, p⟩ := w
  refine LE.chain rs re (R.post_bind.mp p) fun x s1 q1 vx H1 p e1 rs1 re1 rx => ?_
  refine LE.chain rs1 re1 ((R.post_bind.mp p).imp (fun _ _ h => h) fun _ _ h => h.ext e1) fun y s2 q2 vy H2 p e2 rs2 re2 ry => ?_
  refine setIx_of rs2 (rx.ext e2) ry (rd.ext (e1.trans e2)) (K' := KX (gOf B X) q H E) ((R.post_bind.mp p).imp (fun u s3 p H3 e3 rs3 => ?_) fun _ _ h => h)
  exact p q2 H3 sg ((e1.trans e2).trans e3) rs3 (re2.ext e3)
/-- a target that takes a list apart -/
def unlG (n : Nat) (f : List D → EnvD → Sto → R EnvD) : GF := fun d env st => match d with
  | .ref k => (match listAt st k with
    | some ds => if ds.length = n then f ds env st else .bad
    | none => .bad)
  | _ => .bad
theorem lg_unl {es : List Expr} {k : Nat} {f : List D → EnvD → Sto → R EnvD} {n : Nat} {pos : Pos} (hc : X.calm = true) (h : PGs X es (LGs (gOf B X) E f))
    (hn : (assignEach es X.env).length = n := by rfl) (hst : (assignEach es X.env).findIdx? (·.1) = none := by rfl) : PG X (.Tuple es k pos) (LG (gOf B X) E (unlG n f)) := (pg_unl hc h hn hst).imp fun v sg H Q w => by
  obtain ⟨q, d, env, st, rs, re, rd, p⟩ := w
  cases d with
  | ref m =>
    obtain ⟨a, rfl, qa⟩ := rd.ref_inv
    unfold unlG at p
    simp only at p
    split at p
    · rename_i ds hd
      obtain ⟨a', xs, qa', hs, rx⟩ := rs.listAt hd
      rw [qa] at qa'; cases qa'
      split at p
      · rename_i hl
        exact ⟨a, xs, rfl, hs, by rw [rx.length]; exact hl, q, ds, env, st, rs, re, rx, p⟩
      · exact False.elim p
    · exact False.elim p
  | _ => exact False.elim p
/-! ### a list times an int -/
def repD : D → D → Sto → R D
  | .ref n, .int k, st => match st[n]? with
    | some (.lst xs) => if -(2 ^ 63) ≤ k ∧ k < 2 ^ 63 ∧ xs.length * k.toNat ≤ sizeLine then newO (.lst (List.replicate k.toNat xs).flatten) st else .bad
    | _ => .bad
  | _, _, _ => .bad
theorem RDs.rep {g : G} {q : List Addr} {H : Hp} {vs : List V} {ds : List D} (r : RDs g q H vs ds) : ∀ k : Nat, RDs g q H (List.replicate k vs).flatten (List.replicate k ds).flatten
  | 0 => .nil
  | k + 1 => by
    rw [List.replicate_succ, List.replicate_succ, List.flatten_cons, List.flatten_cons]
    exact r.append (RDs.rep r k)
theorem op_repD : OpR X (binaryOp .Mult) (LR (gOf B X) E repD) := op_rep.imp fun x y H Q w => by
  obtain ⟨q, st, a, b, rs, ra, rb, p⟩ := w
  unfold repD at p
  split at p
  · split at p
    · rename_i xs hx
      split at p
      · rename_i hk
        obtain ⟨l, rfl, qa⟩ := ra.ref_inv
        obtain ⟨l', ys, qa', hl, ry⟩ := rs.lstAt hx
        rw [qa] at qa'; cases qa'
        refine ⟨l, _, ys, rfl, rb.int_inv, hl, hk.1, hk.2.1, by rw [ry.length]; exact hk.2.2, fun u hu => ?_⟩
        obtain ⟨e2, rs2, r2⟩ := lst_new rs hu (ry.rep _)
        exact p _ _ _ e2 rs2 r2
      · exact False.elim p
    · exact False.elim p
  · exact False.elim p
/-! ### max of three -/
def max3D : List D → Sto → R D
  | [.int i, .int j, .int k], st => .ok (.int (if (if i < j then j else i) < k then k else if i < j then j else i)) st
  | _, _ => .bad
theorem call_max3D (hc : X.calm = true) : CallR X (.builtin "max") (LC (gOf B X) E max3D) := (call_max3Nu hc).imp fun vs H Q w => by
  obtain ⟨q, st, ds, rs, rd, p⟩ := w
  unfold max3D at p
  split at p
  · rename_i i j k
    obtain ⟨v, u, t, rfl, r, r', r''⟩ := rd.three_inv
    have e1 := r.int_inv
    have e2 := r'.int_inv
    have e3 := r''.int_inv
    subst e1 e2 e3
    refine ⟨_, _, _, .int (if (if i < j then j else i) < k then k else if i < j then j else i), rfl, ?_, p q _ H Ext.refl rs (.int _)⟩
    unfold nuMax3 nuMax2 nuLt nuCB
    by_cases h : i < j
    · by_cases h2 : j < k <;> simp [h, h2]
    · by_cases h2 : i < k <;> simp [h, h2]
  · exact False.elim p
/-! ### zip of three lists -/
def Itz3 (K : PySem.W.Frag) (a b c : Addr) : It :=
  ⟨fun i H => ∃ (xs ys zs : List V) (x y z : V), SqL K H a xs ∧ SqL K H b ys ∧ SqL K H c zs ∧ xs[i]? = some x ∧ ys[i]? = some y ∧ zs[i]? = some z,
    fun i H v H' => ∃ T x y z, v = .ref T ∧ H T = none ∧ H' = upd H T (.tup [x, y, z]) ∧ (∀ xs, SqL K H a xs → xs[i]? = some x) ∧ (∀ ys, SqL K H b ys → ys[i]? = some y) ∧ ∀ zs, SqL K H c zs → zs[i]? = some z,
    fun i H => ∃ xs ys zs : List V, SqL K H a xs ∧ SqL K H b ys ∧ SqL K H c zs ∧ (xs.length ≤ i ∨ ys.length ≤ i ∨ zs.length ≤ i)⟩
/-- a list's iterator that may stand behind its end -/
theorem draws_listX {prog : Program} {w : World} {A : Around} (hh : A.handled = none) (it l : Addr) (hne : l ≠ it) (items : Array Value) (n : Nat) (hn : items.size ≤ n) :
    Draws prog w A it [it, l] n (fun i v => items[i]? = some v) (fun i h => h.IsListIter it l i ∧ h.IsList l items ∧ (n = items.size ∨ n ≤ i)) where
  live := fun _ _ st => let ⟨o, ho, _⟩ := st.1; ⟨o, ho⟩
  frame := fun _ _ _ st hk => ⟨st.1.at fun o e => hk it (by simp) o e, st.2.1.at fun o e => hk l (by simp) o e, st.2.2⟩
  item := fun i s Q E hi st hQ => by
    have hs : i < items.size := by
      rcases st.2.2 with e | e
      · omega
      · omega
    refine wpAny_nextOf_list_item st.1 st.2.1 (x := items[i]) (by simp [hs]) fun h' hit' hs' => ?_
    refine hQ _ h' s.toks (by simp [hs]) ⟨hit', st.2.1.extBut hs'.extBut hne, ?_⟩ hs'
    rcases st.2.2 with e | e
    · exact .inl e
    · exact .inr (by omega)
  done := fun s Q E st hE => wpAny_nextOf_list_end hh st.1 st.2.1 (by simp; omega) hE
theorem turn_zip3 {P : Program} {w : World} {K : PySem.W.Frag} {elts : List Expr} {kk : Nat} {tpos : Pos} {a b c N : Addr} (la : a < N) (lb : b < N) (lc : c < N) :
    Turn P w K (.Tuple elts kk tpos) (Itz3 K a b c) [N + 5, N + 3, N + 4, N, N + 1, N + 2] (N + 5) (fun i h => IsZip h (N + 5) (N + 3) (N + 4) .none ∧ IsTupOf3 h (N + 3) (.ref N) (.ref (N + 1)) (.ref (N + 2)) ∧ (∃ x y z, IsTupOf3 h (N + 4) x y z) ∧ h.IsListIter N a i ∧ h.IsListIter (N + 1) b i ∧ h.IsListIter (N + 2) c i) where
  mem := by simp
  obj := fun i h st d hd => by
    obtain ⟨hz, hTI, ⟨x, y, z, hTO⟩, ⟨o1, e1, _, d1⟩, ⟨o2, e2, _, d2⟩, ⟨o3, e3, _, d3⟩⟩ := st
    have e' : d = N + 5 ∨ d = N + 3 ∨ d = N + 4 ∨ d = N ∨ d = N + 1 ∨ d = N + 2 := by simpa using hd
    rcases e' with q | q | q | q | q | q
    · rw [q]; exact ⟨_, hz, fun v q => nomatch q⟩
    · rw [q]; exact ⟨_, hTI, fun v q => nomatch q⟩
    · rw [q]; exact ⟨_, hTO, fun v q => nomatch q⟩
    · rw [q]; exact ⟨o1, e1, fun v q => by rw [d1] at q; cases q⟩
    · rw [q]; exact ⟨o2, e2, fun v q => by rw [d2] at q; cases q⟩
    · rw [q]; exact ⟨o3, e3, fun v q => by rw [d3] at q; cases q⟩
  keep := fun i h h' st k => by
    obtain ⟨hz, hTI, ⟨x, y, z, hTO⟩, h1, h2, h3⟩ := st
    exact ⟨k (N + 5) (by simp) _ hz, k (N + 3) (by simp) _ hTI, ⟨x, y, z, k (N + 4) (by simp) _ hTO⟩, h1.at fun o q => k N (by simp) o q, h2.at fun o q => k (N + 1) (by simp) o q, h3.at fun o q => k (N + 2) (by simp) o q⟩
  item := by
    intro X hP hw hK hc i pins s σ H E I hf st hg
    subst hP hw hK
    obtain ⟨hz, hTI, ⟨x0, y0, z0, hTO⟩, h1, h2, h3⟩ := st
    obtain ⟨xs, ys, zs, x, y, z, hqx, hqy, hqz, hx, hy, hzz⟩ := hg
    obtain ⟨its, rv, p, _⟩ := I.list hqx
    obtain ⟨its2, rv2, p2, _⟩ := I.list hqy
    obtain ⟨its3, rv3, p3, _⟩ := I.list hqz
    obtain ⟨u, hu, ru⟩ := rv.get hx
    obtain ⟨u2, hu2, ru2⟩ := rv2.get hy
    obtain ⟨u3, hu3, ru3⟩ := rv3.get hzz
    have hh : X.A.in1.handled = none := I.ok.hd hc
    have S := zip_sep3 (N := N) (fp1 := [a]) (fp2 := [b]) (fp3 := [c]) (fun x hx => by rw [List.mem_singleton.mp hx]; exact la) (fun x hx => by rw [List.mem_singleton.mp hx]; exact lb) (fun x hx => by rw [List.mem_singleton.mp hx]; exact lc)
    have D1 := Draws.list (prog := X.prog) (w := X.w) hh N a (Nat.ne_of_lt la) its.toArray
    have D2 := Draws.list (prog := X.prog) (w := X.w) hh (N + 1) b (show b ≠ N + 1 from Nat.ne_of_lt (Nat.lt_succ_of_lt lb)) its2.toArray
    have D3 := Draws.list (prog := X.prog) (w := X.w) hh (N + 2) c (show c ≠ N + 2 from Nat.ne_of_lt (Nat.lt_succ_of_lt (Nat.lt_succ_of_lt lc))) its3.toArray
    have g1 := (List.getElem?_eq_some_iff.mp hu).1
    have g2 := (List.getElem?_eq_some_iff.mp hu2).1
    have g3 := (List.getElem?_eq_some_iff.mp hu3).1
    have hzl : N + 5 < s.heap.objs.size := Heap.lt_size hz
    refine wpAny_pyNext_zipD3_item S D1 D2 D3 hz hTI hTO ⟨h1, p.isList⟩ ⟨h2, p2.isList⟩ ⟨h3, p3.isList⟩ (by simpa using g1) (by simpa using g2) (by simpa using g3) fun v1 v2 v3 h' tk y1 y2 y3 b1 b2 d1 d2 d3 hT hsz hk => ?_
    obtain rfl : v1 = u := by
      have : its[i]? = some v1 := by simpa using y1
      rw [hu] at this; cases this; rfl
    obtain rfl : v2 = u2 := by
      have : its2[i]? = some v2 := by simpa using y2
      rw [hu2] at this; cases this; rfl
    obtain rfl : v3 = u3 := by
      have : its3[i]? = some v3 := by simpa using y3
      rw [hu3] at this; cases this; rfl
    refine ⟨_, rfl, wpAny_letOwnedTupleGo_zip (s := { s with heap := h', toks := tk }) b1 fun h'' z'' sb => ?_⟩
    have hT2 : h''.get? s.heap.objs.size = some { cls := .type "tuple", data := .seq #[v1, v2, v3] } := (sb.2 _ (Nat.ne_of_gt hzl)).trans hT
    have new : ObjOk X.prog X.w (upd H s.heap.objs.size (.tup [x, y, z])) h'' s.heap.objs.size (.tup [x, y, z]) :=
      ⟨by show 3 ≤ sizeLine; decide, [v1, v2, v3], .cons ru (.cons ru2 (.cons ru3 .nil)), ⟨_, hT2, rfl, _, rfl⟩⟩
    have I1 : Inv X pins σ (upd H s.heap.objs.size (.tup [x, y, z])) { s with heap := h'', toks := tk } :=
      I.turnedNew (t' := tk) (ch := [N + 5, N + 3, N + 4, N, N + 1, N + 2]) (fun c o hb q => (sb.2 c (fun q' => hb (by simp [q']))).trans (hk c o (fun q' => hb (by simp [q'])) (fun q' => hb (by simp [q'])) (fun q' => hb (by simp [q'])) (fun q' => hb (by simp [q'])) (fun q' => hb (by simp [q'])) q)) hf (Nat.le_refl _) new
    have ne : ∀ {j k : Nat}, j ≠ k → (N + j : Nat) ≠ N + k := fun h e => h (Nat.add_left_cancel e)
    refine ⟨.ref s.heap.objs.size, _, I1, rfl, ⟨_, x, y, z, rfl, I.hok.fresh (Nat.le_refl _), rfl, fun l hl => by rw [I.list_inj hl hqx]; exact hx, fun l hl => by rw [I.list_inj hl hqy]; exact hy, fun l hl => by rw [I.list_inj hl hqz]; exact hzz⟩, ⟨z'', ?_, ⟨v1, v2, v3, ?_⟩, ?_, ?_, ?_⟩, fun c hcm => ?_⟩
    · exact (sb.2 _ S.TIz).trans (hk _ _ S.TIz S.TITO S.TIi1 S.TIi2 S.TIi3 hTI)
    · exact (sb.2 _ S.TOz).trans b2
    · exact d1.1.at fun o q => (sb.2 _ (Ne.symm S.zi1)).trans q
    · exact d2.1.at fun o q => (sb.2 _ (Ne.symm S.zi2)).trans q
    · exact d3.1.at fun o q => (sb.2 _ (Ne.symm S.zi3)).trans q
    · have hlt : c < s.heap.objs.size := by
        have e' : c = N + 5 ∨ c = N + 3 ∨ c = N + 4 ∨ c = N ∨ c = N + 1 ∨ c = N + 2 := by simpa using hcm
        rcases e' with q | q | q | q | q | q
        · rw [q]; exact hzl
        · rw [q]; exact Heap.lt_size hTI
        · rw [q]; exact Heap.lt_size hTO
        · rw [q]; obtain ⟨_, e1, _⟩ := h1; exact Heap.lt_size e1
        · rw [q]; obtain ⟨_, e2, _⟩ := h2; exact Heap.lt_size e2
        · rw [q]; obtain ⟨_, e3, _⟩ := h3; exact Heap.lt_size e3
      rw [upd_ne (Nat.ne_of_lt hlt)]
      exact (hf c hcm).1
  done := by
    intro X hP hw hK hc i pins s σ H E I hf st hg
    subst hP hw hK
    obtain ⟨hz, hTI, ⟨x0, y0, z0, hTO⟩, h1, h2, h3⟩ := st
    obtain ⟨xs, ys, zs, hqx, hqy, hqz, hend⟩ := hg
    obtain ⟨its, rv, p, _⟩ := I.list hqx
    obtain ⟨its2, rv2, p2, _⟩ := I.list hqy
    obtain ⟨its3, rv3, p3, _⟩ := I.list hqz
    have l1 := rv.length
    have l2 := rv2.length
    have l3 := rv3.length
    have hh : X.A.in1.handled = none := I.ok.hd hc
    have S := zip_sep3 (N := N) (fp1 := [a]) (fp2 := [b]) (fp3 := [c]) (fun x hx => by rw [List.mem_singleton.mp hx]; exact la) (fun x hx => by rw [List.mem_singleton.mp hx]; exact lb) (fun x hx => by rw [List.mem_singleton.mp hx]; exact lc)
    have D1 := draws_listX (prog := X.prog) (w := X.w) hh N a (Nat.ne_of_lt la) its.toArray (max i its.length) (by simp; omega)
    have D2 := draws_listX (prog := X.prog) (w := X.w) hh (N + 1) b (show b ≠ N + 1 from Nat.ne_of_lt (Nat.lt_succ_of_lt lb)) its2.toArray (max i its2.length) (by simp; omega)
    have D3 := draws_listX (prog := X.prog) (w := X.w) hh (N + 2) c (show c ≠ N + 2 from Nat.ne_of_lt (Nat.lt_succ_of_lt (Nat.lt_succ_of_lt lc))) its3.toArray (max i its3.length) (by simp; omega)
    exact wpAny_pyNext_zipD3_end S D1 D2 D3 hz hTI hTO ⟨h1, p.isList, by simp; omega⟩ ⟨h2, p2.isList, by simp; omega⟩ ⟨h3, p3.isList, by simp; omega⟩ (by omega) (by omega) (by omega) (by omega) fun h' tk hk => ⟨rfl, I.turnedL (t' := tk) (ch := [N + 5, N + 3, N + 4, N, N + 1, N + 2]) (fun c o hb q =>
      hk c o (fun q' => hb (by simp [q'])) (fun q' => hb (by simp [q'])) (fun q' => hb (by simp [q'])) (fun q' => hb (by simp [q'])) (fun q' => hb (by simp [q'])) q) hf⟩
  self := fun A i s Q E st h => wpAny_pyIter_zip st.1 h
def iZip3 (K : PySem.W.Frag) (ta : TA) : TI := fun σ H R => ta σ H fun vs H1 => ∃ a b c xs ys zs, vs = [.ref a, .ref b, .ref c] ∧ SqL K H1 a xs ∧ SqL K H1 b ys ∧ SqL K H1 c zs ∧ R (Itz3 K a b c) H1
theorem pi_zip3 {X : Cx} {e e2 e3 : Expr} {ta : TA} {p pos tpos : Pos} {elts : List Expr} {kk : Nat} (hg : Gl X "zip") (hm : X.mg "zip" = none) (ha : PA X [e, e2, e3] ta)
    (hs : starEach [e, e2, e3] X.env = (false, eval e X.env) :: starEach [e2, e3] X.env := by rfl) (hpl : (backTo pos (starEach [e2, e3] X.env)).any (·.1) = false := by rfl) :
    PI X (.Tuple elts kk tpos) (.Call (.Name "zip" p) [e, e2, e3] [] pos) (iZip3 X.K ta) := by
  refine ⟨fun pins s σ H R I h => ?_⟩
  refine Call_ (ld_blt I hg hm PyProof.Rows.boot_zip (PyProof.Rows.callWith_type1 (thn (ha.run pos pins s σ H _ I h) fun us s1 ⟨vs, H1, I1, r1, q1⟩ => ?_) hs hpl))
  obtain ⟨a, b, c, xs, ys, zs, ex, hqx, hqy, hqz, q⟩ := q1
  subst ex
  cases r1 with
  | cons r rr =>
    cases rr with
    | cons r' rr =>
      cases rr with
      | cons r'' rr =>
        cases rr
        cases r
        cases r'
        cases r''
        obtain ⟨its, rv, p1, _⟩ := I1.list hqx
        obtain ⟨its2, rv2, p2, _⟩ := I1.list hqy
        obtain ⟨its3, rv3, p3, _⟩ := I1.list hqz
        refine zip_begins3 (begins_list a its.toArray) (begins_list b its2.toArray) (begins_list c its3.toArray) p1.isList p2.isList p3.isList fun h' hz hTI hTO h1 h2 h3 hsz hk => wpAny_pyIter_zip hz ?_
        have I2 : Inv X pins σ H1 { s1 with heap := h' } := I1.kept (t' := s1.toks) hk
        refine ⟨s1.heap.objs.size + 5, [s1.heap.objs.size + 5, s1.heap.objs.size + 3, s1.heap.objs.size + 4, s1.heap.objs.size, s1.heap.objs.size + 1, s1.heap.objs.size + 2], _, _, H1, rfl, I2, turn_zip3 p1.lt p2.lt p3.lt, ⟨hz, hTI, ⟨_, _, _, hTO⟩, ⟨_, h1, rfl, rfl⟩, ⟨_, h2, rfl, rfl⟩, ⟨_, h3, rfl, rfl⟩⟩, fun d hcm => ?_, q⟩
        have e' : d = s1.heap.objs.size + 5 ∨ d = s1.heap.objs.size + 3 ∨ d = s1.heap.objs.size + 4 ∨ d = s1.heap.objs.size ∨ d = s1.heap.objs.size + 1 ∨ d = s1.heap.objs.size + 2 := by simpa using hcm
        have hle : s1.heap.objs.size ≤ d := by
          rcases e' with z | z | z | z | z | z
          · rw [z]; exact Nat.le_add_right _ _
          · rw [z]; exact Nat.le_add_right _ _
          · rw [z]; exact Nat.le_add_right _ _
          · rw [z]; exact Nat.le_refl _
          · rw [z]; exact Nat.le_add_right _ _
          · rw [z]; exact Nat.le_add_right _ _
        exact I1.fpOk hle (I1.hok.fresh hle)
/-- three of three walked together -/
def threes : List D → List D → List D → List D
  | x :: xs, y :: ys, z :: zs => .tup [x, y, z] :: threes xs ys zs
  | _, _, _ => []
theorem threes_len : ∀ {xs ys zs : List D}, (threes xs ys zs).length = min (min xs.length ys.length) zs.length
  | [], _, _ => by simp [threes]
  | _ :: _, [], _ => by simp [threes]
  | _ :: _, _ :: _, [] => by simp [threes]
  | x :: xs, y :: ys, z :: zs => by
    simp only [threes, List.length_cons]
    rw [threes_len]
    omega
theorem threes_get : ∀ {xs ys zs : List D} {i : Nat} {d : D}, (threes xs ys zs)[i]? = some d → ∃ x y z, xs[i]? = some x ∧ ys[i]? = some y ∧ zs[i]? = some z ∧ d = .tup [x, y, z]
  | [], _, _, i, d, h => by simp [threes] at h
  | _ :: _, [], _, i, d, h => by simp [threes] at h
  | _ :: _, _ :: _, [], i, d, h => by simp [threes] at h
  | x :: xs, y :: ys, z :: zs, 0, d, h => by
    simp [threes] at h
    exact ⟨x, y, z, rfl, rfl, rfl, h.symm⟩
  | x :: xs, y :: ys, z :: zs, i + 1, d, h => by
    simp only [threes, List.getElem?_cons_succ] at h
    obtain ⟨a, b, c, h1, h2, h3, h4⟩ := threes_get h
    exact ⟨a, b, c, by simpa using h1, by simpa using h2, by simpa using h3, h4⟩
theorem walks_z3 {g : G} {q : List Addr} {H : Hp} {m n o : Nat} {a b c : Addr} {ds es fs : List D} {ck : Chk} (qa : q[m]? = some a) (qb : q[n]? = some b) (qc : q[o]? = some c) (hc : ∀ st', ChkOk ck st' → listAt st' m = some ds ∧ listAt st' n = some es ∧ listAt st' o = some fs) : Walks g (Itz3 g.K a b c) q H (threes ds es fs, ck) := by
  intro i q' H' st' e rs ok
  obtain ⟨ha, hb, hd⟩ := hc st' ok
  obtain ⟨a', xs, qa', ha', r⟩ := rs.listAt ha
  obtain ⟨b', ys, qb', hb', r'⟩ := rs.listAt hb
  obtain ⟨c', zs, qc', hc', r''⟩ := rs.listAt hd
  rw [e.at qa] at qa'; cases qa'
  rw [e.at qb] at qb'; cases qb'
  rw [e.at qc] at qc'; cases qc'
  refine ⟨fun hi => ⟨xs, ys, zs, ha', hb', hc', ?_⟩, fun d hd => ?_⟩
  · have hi : (threes ds es fs).length ≤ i := hi
    rw [threes_len] at hi
    rw [r.length, r'.length, r''.length]
    omega
  · obtain ⟨x, y, z, h1, h2, h3, rfl⟩ := threes_get hd
    obtain ⟨u, hu, ru⟩ := r.get h1
    obtain ⟨v, hv, rv⟩ := r'.get h2
    obtain ⟨w, hw, rw'⟩ := r''.get h3
    refine ⟨⟨xs, ys, zs, u, v, w, ha', hb', hc', hu, hv, hw⟩, fun p H2 ⟨T, x1, y1, z1, hz, nT, h3, h4, h5, h6⟩ => ?_⟩
    subst hz h3
    have e1 := h4 xs ha'
    rw [hu] at e1; cases e1
    have e2 := h5 ys hb'
    rw [hv] at e2; cases e2
    have e3 := h6 zs hc'
    rw [hw] at e3; cases e3
    exact tup_new rs nT (.cons ru (.cons rv (.cons rw' .nil)))
def zip3D : List D → Sto → R (List D × Chk)
  | [.ref m, .ref n, .ref o], st => match listAt st m, listAt st n, listAt st o with
    | some ds, some es, some fs => .ok (threes ds es fs, chkAt st m ++ (chkAt st n ++ chkAt st o)) st
    | _, _, _ => .bad
  | _, _ => .bad
theorem li_zip3 {tg e : Expr} {fa : AF} (h : PI X tg e (iZip3 X.K (LA (gOf B X) E fa))) : PI X tg e (LI (gOf B X) E (itA zip3D fa)) :=
  h.imp fun sg H RR w => itA_le w fun q st ds vs H rs rd p => by
    unfold zip3D at p
    split at p
    · split at p
      · rename_i ds es fs e1 e2 e3
        obtain ⟨v, u, t, rfl, r, r', r''⟩ := rd.three_inv
        obtain ⟨a, xs, qa, ha, _⟩ := rs.listAt e1
        obtain ⟨b, ys, qb, hb, _⟩ := rs.listAt e2
        obtain ⟨c, zs, qc, hc, _⟩ := rs.listAt e3
        obtain ⟨a', rfl, qa'⟩ := r.ref_inv
        obtain ⟨b', rfl, qb'⟩ := r'.ref_inv
        obtain ⟨c', rfl, qc'⟩ := r''.ref_inv
        rw [qa] at qa'; cases qa'
        rw [qb] at qb'; cases qb'
        rw [qc] at qc'; cases qc'
        exact ⟨a, b, c, xs, ys, zs, rfl, ha, hb, hc, p q H _ Ext.refl rs (walks_z3 qa qb qc fun st' ok => ⟨chkAt_list e1 fun z hz => ok z (List.mem_append_left _ hz), chkAt_list e2 fun z hz => ok z (List.mem_append_right _ (List.mem_append_left _ hz)), chkAt_list e3 fun z hz => ok z (List.mem_append_right _ (List.mem_append_right _ hz))⟩)⟩
      · exact False.elim p
    · exact False.elim p
end
end VL

/-! VL8: closures. -/
namespace VL
open PySem PySem.Spec PyProof.Rows L2 LamX NdefX
variable {B : Tb}
/-! ### all but tables stays -/
theorem ExtN.live {H H' : Hp} (e : ExtN H H') {a : Addr} (h : Live H a) : Live H' a := let ⟨o, h1, h2⟩ := h; ⟨o, e _ _ h1 h2, h2⟩
theorem ExtN.ext {q : List Addr} {H H' : Hp} (e : ExtN H H') : Ext q H q H' := ⟨⟨[], by simp⟩, fun a xs h => by
  rcases h with h | ⟨o, h⟩
  · exact .inl ((e _ _ h fun ps z => by cases z))
  · exact .inr ⟨o, (e _ _ h fun ps z => by cases z)⟩, fun a o h _ t => e a o h t, fun a h => ExtN.live e h⟩
theorem RO.extN {g : G} {q : List Addr} {H H' : Hp} {a : Addr} {o : O} (e : ExtN H H') (r : RO g q H a o) : RO g q H' a o := by
  have x : Ext q H q H' := ExtN.ext e
  cases o with
  | lst ds => obtain ⟨xs, h, r⟩ := r; exact ⟨xs, (e _ _ h fun ps z => by cases z), r.ext x⟩
  | rl ds =>
    obtain ⟨xs, h, r⟩ := r
    refine ⟨xs, ?_, r.ext x⟩
    rcases h with ⟨ob, h⟩ | h
    · exact .inl ⟨ob, (e _ _ h fun ps z => by cases z)⟩
    · exact .inr h
  | dic kvs =>
    rcases r with ⟨gs, h, r⟩ | ⟨hz, xs, h, r⟩
    · exact .inl ⟨gs, (e _ _ h fun ps z => by cases z), Paired.mapP r fun p y z => ⟨z.1, z.2.ext x⟩⟩
    · exact .inr ⟨hz, xs, (e _ _ h fun ps z => by cases z), Paired.mapP r fun p y ⟨z1, z2, z3, v, z4, z5⟩ => ⟨z1, z2, z3.ext x, v, z4, z5.ext x⟩⟩
  | ins c fs =>
    obtain ⟨C, dx, gs, hc, h, r⟩ := r
    exact ⟨C, dx, gs, hc, (e _ _ h fun ps z => by cases z), Paired.mapP r fun p y z => ⟨z.1, z.2.ext x⟩⟩
theorem RS.extN {g : G} {q : List Addr} {H H' : Hp} {st : Sto} (e : ExtN H H') (t : Tabs g.B.T H') (r : RS g q H st) : RS g q H' st := ⟨r.len, r.nd, fun n a o h1 h2 => (r.at_ n a o h1 h2).extN e, t⟩
/-! ### pure data -/
mutual
def pd : D → Bool
  | .non => true
  | .bl _ => true
  | .int _ => true
  | .str _ => true
  | .tup xs => pds xs
  | .ref _ => false
  | .glb _ => false
  | .ty _ => false
  | .clo _ _ => false
def pds : List D → Bool
  | [] => true
  | x :: xs => pd x && pds xs
end
section
variable {g : G} {q q' : List Addr}
mutual
theorem RD.pd {H H' : Hp} (e : ∀ a xs, Rd H a (.tup xs) → Rd H' a (.tup xs)) : ∀ {v : V} {d : D}, RD g q H v d → VL.pd d = true → RD g q' H' v d
  | _, _, .non, _ => .non
  | _, _, .bl b, _ => .bl b
  | _, _, .int i, _ => .int i
  | _, _, .str x, _ => .str x
  | _, .tup ds, .tup h r, p => .tup (h.elim (fun z => .inl (e _ _ z)) .inr) (RDs.pd e r (by unfold VL.pd at p; exact p))
  | _, .ref _, _, p => by unfold VL.pd at p; cases p
  | _, .glb _, _, p => by unfold VL.pd at p; cases p
  | _, .ty _, _, p => by unfold VL.pd at p; cases p
  | _, .clo _ _, _, p => by unfold VL.pd at p; cases p
theorem RDs.pd {H H' : Hp} (e : ∀ a xs, Rd H a (.tup xs) → Rd H' a (.tup xs)) : ∀ {vs : List V} {ds : List D}, RDs g q H vs ds → pds ds = true → RDs g q' H' vs ds
  | _, _, .nil, _ => .nil
  | _, x :: xs, .cons r t, p => by
    unfold pds at p
    rw [Bool.and_eq_true] at p
    exact .cons (RD.pd e r p.1) (RDs.pd e t p.2)
end
end
/-! ### cells become known -/
section
variable {H : Hp} {cl : List (Str × Addr)} {wo : Addr → V}
def addC (H : Hp) (cl : List (Str × Addr)) (wo : Addr → V) : Hp := fun b => if b ∈ cl.map (·.2) then some (CellO b (wo b)) else H b
theorem addC_in {b : Addr} (h : b ∈ cl.map (·.2)) : addC H cl wo b = some (CellO b (wo b)) := if_pos h
theorem addC_out {b : Addr} (h : b ∉ cl.map (·.2)) : addC H cl wo b = H b := if_neg h
theorem addC_same (h : ∀ p ∈ cl, H p.2 = none) : Same H (addC H cl wo) := fun b o e => by
  by_cases hb : b ∈ cl.map (·.2)
  · obtain ⟨p, hp, rfl⟩ := List.mem_map.mp hb
    rw [h p hp] at e; cases e
  · rw [addC_out hb]; exact e
theorem addC_less (h : ∀ p ∈ cl, H p.2 = none) : less (addC H cl wo) cl = H := by
  funext b
  unfold less
  split
  · rename_i hb
    obtain ⟨p, hp, rfl⟩ := List.mem_map.mp hb
    exact (h p hp).symm
  · rename_i hb; exact addC_out hb
theorem cell_ok {P : Program} {w : World} {H : Hp} {h : Heap} {c : Addr} {x : V} {u : Value} (r : L2.RelV x u) (hc : h.IsCell c (some u)) : ObjOk P w H h c (CellO c x) := by
  obtain ⟨o, ho, hd⟩ := hc
  refine ⟨⟨u, r, o, ho, hd⟩, ⟨o, ho⟩, fun h1 h2 ⟨u, r, o, ho, hd⟩ st => ⟨u, r, o, st _ ho, hd⟩⟩
theorem addC_hok {P : Program} {w : World} {h : Heap} (ok : HOk P w H h) (hn : ∀ p ∈ cl, H p.2 = none) (hw : ∀ p ∈ cl, ∃ u, L2.RelV (wo p.2) u ∧ h.IsCell p.2 (some u)) : HOk P w (addC H cl wo) h := fun b o e => by
  have s : Same H (addC H cl wo) := addC_same hn
  by_cases hb : b ∈ cl.map (·.2)
  · rw [addC_in hb] at e
    cases e
    obtain ⟨p, hp, rfl⟩ := List.mem_map.mp hb
    obtain ⟨u, r, hc⟩ := hw p hp
    exact cell_ok r hc
  · rw [addC_out hb] at e
    exact (ok b o e).stay (fun _ _ _ q => q) (fun c q => s _ _ q) fun c xs q => s _ _ q
theorem addC_un {fs : List Addr} {H0 : Hp} {h0 h : Heap} (un : Un fs [] H0 H h0 h) (hn : ∀ p ∈ cl, H p.2 = none) (hs : ∀ p ∈ cl, h0.objs.size ≤ p.2) : Un fs [] H0 (addC H cl wo) h0 h := by
  have s : Same H (addC H cl wo) := addC_same hn
  refine ⟨un.keep, un.slot, fun b o e n x => ?_, un.there, fun b xs e => s _ _ (un.tups b xs e), fun b o u e => s _ _ (un.frzs b o u e), fun b ps e => ?_⟩
  · rw [addC_out]
    · exact un.free b o e n x
    · intro hb
      obtain ⟨p, hp, rfl⟩ := List.mem_map.mp hb
      exact absurd (Nat.lt_of_lt_of_le (Heap.lt_size e) (hs p hp)) (Nat.lt_irrefl _)
  · obtain ⟨m, z⟩ := un.tbls b ps e
    exact ⟨m, s _ _ z⟩
end
/-! ### a lambda is made -/
theorem lamO_ne {f c : Addr} {S : NFS} {e : Expr} {cl : List (Str × Addr)} (ps : Array Value) : LamO f S e cl c ≠ .tbl ps := fun z => by unfold LamO at z; cases z
section
variable {X : Cx} {pins : List (Addr × Obj)} {σ : L2.St} {H : Hp} {s : Shared}
theorem inv_lam {S : NFS} {e : Expr} {cl : List (Str × Addr)} {c : Addr} {t' : Nat} {pm ctv : Value} (I : Inv X pins σ H s) :
    Inv X pins σ (upd H s.heap.objs.size (LamO s.heap.objs.size S e cl c)) { s with heap := s.heap.push (PySem.W.kla_obj S.name S.qual S.params e S.scope cl pm c ctv), toks := t' } := by
  refine I.laid (a := s.heap.objs.size) (fun b u e => Heap.get?_push_of_some _ e) (Nat.le_refl _) ?_
  have z : (s.heap.push (PySem.W.kla_obj S.name S.qual S.params e S.scope cl pm c ctv)).get? s.heap.objs.size = some (PySem.W.kla_obj S.name S.qual S.params e S.scope cl pm c ctv) := Heap.get?_push_size _ rfl
  exact ⟨⟨_, _, pm, ctv, z⟩, ⟨_, z⟩, fun h1 h2 ⟨od, sl, p, t, z⟩ st => ⟨od, sl, p, t, st _ z⟩⟩
theorem lam_makeM {T : List (Addr × Str)} {S : NFS} {c P : Addr} {body : Expr} {pos : Pos} {E : Value → Shared → Prop} {Q : Value → Shared → Prop} (I : Inv X pins σ H s) (TB : TabB X.base X.mg c P) (hcode : X.env.code = .ref c)
    (hm : (P, S.qual) ∈ T) (hu : ∀ p ∈ T, p.1 = P → p.2 = S.qual) (hT : Tabs T H) (hq : S.qual = X.env.qual ++ "<lambda>") (hnm : S.name = "<lambda>") (hdef : defaultsOf S.params X.env = ([], [])) (hfree : ∀ y ∈ S.scope.names, y.2 = .free → ∃ c, X.env.cells.lookup y.1 = some c)
    (h : ∀ (f c' : Addr) (H1 : Hp) (s' : Shared), Inv X pins σ H1 s' → ExtN H H1 → Tabs T H1 → H f = none → H1 f = some (LamO f S body (cloFrom X.env.cells S.scope.names []) c') → H1 c' = some (CodeO c' S.qual) → Q (.ref f) s') :
    wpAny (model X.prog X.w) X.A (eval (.Lambda S.params body S.scope pos) X.env) Q E s := by
  obtain ⟨ps, hP, ht, ha⟩ := hT _ hm
  refine PySem.W.kla_eval hdef ?_
  rw [← hq, ← hnm]
  have bP : s.heap.BuiltinsAt X.mg P := TB.bm.keeps I.bk
  have hP' : s.heap.get? P = some { cls := .none, data := .fields ps } := I.hok P _ hP
  cases hc : codeAmong pos ps.toList with
  | none =>
    refine PySem.W.kla_makeFunction (mg := X.mg) (c := c) (P := P) (ps := ps) (closure_ok hfree) I.ok.glob (I.mod.glob.keeps I.bk) hcode (TB.code.keeps I.bk) hP' ht hc TB.gP bP fun c' ctv h' tk hx hge hlt hrec htb => ?_
    obtain ⟨c2, oc, vs, t, e2, hoc, hd, hv⟩ := hrec
    cases e2
    have nC : H c' = none := I.hok.fresh hge
    have I1 := inv_table (t' := tk) (more := #[rawInt pos.line, rawInt pos.col, .ref c']) (h' := h') I hP (fun b o hb e => hx b o hb e) htb hge ⟨oc, vs, t, hoc, hd, hv⟩
    have hE : ExtN H (upd (upd H P (.tbl (ps ++ #[rawInt pos.line, rawInt pos.col, .ref c']))) c' (CodeO c' S.qual)) := fun b o e n => by
      rw [upd_ne (ne_of_none e nC), upd_ne (fun z => n ps (Option.some.inj (e.symm.trans (by rw [z]; exact hP))))]
      exact e
    have eL : (ps ++ #[rawInt pos.line, rawInt pos.col, .ref c']).toList = ps.toList ++ [rawInt pos.line, rawInt pos.col, .ref c'] := by simp
    have T1 : Tabs T (upd (upd H P (.tbl (ps ++ #[rawInt pos.line, rawInt pos.col, .ref c']))) c' (CodeO c' S.qual)) := fun p hp => by
      by_cases hb : p.1 = P
      · rw [hu p hp hb, hb]
        refine ⟨_, by rw [upd_ne (ne_of_none hP nC), upd_same], by rw [eL]; exact PySem.TriplesOk_snoc _ _ _ _ ht, fun p' cv hcv => ?_⟩
        rw [eL] at hcv
        rcases among_app _ ht hcv with z | z
        · obtain ⟨c0, e1, e2⟩ := ha p' cv z
          exact ⟨c0, e1, hE _ _ e2 codeO_ne⟩
        · exact ⟨c', z, upd_same⟩
      · obtain ⟨ps', a1, a2, a3⟩ := hT p hp
        refine ⟨ps', by rw [upd_ne (ne_of_none a1 nC), upd_ne hb]; exact a1, a2, fun p' cv hcv => ?_⟩
        obtain ⟨c0, e1, e2⟩ := a3 p' cv hcv
        exact ⟨c0, e1, hE _ _ e2 codeO_ne⟩
    have nF := I1.hok.fresh (Nat.le_refl _)
    have I2 := inv_lam (S := S) (e := body) (cl := cloFrom X.env.cells S.scope.names []) (c := c') (t' := tk) (pm := (X.mg "__name__").getD .none) (ctv := ctv) I1
    refine h h'.objs.size c' _ _ I2 (fun b o e n => ?_) (T1.ext fun b o e => ?_) (I.hok.fresh (Nat.le_trans hge (Nat.le_of_lt hlt))) upd_same ?_
    · have e1 := hE b o e n
      exact (upd_ne (ne_of_none e1 nF)).trans e1
    · exact (upd_ne (ne_of_none e nF)).trans e
    · exact (upd_ne (Nat.ne_of_lt hlt)).trans upd_same
  | some cv =>
    obtain ⟨c', e, hco⟩ := ha pos cv hc
    subst e
    refine PySem.W.kla_makeFunctionHit (mg := X.mg) (c := c) (P := P) (ps := ps) (closure_ok hfree) I.ok.glob (I.mod.glob.keeps I.bk) hcode (TB.code.keeps I.bk) hP' ht hc bP fun ctv h' tk hx hsz => ?_
    have I1 : Inv X pins σ H { s with heap := h', toks := tk } := I.kept hx
    have nF : H h'.objs.size = none := I1.hok.fresh (Nat.le_refl _)
    have I2 := inv_lam (S := S) (e := body) (cl := cloFrom X.env.cells S.scope.names []) (c := c') (t' := tk) (pm := (X.mg "__name__").getD .none) (ctv := ctv) I1
    refine h h'.objs.size c' _ _ I2 (fun b o e n => ?_) (hT.ext fun b o e => ?_) nF upd_same ?_
    · exact (upd_ne (ne_of_none e nF)).trans e
    · exact (upd_ne (ne_of_none e nF)).trans e
    · exact (upd_ne (ne_of_none hco nF)).trans hco
end
end VL

/-! VL9: defs that make functions. -/
namespace VL
open PySem PySem.Spec PyProof.Rows L2 LamX NdefX
variable {B : Tb}
/-- no list, no dict, no instance -/
def Odd (d : Data) : Prop := (∀ its n, d ≠ .seq its n) ∧ (∀ es ep, d ≠ .dict es ep) ∧ d ≠ .plain
section
variable {X : Cx} {pins : List (Addr × Obj)} {σ : L2.St} {H H1 : Hp} {s : Shared} {q : List Addr} {st : Sto}
theorem ro_odd {g : G} {a : Addr} {o : O} {ob : Obj} (hK : g.K.In s.heap) (ok : HOk g.P g.w H s.heap) (r : RO g q H a o) (ha : s.heap.get? a = some ob) : ¬ Odd ob.data := by
  rintro ⟨h1, h2, h3⟩
  cases o with
  | lst ds =>
    obtain ⟨xs, h, _⟩ := r
    obtain ⟨_, its, n, _, e⟩ := ok _ _ h
    rw [ha] at e; cases e
    exact h1 _ _ rfl
  | rl ds =>
    obtain ⟨xs, h, _⟩ := r
    rcases h with ⟨o, h⟩ | ⟨o, its, n, h, _, _, hd, _⟩
    · obtain ⟨_, _, its, n, _, e⟩ := ok _ _ h
      rw [ha] at e; cases e
      exact h1 _ _ rfl
    · have e := hK _ _ h
      rw [ha] at e; cases e
      exact h1 _ _ hd
  | dic kvs =>
    rcases r with ⟨gs, h, _⟩ | ⟨_, xs, h, _⟩
    · obtain ⟨_, _, vs, _, o, es, ep, e, _, hd, _⟩ := ok _ _ h
      rw [ha] at e; cases e
      exact h2 _ _ hd
    · obtain ⟨⟨_, o, es, ep, e, _, hd, _⟩, _, _⟩ := ok _ _ h
      rw [ha] at e; cases e
      exact h2 _ _ hd
  | ins c fs =>
    obtain ⟨C, dx, gs, _, h, _⟩ := r
    obtain ⟨_, _, _, e, _⟩ := ok _ _ h
    rw [ha] at e; cases e
    exact h3 rfl
theorem notin_q {g : G} {a : Addr} {ob : Obj} (hK : g.K.In s.heap) (ok : HOk g.P g.w H s.heap) (rs : RS g q H st) (ha : s.heap.get? a = some ob) (hd : Odd ob.data) : a ∉ q := fun h => by
  obtain ⟨n, hn⟩ := List.getElem?_of_mem h
  have hl : n < st.length := by rw [← rs.len]; exact (List.getElem?_eq_some_iff.mp hn).1
  exact ro_odd hK ok (rs.at_ n a _ hn (List.getElem?_eq_getElem hl)) ha hd
end
theorem odd_func {fd : FuncData} : Odd (.func fd) := by
  refine ⟨fun _ _ h => ?_, fun _ _ h => ?_, fun h => ?_⟩ <;> cases h
theorem odd_fields {vs : Array Value} : Odd (.fields vs) := by
  refine ⟨fun _ _ h => ?_, fun _ _ h => ?_, fun h => ?_⟩ <;> cases h
theorem odd_cell {v : Option Value} : Odd (.cell v) := by
  refine ⟨fun _ _ h => ?_, fun _ _ h => ?_, fun h => ?_⟩ <;> cases h
theorem clo_at {P : Program} {w : World} {H : Hp} {h : Heap} {f c : Addr} {S : NFS} {cl : List (Str × Addr)} (ok : HOk P w H h) (e : H f = some (CloO f S cl c)) : ∃ od fd sl, h.get? f = some ⟨.type "function", od, .func fd, sl⟩ := by
  unfold CloO at e
  split at e
  · obtain ⟨od, sl, doc, pm, ctv, ho⟩ := fnO_at ok e
    exact ⟨od, _, sl, ho⟩
  · obtain ⟨⟨od, sl, pm, ctv, ho⟩, _, _⟩ := ok f _ e
    exact ⟨od, _, sl, ho⟩
theorem code_at {P : Program} {w : World} {H : Hp} {h : Heap} {c : Addr} {q : Str} (ok : HOk P w H h) (e : H c = some (CodeO c q)) : ∃ o vs, h.get? c = some o ∧ o.data = .fields vs := by
  obtain ⟨⟨oc, vs, t, h1, h2, h3⟩, _, _⟩ := ok c _ e
  exact ⟨oc, vs, h1, h2⟩
theorem cell_at {P : Program} {w : World} {H : Hp} {h : Heap} {c : Addr} {x : V} (ok : HOk P w H h) (e : H c = some (CellO c x)) : ∃ u, L2.RelV x u ∧ h.IsCell c (some u) := (ok c _ e).1
/-! ### what such a def's statements tell -/
abbrev Mk := Addr → Nat → Addr → L2.St → Hp → Prop
/-- the scope of the nested def names what it captures, and the maker has it -/
structure CapsOk (sc : Scope) (S : NFS) : Prop where
  fr : ∀ y ∈ S.scope.names, y.2 = .free → y.1 ∈ S.fr ∧ (sc.names.lookup y.1 = some .cell ∨ sc.names.lookup y.1 = some .free)
  of : ∀ y ∈ S.fr, (y, NameKind.free) ∈ S.scope.names
def capsB (sc : Scope) (S : NFS) : Bool := (S.scope.names.all fun y => !decide (y.2 = .free) || (decide (y.1 ∈ S.fr) && (decide (sc.names.lookup y.1 = some .cell) || decide (sc.names.lookup y.1 = some .free)))) && S.fr.all fun y => decide ((y, NameKind.free) ∈ S.scope.names)
theorem caps_by {sc : Scope} {S : NFS} (h : capsB sc S = true) : CapsOk sc S := by
  unfold capsB at h
  simp only [Bool.and_eq_true, Bool.or_eq_true, Bool.not_eq_true', decide_eq_true_eq, decide_eq_false_iff_not, List.all_eq_true] at h
  exact ⟨fun y hy e => (h.1 y hy).elim (fun z => absurd e z) id, h.2⟩
/-- the captured names' values -/
def Held (N fr : List Str) (sg : L2.St) (ws : List V) : Prop := ws.length = fr.length ∧ ∀ (i : Nat) (y : Str), fr[i]? = some y → ∃ (j : Nat) (w : V), N[j]? = some y ∧ sg[j]? = some (some w) ∧ ws[i]? = some w
def MP (B : Tb) (X : Cx) (pins : List (Addr × Obj)) (D : Ends) (mk : Mk) (f : Flow) (s' : Shared) : Prop := SP X pins D f s' ∨ ∃ a k S c σ' H', B.nf k = some S ∧ CapsOk X.env.scope S ∧ f = .ret (.ref a) ∧ (∃ ws, Held X.N S.fr σ' ws) ∧ Inv X pins σ' H' s' ∧ H' a = some (CloO a S (cloFrom X.env.cells S.scope.names []) c) ∧ H' c = some (CodeO c S.qual) ∧ mk a k c σ' H'
abbrev TM := Ends → Mk → L2.St → Hp → Prop
structure PM (B : Tb) (X : Cx) (sts : List Stmt) (t : TM) : Prop where
  run : ∀ (pins : List (Addr × Obj)) (s : Shared) (σ : L2.St) (H : Hp) (D : Ends) (mk : Mk), Inv X pins σ H s → t D mk σ H → wpAny (model X.prog X.w) X.A (execs sts X.env) (MP B X pins D mk) X.xe s
def KM (g : G) (N : List Str) (q : List Addr) (H : Hp) (D : Ends) (mk : Mk) : Fl → Sto → Prop := fun fl st => ∀ q' H', Ext q H q' H' → RS g q' H' st → match fl with
  | .nx e => ∀ sg, RE g q' H' sg e → D.nx sg H'
  | .rt d => (∀ v, RD g q' H' v d → D.rt v H') ∧ ∀ k caps a S c sg ws, d = .clo k caps → g.B.nf k = some S → a ∉ q' → c ∉ q' → Held N S.fr sg ws → RDs g q' H' ws caps → mk a k c sg H'
  | .bk e => ∀ sg, RE g q' H' sg e → D.bk sg H'
  | .ct e => ∀ sg, RE g q' H' sg e → D.ct sg H'
theorem KM.ext {g : G} {N : List Str} {q q' : List Addr} {H H' : Hp} {D : Ends} {mk : Mk} (e : Ext q H q' H') {c : Fl} {st : Sto} (k : KM g N q H D mk c st) : KM g N q' H' D mk c st := fun q2 H2 e2 r => k q2 H2 (e.trans e2) r
def LSm (g : G) (N : List Str) (E : XK) (f : SF) : TM := fun D mk sg H => ∃ q env st, RS g q H st ∧ RE g q H sg env ∧ (f env st).post (KM g N q H D mk) (KX g q H E)
section
variable {X : Cx} {E : XK} {N : List Str}
theorem KM.ks {g : G} {q : List Addr} {H : Hp} {D : Ends} {mk : Mk} {fl : Fl} {st : Sto} (k : KM g N q H D mk fl st) : KS g q H D fl st := fun q' H' e r => by
  have z := k q' H' e r
  cases fl with
  | rt d => exact z.1
  | nx e => exact z
  | bk e => exact z
  | ct e => exact z
theorem pm_of {sts : List Stmt} {f : SF} (h : PSs X sts (LS (gOf B X) E f)) : PM B X sts (LSm (gOf B X) N E f) := ⟨fun pins s σ H D mk I w => by
  obtain ⟨q, env, st, rs, re, p⟩ := w
  exact thn (h.run pins s σ H D I ⟨q, env, st, rs, re, p.imp (fun _ _ k => k.ks) fun _ _ h => h⟩) fun fl s' z => .inl z⟩
theorem pm_cons {st : Stmt} {r : List Stmt} {f fr : SF} (h : PS X st (LS (gOf B X) E f)) (hr : PM B X r (LSm (gOf B X) N E fr)) : PM B X (st :: r) (LSm (gOf B X) N E (seqS f fr)) := ⟨fun pins s σ H D mk I w => by
  obtain ⟨q, env, sto, rs, re, p⟩ := w
  have w2 : LS (gOf B X) E f { D with nx := fun sg H' => LSm (gOf B X) N E fr D mk sg H' } σ H := by
    refine LS.chain rs re (R.post_bind.mp p) fun fl s1 p q1 H1 e1 rs1 => ?_
    cases fl with
    | nx e => exact fun sg re1 => ⟨q1, e, s1, rs1, re1, (show (fr e s1).post _ _ from p).imp (fun _ _ h => h.ext e1) fun _ _ h => h.ext e1⟩
    | rt d => exact (p q1 H1 e1 rs1).1
    | bk e => exact p q1 H1 e1 rs1
    | ct e => exact p q1 H1 e1 rs1
  refine wpAny_execs_cons (thn (h.run pins s σ H _ I w2) fun fl s1 z => ?_)
  cases fl with
  | next =>
    obtain ⟨σ', H', I', z⟩ := z
    exact hr.run pins s1 σ' H' D mk I' z
  | ret v => exact .inl z
  | brk => exact .inl z
  | cont => exact .inl z⟩
theorem pm_if {c : Expr} {a b r : List Stmt} {pos : Pos} {t : TF} {fa fb fr : SF} (hc : PT X c (LT (gOf B X) E t)) (ha : PM B X a (LSm (gOf B X) N E fa)) (hb : PM B X b (LSm (gOf B X) N E fb)) (hr : PM B X r (LSm (gOf B X) N E fr)) : PM B X (.If c a b pos :: r) (LSm (gOf B X) N E (seqS (ifS t fa fb) fr)) := ⟨fun pins s σ H D mk I w => by
  obtain ⟨q, env, sto, rs, re, p⟩ := w
  have w2 : LT (gOf B X) E t σ H fun d H1 => if d = true then LSm (gOf B X) N E fa { D with nx := fun sg H' => LSm (gOf B X) N E fr D mk sg H' } mk σ H1 else LSm (gOf B X) N E fb { D with nx := fun sg H' => LSm (gOf B X) N E fr D mk sg H' } mk σ H1 := by
    refine LT.chain rs re (R.post_bind.mp (R.post_bind.mp p)) fun d s1 q1 H1 p e1 rs1 re1 => ?_
    have key : ∀ f : SF, (f env s1).post (fun fl s2 => (match fl with | .nx e => fr e s2 | fl => .ok fl s2 : R Fl).post (KM (gOf B X) N q H D mk) (KX (gOf B X) q H E)) (KX (gOf B X) q H E) → LSm (gOf B X) N E f { D with nx := fun sg H' => LSm (gOf B X) N E fr D mk sg H' } mk σ H1 := fun f p => by
      refine ⟨q1, env, s1, rs1, re1, p.imp (fun fl s2 p q2 H2 e2 rs2 => ?_) fun _ _ h => h.ext e1⟩
      cases fl with
      | nx e => exact fun sg re2 => ⟨q2, e, s2, rs2, re2, (show (fr e s2).post _ _ from p).imp (fun _ _ h => h.ext (e1.trans e2)) fun _ _ h => h.ext (e1.trans e2)⟩
      | rt d => exact p q2 H2 (e1.trans e2) rs2
      | bk e => exact p q2 H2 (e1.trans e2) rs2
      | ct e => exact p q2 H2 (e1.trans e2) rs2
    cases d with
    | true => rw [if_pos rfl]; exact key fa p
    | false => rw [if_neg Bool.false_ne_true]; exact key fb p
  have fin : ∀ {fl : Flow} {s1 : Shared}, MP B X pins { D with nx := fun sg H' => LSm (gOf B X) N E fr D mk sg H' } mk fl s1 → (match fl with | .next => wpAny (model X.prog X.w) X.A (execs r X.env) (MP B X pins D mk) X.xe s1 | fl => MP B X pins D mk fl s1) := fun {fl s1} z => by
    rcases z with z | z
    · cases fl with
      | next =>
        obtain ⟨σ', H', I', z⟩ := z
        exact hr.run pins s1 σ' H' D mk I' z
      | ret v => exact .inl z
      | brk => exact .inl z
      | cont => exact .inl z
    · obtain ⟨a, k, S, c, σ', H', h1, h2, rfl, h4⟩ := z
      exact .inr ⟨a, k, S, c, σ', H', h1, h2, rfl, h4⟩
  refine wpAny_execs_cons (wpAny_If (thn (hc.run pins s σ H _ I w2) fun d s1 ⟨H1, I1, z⟩ => ?_))
  cases d with
  | true =>
    rw [if_pos rfl] at z
    exact thn (ha.run pins s1 σ H1 _ mk I1 z) fun fl s2 z => fin z
  | false =>
    rw [if_neg Bool.false_ne_true] at z
    exact thn (hb.run pins s1 σ H1 _ mk I1 z) fun fl s2 z => fin z⟩
/-! ### the making -/
def capsE (env : EnvD) : List Nat → Option (List D)
  | [] => some []
  | j :: r => match env[j]? with
    | some (some d) => (capsE env r).map fun ds => d :: ds
    | _ => none
/-- return the function number k, js: where what it captures stands -/
def mkS (k : Nat) (js : List Nat) : SF := fun env st => match capsE env js with
  | some caps => .ok (.rt (.clo k caps)) st
  | none => .bad
theorem capsE_held {g : G} {q : List Addr} {H : Hp} {sg : L2.St} {env : EnvD} (re : RE g q H sg env) : ∀ {js : List Nat} {caps : List D}, capsE env js = some caps → ∃ ws : List V, RDs g q H ws caps ∧ ws.length = js.length ∧ ∀ (i : Nat) (j : Nat), js[i]? = some j → ∃ w, sg[j]? = some (some w) ∧ ws[i]? = some w
  | [], caps, h => by cases h; exact ⟨[], .nil, rfl, fun i j h => by simp at h⟩
  | j :: r, caps, h => by
    unfold capsE at h
    split at h
    · rename_i d hd
      obtain ⟨ds, h1, rfl⟩ := Option.map_eq_some_iff.mp h
      obtain ⟨ws, r1, r2, r3⟩ := capsE_held re h1
      obtain ⟨v, hv, rv⟩ := re.get hd
      refine ⟨v :: ws, .cons rv r1, by rw [List.length_cons, List.length_cons, r2], fun i j' hj => ?_⟩
      cases i with
      | zero => simp at hj; subst hj; exact ⟨v, hv, rfl⟩
      | succ i => exact r3 i j' (by simpa using hj)
    · cases h
theorem tabs_n {T : List (Addr × Str)} {H : Hp} : Tabs T H ↔ TabsN (T.map fun p => (p.1, fun _ _ => p.2)) H := by
  constructor
  · intro h p hp
    obtain ⟨p0, h0, rfl⟩ := List.mem_map.mp hp
    exact TabN.of (h p0 h0)
  · intro h p hp
    exact TabN.to (h _ (List.mem_map.mpr ⟨p, hp, rfl⟩))
/-- what a maker asks of its own code object: c, its table P -/
structure MkOk (T : List (Addr × Str)) (base : Heap) (mg : Str → Option Value) (c P : Addr) (q : Str) : Prop where
  tb : TabB base mg c P
  mem : (P, q) ∈ T
  uni : ∀ p ∈ T, p.1 = P → p.2 = q
theorem js_held {N : List Str} {js : List Nat} {fr : List Str} {sg sg' : L2.St} {ws : List V} (hj : js.map (fun j => N[j]?) = fr.map some) (hl : ws.length = js.length) (h : ∀ (i : Nat) (j : Nat), js[i]? = some j → ∃ w, sg[j]? = some (some w) ∧ ws[i]? = some w) (hs : ∀ j ∈ js, sg'[j]? = sg[j]?) : Held N fr sg' ws := by
  have ll : js.length = fr.length := by have := congrArg List.length hj; simpa using this
  refine ⟨hl.trans ll, fun i y hy => ?_⟩
  have hi : i < js.length := by rw [ll]; exact (List.getElem?_eq_some_iff.mp hy).1
  have e : (js.map fun j => N[j]?)[i]? = (fr.map some)[i]? := by rw [hj]
  rw [List.getElem?_map, List.getElem?_map, hy, List.getElem?_eq_getElem hi] at e
  obtain ⟨w, h1, h2⟩ := h i js[i] (List.getElem?_eq_getElem hi)
  exact ⟨js[i], w, by simpa using e, by rw [hs _ (List.getElem_mem hi)]; exact h1, h2⟩
section
variable {k i : Nat} {S : NFS} {js : List Nat} {c P : Addr} {pos p1 p2 : Pos}
theorem mk_end {pins : List (Addr × Obj)} {σ σ' : L2.St} {H H1 : Hp} {s' : Shared} {D : Ends} {mk : Mk} {f c' : Addr} (hk : B.nf k = some S) (hC : CapsOk X.env.scope S) (hj : js.map (fun j => X.N[j]?) = S.fr.map some)
    (hσ : ∀ j ∈ js, σ'[j]? = σ[j]?) (e : ExtN H H1) (T1 : Tabs B.T H1) (h1 : H1 f = some (CloO f S (cloFrom X.env.cells S.scope.names []) c')) (h2 : H1 c' = some (CodeO c' S.qual)) (I : Inv X pins σ' H1 s')
    (w : LSm (gOf B X) X.N E (mkS k js) D mk σ H) : MP B X pins D mk (.ret (.ref f)) s' := by
  obtain ⟨q, env, sto, rs, re, p⟩ := w
  unfold mkS at p
  cases hc : capsE env js with
  | none => rw [hc] at p; exact False.elim p
  | some caps =>
    rw [hc] at p
    obtain ⟨ws, r1, r2, r3⟩ := capsE_held re hc
    have rs1 : RS (gOf B X) q H1 sto := RS.extN e T1 rs
    obtain ⟨od, fd, sl, ho⟩ := clo_at I.hok h1
    obtain ⟨oc, vs, hoc, hdc⟩ := code_at I.hok h2
    refine .inr ⟨f, k, S, c', σ', H1, hk, hC, rfl, ⟨ws, js_held hj r2 r3 hσ⟩, I, h1, h2, ?_⟩
    exact (p q H1 (ExtN.ext e) rs1).2 k caps f S c' σ' ws rfl hk (notin_q (g := gOf B X) I.kIn I.hok rs1 ho odd_func) (notin_q (g := gOf B X) I.kIn I.hok rs1 hoc (by rw [hdc]; exact odd_fields)) (js_held hj r2 r3 hσ) (r1.ext (ExtN.ext e))
theorem caps_free {sc : Scope} (h : CapsOk sc S) : ∀ y ∈ S.scope.names, y.2 = .free → sc.names.lookup y.1 = some .cell ∨ sc.names.lookup y.1 = some .free := fun y hy e => (h.fr y hy e).2
/-- def x(..): ..; return x -/
theorem pm_ndef {x : Str} (M : MkOk B.T X.base X.mg c P S.qual) (hcode : X.env.code = .ref c) (hk : B.nf k = some S) (hlam : S.lam = none) (hn : S.name = x) (hq : S.qual = X.env.qual ++ x) (hC : CapsOk X.env.scope S) (hj : js.map (fun j => X.N[j]?) = S.fr.map some)
    (hd0 : S.params.defaults = []) (hk0 : S.params.kw_defaults = []) (ha : annTrees S.params none X.env = []) (hN : X.N.Nodup) (hi : X.N[i]? = some x) (hx : Loc X.env.scope x) (hf : X.fn x = true ∨ X.env.scope.names.lookup x = some .local) (hij : i ∉ js)
    (hdb : (x == ("__debug__" : Str)) = false := by decide) (hcd : (x == ("__classdict__" : Str)) = false := by decide) :
    PM B X [.FunctionDef x S.params S.body [] none [] S.scope none x pos, .Return (some (.Name x p1)) p2] (LSm (gOf B X) X.N E (mkS k js)) := ⟨fun pins s σ H D mk I w => by
  have hT : Tabs B.T H := by obtain ⟨q, env, sto, rs, re, p⟩ := w; exact rs.tabs
  have st := ps_ndefM (X := X) (T := B.T.map fun p => (p.1, fun _ _ => p.2)) (nm := fun _ _ => S.qual) (c := c) (P := P) (name := x) (params := S.params) (body := S.body) (scope := S.scope) (pos := pos) (i := i) M.tb hcode (List.mem_map.mpr ⟨(P, S.qual), M.mem, rfl⟩) hq
    (fun p hp e => by
      obtain ⟨p0, h0, rfl⟩ := List.mem_map.mp hp
      have z := M.uni p0 h0 e
      show (fun _ _ => p0.2) = fun _ _ => S.qual
      rw [z]) (caps_free hC) hd0 hk0 ha hN hi hx hf
  refine wpAny_execs_cons (thn (st.run pins s σ H { nx := fun σ1 H1 => ∃ f c', σ1 = σ.set i (some (.ref f)) ∧ ExtN H H1 ∧ Tabs B.T H1 ∧ H1 f = some (CloO f S (cloFrom X.env.cells S.scope.names []) c') ∧ H1 c' = some (CodeO c' S.qual), rt := fun _ _ => False, bk := fun _ _ => False, ct := fun _ _ => False } I ⟨tabs_n.mp hT, fun f c' H1 e _ T1 _ h1 h2 => ⟨f, c', rfl, e, tabs_n.mpr T1, ?_, ?_⟩⟩) fun fl s1 z => ?_)
  · unfold CloO
    rw [hlam]
    show H1 f = some (FnO f (S.nf _ c'))
    unfold NFS.nf
    rw [h1, hn, hq]
  · rw [hq]; exact h2
  · cases fl with
    | next =>
      obtain ⟨σ1, H1, I1, f, c', rfl, e, T1, h1, h2⟩ := z
      have hl : i < σ.length := by rw [I.len]; exact (List.getElem?_eq_some_iff.mp hi).1
      refine wpAny_execs_cons (wpAny_Return_some (thn ((pe_var (pos := p1) hi (hx.elim .inl fun z => .inr (.inl z)) hdb hcd).run pins s1 _ H1 (fun v H2 => v = .ref f ∧ H2 = H1) I1 ⟨.ref f, List.getElem?_set_self hl, rfl, rfl⟩) fun u s2 ⟨v, H2, I2, r2, e1, e2⟩ => ?_))
      subst e1 e2
      obtain rfl : u = Value.ref f := r2
      exact mk_end hk hC hj (fun j hj' => List.getElem?_set_ne (fun z => hij (by rw [z]; exact hj'))) e T1 h1 h2 I2 w
    | ret v => obtain ⟨_, _, _, _, _, z⟩ := z; exact False.elim z
    | brk => obtain ⟨_, _, _, z⟩ := z; exact False.elim z
    | cont => obtain ⟨_, _, _, z⟩ := z; exact False.elim z⟩
/-- return lambda ..: .. -/
theorem pm_lam {body : Expr} (M : MkOk B.T X.base X.mg c P S.qual) (hcode : X.env.code = .ref c) (hk : B.nf k = some S) (hlam : S.lam = some body) (hn : S.name = "<lambda>") (hq : S.qual = X.env.qual ++ "<lambda>") (hC : CapsOk X.env.scope S) (hj : js.map (fun j => X.N[j]?) = S.fr.map some)
    (hdef : defaultsOf S.params X.env = ([], [])) : PM B X [.Return (some (.Lambda S.params body S.scope p1)) p2] (LSm (gOf B X) X.N E (mkS k js)) := ⟨fun pins s σ H D mk I w => by
  have hT : Tabs B.T H := by obtain ⟨q, env, sto, rs, re, p⟩ := w; exact rs.tabs
  refine wpAny_execs_cons (wpAny_Return_some (lam_makeM I M.tb hcode M.mem M.uni hT hq hn hdef (fun y hy e => (caps_free hC y hy e).elim (fun z => I.ok.has _ (.inl z)) fun z => I.ok.has _ (.inr z)) fun f c' H1 s1 I1 e T1 _ h1 h2 => ?_))
  refine mk_end hk hC hj (fun _ _ => rfl) e T1 ?_ h2 I1 w
  unfold CloO
  rw [hlam]
  exact h1⟩
end
end
end VL

/-! VL10: the rule for a def that makes functions. -/
namespace VL
open PySem PySem.Spec PyProof.Rows L2 LamX NdefX
variable {B : Tb}
theorem MP.unwish {X : Cx} {W : Value → Shared → Prop} {pins : List (Addr × Obj)} {D : Ends} {mk : Mk} {f : Flow} {s' : Shared} (h : MP B (X.wish W) pins D mk f s') : MP B X pins D mk f s' := by
  rcases h with h | ⟨a, k, S, c, σ', H', h1, h2, h3, h4, I, h5⟩
  · exact .inl h.unwish
  · exact .inr ⟨a, k, S, c, σ', H', h1, h2, h3, h4, I.unwish, h5⟩
theorem PM.nox {X : Cx} {sts : List Stmt} {t : TM} (h : PM B X.nox sts t) : PM B X sts t := ⟨fun pins s σ H D mk I hw =>
  wpAny_mono (h.run pins s σ H D mk (I.wish _) hw) (fun _ _ q => q.unwish) fun _ _ z => False.elim z⟩
structure MkF (g : G) (N : List Str) (cl : List (Str × Addr)) (wo : Addr → V) (S : NFS) (a c : Addr) (sg : L2.St) (H' : Hp) : Prop where
  fn : H' a = some (CloO a S cl c)
  code : H' c = some (CodeO c S.qual)
  none : ∀ p ∈ cl, H' p.2 = none
  nq : ∀ q' st', RS g q' H' st' → ∀ p ∈ cl, p.2 ∉ q'
  inj : ∀ x y b, cl.lookup x = some b → cl.lookup y = some b → x = y
  has : ∀ y ∈ S.fr, ∃ b, cl.lookup y = some b
  val : ∀ y b (j : Nat) w, cl.lookup y = some b → N[j]? = some y → sg[j]? = some (some w) → wo b = w
theorem MkF.rd {g : G} {N : List Str} {cl : List (Str × Addr)} {wo : Addr → V} {S : NFS} {a c : Addr} {sg : L2.St} {H' : Hp} {q : List Addr} {st : Sto} {k : Nat} {ws : List V} {caps : List D} (F : MkF g N cl wo S a c sg H') (rs : RS g q H' st) (hk : g.B.nf k = some S) (ha : a ∉ q) (hc : c ∉ q) (hd : Held N S.fr sg ws) (r : RDs g q H' ws caps) :
    RD g q (addC H' cl wo) (.ref a) (.clo k caps) := by
  have out : ∀ {b : Addr} {o : HO}, H' b = some o → b ∉ cl.map (·.2) := fun {b o} e h => by
    obtain ⟨p, hp, rfl⟩ := List.mem_map.mp h
    rw [F.none p hp] at e; cases e
  refine .clo hk (cl := cl) (c := c) (ws := ws) ⟨?_, ha, ?_, hc, fun p hp => ⟨F.nq q st rs p hp, _, addC_in (List.mem_map.mpr ⟨p, hp, rfl⟩)⟩, F.inj, hd.1, fun i y hy => ?_⟩ (by rw [addC_less F.none]; exact r)
  · rw [addC_out (out F.fn)]; exact F.fn
  · rw [addC_out (out F.code)]; exact F.code
  · obtain ⟨b, hb⟩ := F.has y (List.mem_of_getElem? hy)
    obtain ⟨j, w, h1, h2, h3⟩ := hd.2 i y hy
    refine ⟨b, w, hb, h3, ?_⟩
    have hm : b ∈ cl.map (·.2) := List.mem_map.mpr ⟨(y, b), PySem.mem_of_lookup hb, rfl⟩
    rw [addC_in hm, F.val y b j w hb h1 h2]
open Classical in
noncomputable def woOf (N : List Str) (cl : List (Str × Addr)) (sg : L2.St) (a : Addr) : V := if h : ∃ w, ∃ (y : Str) (j : Nat), cl.lookup y = some a ∧ N[j]? = some y ∧ sg[j]? = some (some w) then h.choose else .non
theorem woOf_eq {N : List Str} {cl : List (Str × Addr)} {sg : L2.St} (nd : N.Nodup) (inj : ∀ x y b, cl.lookup x = some b → cl.lookup y = some b → x = y) {y : Str} {b : Addr} {j : Nat} {w : V} (h1 : cl.lookup y = some b) (h2 : N[j]? = some y) (h3 : sg[j]? = some (some w)) : woOf N cl sg b = w := by
  have h : ∃ w, ∃ (y : Str) (j : Nat), cl.lookup y = some b ∧ N[j]? = some y ∧ sg[j]? = some (some w) := ⟨w, y, j, h1, h2, h3⟩
  unfold woOf
  rw [dif_pos h]
  obtain ⟨y', j', e1, e2, e3⟩ := h.choose_spec
  have ey := inj _ _ _ e1 h1
  subst ey
  have ej : j' = j := by
    have l1 := (List.getElem?_eq_some_iff.mp e2).1
    exact (List.getElem?_inj l1 nd).mp (e2.trans h2.symm)
  subst ej
  rw [h3] at e3
  cases e3
  rfl
section
variable {P : Program} {w : World} {K : PySem.W.Frag} {mg : Str → Option Value} {base : Heap}
theorem fnM {x qual : Str} {st : Stmt} {f : Addr} {fd : FuncData} {N ps : List Str} {k n m : Nat} {fb : SF} {cc : Addr} (F : Fun K x qual st f fd) (S : FnScope N ps (defScope st)) (hn : N.length = n) (hm : ps.length = m) (hcc : fd.code = .ref cc)
    (body : ∀ (A : Around) (outer : List Env) (s : Shared) (H : Hp) (E : XK), Room k (A.deeper (envOfC qual (defScope st) s.heap.objs.size f (.ref cc))) →
      PM B (cxOf CX0 P w K mg base N qual (defScope st) f (.ref cc) A outer s H E).nox (defBody st) (LSm ⟨P, w, K, mg, B⟩ N E0 fb)) : FnOk P w K mg base CX0 (k + 1) f fd ps (Sp0 ⟨P, w, K, mg, B⟩ m (fnF n fb)) := by
  obtain ⟨oc, od, kV, doc, pm, an, cdv, ct, osl, rfl, lk, hcd⟩ := F.ex
  obtain rfl : cdv = .ref cc := hcc
  refine ⟨fun vs H Q E h => h.1.trans hm.symm, fun A outer s H args us vs Q E hr e0 hb r hsp => ?_⟩
  have hl : vs.length = ps.length := hsp.1.trans hm.symm
  have KX : K.In s.heap := e0.mod.kin.keeps fun b o e => (e0.bs b o e).1
  have lim : s.heap.NoLimit := e0.mod.nolimit.keeps fun b o e => (e0.bs b o e).1
  have hkind : ∀ y ∈ ps.zip us, (defScope st).names.lookup y.1 = some .local ∨ ((defScope st).names.lookup y.1 = some .cell ∧ ((cellsFrom (s.heap.objs.size + 1) (defScope st).names []).lookup y.1).isSome = true) := fun ⟨n, v⟩ hy => by
    rcases S.par n (List.of_mem_zip hy).1 with q | q
    · exact .inl q
    · exact .inr ⟨q, PySem.W.cellsFrom_some _ _ _ (.inl q)⟩
  refine codeAny_call_function hr.depth (KX _ _ lk) rfl S.co S.gen rfl (PySem.W.codeRec_of KX hcd) (hb _ _ _ _ ?_)
  refine wpAny_newFunctionEnv_cells S.kind hkind fun env he s1 y => ?_
  subst he
  refine ⟨lim.keeps y.toInCall.keep, codeAny_func ?_⟩
  have hB := (body A outer s H E (hr.deeper _)).nox
  have I : Inv (cxOf CX0 P w K mg base N qual (defScope st) f (.ref cc) A outer s H E) [] (L2.start N vs) H s1 := inv_start S hr.hd e0 hl r y
  obtain ⟨q, sto, ds, rs, rd, p⟩ := hsp.2
  have w0 : LSm ⟨P, w, K, mg, B⟩ N E0 fb { nx := fun _ H' => Q .non H', rt := Q, bk := fun _ _ => False, ct := fun _ _ => False } (fun a kk c sg H' => ∀ S cl wo, B.nf kk = some S → MkF ⟨P, w, K, mg, B⟩ N cl wo S a c sg H' → Q (.ref a) (addC H' cl wo)) (L2.start N vs) H := by
    subst hn
    refine ⟨q, startE N.length ds, sto, rs, RE.start rd _, (R.post_bind.mp p).imp (fun fl s2 p q1 H1 e1 rs1 => ?_) fun _ _ h => h⟩
    cases fl with
    | nx e => exact fun sg re => p q1 _ H1 e1 rs1 .non
    | rt d =>
      refine ⟨fun v rv => p q1 v H1 e1 rs1 rv, fun kk caps a S c sg ws hd hk ha hc hh hr S' cl wo hk' M => ?_⟩
      subst hd
      obtain rfl : S = S' := Option.some.inj (hk.symm.trans hk')
      have sm : Same H1 (addC H1 cl wo) := addC_same M.none
      exact p q1 _ _ (e1.trans (Same.ext0 sm)) (rs1.same sm) (M.rd rs1 hk ha hc hh hr)
    | bk e => exact False.elim p
    | ct e => exact False.elim p
  refine wpAny_mono (hB.run [] s1 (L2.start N vs) H _ _ I w0) (fun fl s' hs => ?_) fun e s' hs => hs
  have fin : ∀ {σ' : L2.St} {H' : Hp} {v : V} {u : Value}, Inv (cxOf CX0 P w K mg base N qual (defScope st) f (.ref cc) A outer s H E) [] σ' H' s' → L2.RelV v u → Q v H' → CE outer P w H s Q u s' :=
    fun {σ' H' v u} J rv q => ⟨v, H', J.os, J.bare, J.base, J.hok, rv, q⟩
  rcases hs with hs | ⟨a, kk, Z, c, σ', H', hk, hC, rfl, ⟨ws, hh⟩, J, h1, h2, z⟩
  · cases fl with
    | ret u =>
      obtain ⟨v, σ', H', J, rv, q⟩ := hs
      exact fin J rv q
    | next =>
      obtain ⟨σ', H', J, q⟩ := hs
      exact fin (v := V.non) (u := Value.none) J rfl q
    | brk =>
      obtain ⟨_, _, _, q⟩ := hs
      exact False.elim q
    | cont =>
      obtain ⟨_, _, _, q⟩ := hs
      exact False.elim q
  · obtain ⟨X, hX⟩ : ∃ X, X = cxOf CX0 P w K mg base N qual (defScope st) f (.ref cc) A outer s H E := ⟨_, rfl⟩
    rw [← hX] at J h1 hC hh
    have hNX : X.N = N := by rw [hX]; rfl
    have hfree : ∀ y ∈ Z.scope.names, y.2 = .free → ∃ c, X.env.cells.lookup y.1 = some c := fun y hy e => (caps_free hC y hy e).elim (fun z => J.ok.has _ (.inl z)) fun z => J.ok.has _ (.inr z)
    obtain ⟨cl, hcl⟩ : ∃ cl, cl = cloFrom X.env.cells Z.scope.names [] := ⟨_, rfl⟩
    rw [← hcl] at h1
    have inj : ∀ x y b, cl.lookup x = some b → cl.lookup y = some b → x = y := fun x y b e1 e2 => by
      rw [hcl] at e1 e2
      exact J.ok.inj x y b (clo_cm hfree e1) (clo_cm hfree e2)
    have cm : ∀ p ∈ cl, (p.1, NameKind.free) ∈ Z.scope.names ∧ X.env.cells.lookup p.1 = some p.2 := fun p hp => by
      obtain ⟨y, b⟩ := p
      rw [hcl] at hp
      rcases cloFrom_mem hp with hm | ⟨m1, m2⟩
      · cases hm
      · obtain ⟨c1, hc1⟩ := hfree _ m1 rfl
        refine ⟨m1, ?_⟩
        have hc1 : X.env.cells.lookup y = some c1 := hc1
        have e2 : b = c1 := by rw [m2, hc1] <;> rfl
        rw [e2]; exact hc1
    have none : ∀ p ∈ cl, H' p.2 = Option.none := fun p hp => J.freeC _ _ (cm p hp).2
    have val : ∀ y b (j : Nat) w, cl.lookup y = some b → N[j]? = some y → σ'[j]? = some (some w) → woOf N cl σ' b = w := fun y b j w e1 e2 e3 => woOf_eq S.nd inj e1 e2 e3
    have M : MkF ⟨P, w, K, mg, B⟩ N cl (woOf N cl σ') Z a c σ' H' := by
      refine ⟨h1, h2, none, fun q' st' rs' p hp => ?_, inj, fun y hy => ?_, val⟩
      · obtain ⟨v, o, ho, hd⟩ := J.cell _ _ (cm p hp).2
        have kin : K.In s'.heap := by have := J.kIn; rw [hX] at this; exact this
        have hok : HOk P w H' s'.heap := by have := J.hok; rw [hX] at this; exact this
        exact notin_q (g := ⟨P, w, K, mg, B⟩) kin hok rs' ho (by rw [hd]; exact odd_cell)
      · have hy' := hC.of y hy
        obtain ⟨c1, hc1⟩ := hfree _ hy' rfl
        exact ⟨c1, by rw [hcl]; exact clo_has hfree hy' hc1⟩
    have hw : ∀ p ∈ cl, ∃ u, L2.RelV (woOf N cl σ' p.2) u ∧ s'.heap.IsCell p.2 (some u) := fun p hp => by
      obtain ⟨m1, m2⟩ := cm p hp
      obtain ⟨hfr, hkd⟩ := hC.fr _ m1 rfl
      obtain ⟨i, hi⟩ := List.getElem?_of_mem hfr
      obtain ⟨j, wv, e1, e2, e3⟩ := hh.2 i _ hi
      obtain ⟨mm, hns, hloc⟩ := J.loc
      obtain ⟨u, ru, lk2⟩ := hloc j _ wv e1 e2 (hkd.elim (fun z => .inr (.inl z)) fun z => .inr (.inr z))
      have hlk : cl.lookup p.1 = some p.2 := by rw [hcl]; exact clo_has hfree m1 m2
      rw [hNX] at e1
      rw [val _ _ j wv hlk e1 e2]
      rcases lk2 with ⟨z, _⟩ | ⟨_, c2, z1, z2⟩
      · have z' : X.env.scope.names.lookup p.1 = some .local := z
        rcases hkd with hk2 | hk2 <;> rw [hk2] at z' <;> cases z'
      · rw [m2] at z1; cases z1
        exact ⟨u, ru, z2⟩
    have hcab : ∀ p ∈ cl, s.heap.objs.size ≤ p.2 := fun p hp => by
      have := J.ok.cab p.1 p.2 (by rw [hX]; rfl) (cm p hp).2
      rw [hX] at this; exact this
    have hbase : Un (frs outer) [] H H' s.heap s'.heap := by have := J.base; rw [hX] at this; exact this
    have hok : HOk P w H' s'.heap := by have := J.hok; rw [hX] at this; exact this
    have hos : s'.os = s.os := by have := J.os; rw [hX] at this; exact this
    exact ⟨.ref a, addC H' cl (woOf N cl σ'), hos, J.bare, addC_un hbase none hcab, addC_hok hok none hw, rfl, z Z cl _ hk M⟩
end
end VL

/-! VL11: the bodies of made functions; calls of them. -/
namespace VL
open PySem PySem.Spec PyProof.Rows L2 LamX NdefX
variable {B : Tb}
/-- the captured values, the arguments -/
abbrev CFn := List D → Fn
def startC (n : Nat) (caps ds : List D) : EnvD := ds.map some ++ (caps.map some ++ List.replicate (n - ds.length - caps.length) none)
def fnC (n : Nat) (f : SF) : CFn := fun caps ds st => (f (startC n caps ds) st).bind fun fl s => match fl with
  | .nx _ => .ok .non s
  | .rt d => .ok d s
  | _ => .bad
/-- a lambda's -/
def exC (n : Nat) (f : EF) : CFn := fun caps ds st => f (startC n caps ds) st
theorem RE.none_rep {g : G} {q : List Addr} {H : Hp} : ∀ k : Nat, RE g q H (List.replicate k none) (List.replicate k none)
  | 0 => .nil
  | k + 1 => .cons (fun x e => nomatch e) (RE.none_rep k)
theorem RE.startC {g : G} {q : List Addr} {H : Hp} {vs ws : List V} {ds caps : List D} (N : List Str) (r : RDs g q H vs ds) (rc : RDs g q H ws caps) : RE g q H (startF N vs (ws.map some)) (VL.startC N.length caps ds) := by
  unfold startF VL.startC
  rw [List.length_map, r.length, rc.length]
  exact Paired.app (RE.of r) (Paired.app (RE.of rc) (RE.none_rep _))
theorem less_none {H : Hp} {cl : List (Str × Addr)} {b : Addr} (h : H b = none) : less H cl b = none := by
  unfold less
  split
  · rfl
  · exact h
/-- what a made function promises, at level k: S the text, c what it computes -/
structure CloOk (g : G) (base : Heap) (k : Nat) (S : NFS) (c : CFn) : Prop where
  run : ∀ (A : Around) (outer : List Env) (s : Shared) (H : Hp) (f : Addr) (cl : List (Str × Addr)) (cd : Addr) (ws vs : List V) (us : List Value) (caps ds : List D) (d : D) (st : Sto) (Q : VK), Room k A → Env0 g.P g.w g.K g.mg base A outer s H → CloAt [] H f S cl cd ws → Tabs g.B.T H →
    RDs g [] (less H cl) ws caps → RDs g [] (less H cl) vs ds → ds.length = S.ps.length → Vals vs us → c caps ds [] = .ok d st → pd d = true → (∀ v H', ExtN H H' → Tabs g.B.T H' → RD g [] H' v d → Q v H') →
    codeAny (model g.P g.w) A (.call (.ref f) ⟨us, []⟩) (CR CX0 outer g.P g.w H s Q E0) s
section
variable {g : G} {H : Hp} {f : Addr} {S : NFS} {cl : List (Str × Addr)} {cd : Addr} {ws : List V} {h : Heap}
theorem CloAt.outF (x : CloAt [] H f S cl cd ws) (ok : HOk g.P g.w H h) : f ∉ cl.map (·.2) := fun hm => by
  obtain ⟨p, hp, e⟩ := List.mem_map.mp hm
  obtain ⟨_, w, z⟩ := x.all p hp
  obtain ⟨od, fd, sl, ho⟩ := clo_at ok x.fn
  obtain ⟨u, _, o, h1, h2⟩ := cell_at ok z
  have e : p.2 = f := e
  rw [e, ho] at h1
  cases h1
  cases h2
theorem CloAt.outC (x : CloAt [] H f S cl cd ws) (ok : HOk g.P g.w H h) : cd ∉ cl.map (·.2) := fun hm => by
  obtain ⟨p, hp, e⟩ := List.mem_map.mp hm
  obtain ⟨_, w, z⟩ := x.all p hp
  obtain ⟨oc, vs, ho, hd⟩ := code_at ok x.code
  obtain ⟨u, _, o, h1, h2⟩ := cell_at ok z
  have e : p.2 = cd := e
  rw [e, ho] at h1
  cases h1
  rw [hd] at h2
  cases h2
theorem CloAt.cells (x : CloAt [] H f S cl cd ws) (ok : HOk g.P g.w H h) : CellsAt cl S.fr (ws.map some) h (less H cl) := by
  refine ⟨by rw [List.length_map]; exact x.len, fun y a e => ?_, x.inj, fun i y e => ?_⟩
  · have hm : a ∈ cl.map (·.2) := List.mem_map.mpr ⟨(y, a), PySem.mem_of_lookup e, rfl⟩
    obtain ⟨_, w, z⟩ := x.all (y, a) (PySem.mem_of_lookup e)
    obtain ⟨u, _, hc⟩ := cell_at ok z
    exact ⟨if_pos hm, _, hc⟩
  · obtain ⟨a, w, h1, h2, h3⟩ := x.has i y e
    refine ⟨a, h1, fun v hv => ?_⟩
    rw [List.getElem?_map, h2] at hv
    cases hv
    exact cell_at ok h3
theorem less_hok (x : CloAt [] H f S cl cd ws) (ok : HOk g.P g.w H h) : HOk g.P g.w (less H cl) h := fun b o e => by
  obtain ⟨n, e⟩ := less_some.mp e
  have out : ∀ {c : Addr} {u : HO}, H c = some u → (∀ φ, u ≠ .ext φ) → c ∉ cl.map (·.2) := fun {c u} e n hm => by
    obtain ⟨p, hp, e2⟩ := List.mem_map.mp hm
    obtain ⟨_, w, z⟩ := x.all p hp
    have e2 : p.2 = c := e2
    rw [e2, e] at z
    cases z
    exact n _ rfl
  exact (ok b o e).stay (fun _ _ _ q => q) (fun c q => less_some.mpr ⟨out q fun φ z => (by cases z), q⟩) fun c xs q => less_some.mpr ⟨out q fun φ z => (by cases z), q⟩
theorem less_env0 {base : Heap} {A : Around} {outer : List Env} {s : Shared} (x : CloAt [] H f S cl cd ws) (e : Env0 g.P g.w g.K g.mg base A outer s H) : Env0 g.P g.w g.K g.mg base A outer s (less H cl) :=
  ⟨e.frames, e.mod, fun b o h => ⟨(e.bs b o h).1, less_none (e.bs b o h).2⟩, e.bsz, e.funs, fun b hb => less_none (e.frf b hb), less_hok x e.hok, e.bare⟩
theorem less_tabs {T : List (Addr × Str)} (x : CloAt [] H f S cl cd ws) (ok : HOk g.P g.w H h) (t : Tabs T H) : Tabs T (less H cl) := fun p hp => by
  obtain ⟨ps, h1, h2, h3⟩ := t p hp
  refine ⟨ps, less_some.mpr ⟨fun hm => ?_, h1⟩, h2, fun pos cv hc => ?_⟩
  · obtain ⟨q, hq, e2⟩ := List.mem_map.mp hm
    obtain ⟨_, w, z⟩ := x.all q hq
    have e2 : q.2 = p.1 := e2
    rw [e2, h1] at z
    exact cellO_ne _ (Option.some.inj z).symm
  · obtain ⟨c, e1, e2⟩ := h3 pos cv hc
    refine ⟨c, e1, less_some.mpr ⟨fun hm => ?_, e2⟩⟩
    obtain ⟨q, hq, e3⟩ := List.mem_map.mp hm
    obtain ⟨_, w, z⟩ := x.all q hq
    obtain ⟨oc, vs, ho, hd⟩ := code_at ok e2
    obtain ⟨u, _, o, h1, h2⟩ := cell_at ok z
    have e3 : q.2 = c := e3
    rw [e3, ho] at h1
    cases h1
    rw [hd] at h2
    cases h2
/-- the cells back -/
def back (H H' : Hp) (cl : List (Str × Addr)) : Hp := fun b => if b ∈ cl.map (·.2) then H b else H' b
theorem back_ce {outer : List Env} {s s' : Shared} {Q Q' : VK} {u : Value} (x : CloAt [] H f S cl cd ws) (ok : HOk g.P g.w H s.heap) (h : CE outer g.P g.w (less H cl) s Q' u s')
    (hq : ∀ v H', HOk g.P g.w H' s'.heap → Q' v H' → (∀ c ∈ cl.map (·.2), H' c = none) → Q v (back H H' cl)) : CE outer g.P g.w H s Q u s' := by
  obtain ⟨v, H', os, bare, un, hok, r, q⟩ := h
  have cellS : ∀ c ∈ cl.map (·.2), ∃ w u, H c = some (CellO c w) ∧ L2.RelV w u ∧ s.heap.IsCell c (some u) := fun c hm => by
    obtain ⟨p, hp, rfl⟩ := List.mem_map.mp hm
    obtain ⟨_, w, z⟩ := x.all p hp
    obtain ⟨u, r, hc⟩ := cell_at ok z
    exact ⟨w, u, z, r, hc⟩
  have nn : ∀ c ∈ cl.map (·.2), H' c = none := fun c hm => by
    obtain ⟨w, u, _, _, o, ho, _⟩ := cellS c hm
    exact un.free c o ho (if_pos hm) (by simp)
  have out : ∀ {c : Addr} {o : HO}, H' c = some o → c ∉ cl.map (·.2) := fun {c o} e hm => by rw [nn c hm] at e; cases e
  have bo : ∀ {c : Addr}, c ∉ cl.map (·.2) → back H H' cl c = H' c := fun hn => if_neg hn
  have keep : ∀ {c : Addr} {o : HO}, H' c = some o → back H H' cl c = some o := fun e => (bo (out e)).trans e
  have lo : ∀ {c : Addr} {o : HO}, H c = some o → (∀ φ, o ≠ .ext φ) → less H cl c = some o := fun {c o} e n => less_some.mpr ⟨fun hm => by
    obtain ⟨w, u, z, _⟩ := cellS c hm
    rw [e] at z; cases z
    exact n _ rfl, e⟩
  refine ⟨v, back H H' cl, os, bare, ⟨fun b o e n hf he => ?_, fun b o e n hf he => ?_, fun b o e n he => ?_, un.there, fun b xs e => ?_, fun b o z e => ?_, fun b ps e => ?_⟩, fun b o e => ?_, r, hq v H' hok q nn⟩
  · exact un.keep b o e (less_none n) hf he
  · exact un.slot b o e (less_none n) hf he
  · have hb : b ∉ cl.map (·.2) := fun hm => by obtain ⟨w, u, z, _⟩ := cellS b hm; rw [n] at z; cases z
    rw [bo hb]
    exact un.free b o e (by unfold less; rw [if_neg hb]; exact n) he
  · exact keep (un.tups b xs (lo e fun φ z => by cases z))
  · exact keep (un.frzs b o z (lo e fun φ z => by cases z))
  · obtain ⟨m, z⟩ := un.tbls b ps (lo e fun φ z => by cases z)
    exact ⟨m, keep z⟩
  · by_cases hb : b ∈ cl.map (·.2)
    · obtain ⟨w, u, z, r, hc⟩ := cellS b hb
      have e2 : back H H' cl b = some (CellO b w) := (if_pos hb).trans z
      rw [e2] at e; cases e
      obtain ⟨ob, ho, hd⟩ := hc
      obtain ⟨sl, hs⟩ := un.any ho (if_pos hb) (by simp)
      exact cell_ok r ⟨_, hs, hd⟩
    · rw [bo hb] at e
      exact (hok b o e).stay (fun _ _ _ q => q) (fun c q => keep q) fun c xs q => keep q
end
/-- from a promise over the heap without the cells -/
theorem clo_mk {g : G} {base : Heap} {k : Nat} {S : NFS} {c : CFn}
    (h : ∀ (A : Around) (outer : List Env) (s : Shared) (H0 : Hp) (f : Addr) (cl : List (Str × Addr)) (cd : Addr) (ws vs : List V) (us : List Value) (caps ds : List D) (Q : VK), Room k A → Env0 g.P g.w g.K g.mg base A outer s H0 → H0 f = some (CloO f S cl cd) → H0 cd = some (CodeO cd S.qual) → CellsAt cl S.fr (ws.map some) s.heap H0 → RS g [] H0 [] →
      RDs g [] H0 ws caps → RDs g [] H0 vs ds → ds.length = S.ps.length → Vals vs us → (c caps ds []).post (KV g [] H0 Q) (KX g [] H0 E0) → codeAny (model g.P g.w) A (.call (.ref f) ⟨us, []⟩) (CR CX0 outer g.P g.w H0 s Q E0) s) : CloOk g base k S c := by
  refine ⟨fun A outer s H f cl cd ws vs us caps ds d st Q hr e0 x t rc rd hl r hc hp hQ => ?_⟩
  have ok := e0.hok
  have lf : less H cl f = some (CloO f S cl cd) := less_some.mpr ⟨x.outF (g := g) ok, x.fn⟩
  have lc : less H cl cd = some (CodeO cd S.qual) := less_some.mpr ⟨x.outC (g := g) ok, x.code⟩
  have rs : RS g [] (less H cl) [] := ⟨rfl, fun m n a h _ => by simp at h, fun n a o h _ => by simp at h, less_tabs (g := g) x ok t⟩
  have key := h A outer s (less H cl) f cl cd ws vs us caps ds (fun v H' => ∃ q', Ext [] (less H cl) q' H' ∧ RS g q' H' st ∧ RD g q' H' v d) hr (less_env0 x e0) lf lc (x.cells (g := g) ok) rs rc rd hl r (by rw [hc]; exact fun q' v H' e rs' rv => ⟨q', e, rs', rv⟩)
  refine codeAny_mono key fun res s' z => ?_
  cases res with
  | error e => exact z
  | ok fl =>
    cases fl with
    | next => exact z
    | brk => exact z
    | cont => exact z
    | ret u =>
      refine back_ce x ok z fun v H' hok ⟨q', e, rs', rv⟩ nn => ?_
      have bo : ∀ {c : Addr}, c ∉ cl.map (·.2) → back H H' cl c = H' c := fun hn => if_neg hn
      have keep : ∀ {c : Addr} {o : HO}, H' c = some o → back H H' cl c = some o := fun {c o} e => (bo fun hm => by rw [nn c hm] at e; cases e).trans e
      refine hQ v _ (fun b o hb n => ?_) (rs'.tabs.ext fun b o e => keep e) (RD.pd (fun a xs z => ?_) rv hp)
      · by_cases hm : b ∈ cl.map (·.2)
        · exact (if_pos hm).trans hb
        · exact keep (e.rest b o (less_some.mpr ⟨hm, hb⟩) (by simp) n)
      · rcases z with z | ⟨o, z⟩
        · exact .inl (keep z)
        · exact .inr ⟨o, keep z⟩
/-- by its statements -/
theorem clo_of {g : G} {base : Heap} {k : Nat} {S : NFS} {fb : SF} (hlam : S.lam = none) (N : NScope S.N S.ps S.fr S.scope)
    (hb : ∀ (cl : List (Str × Addr)) (cd : Addr) (doc pm ctv : Value) (us : List Value), us.length = S.ps.length → bindArgs ((S.nf cl cd).fd doc pm ctv) ⟨us, []⟩ = pure (S.ps.zip us))
    (body : ∀ (A : Around) (outer : List Env) (s : Shared) (H : Hp) (E : XK) (f : Addr) (cl : List (Str × Addr)) (cd : Addr), Room k (A.deeper (envF (S.nf cl cd) f s.heap.objs.size)) → PSs (ncx CX0 g.P g.w g.K g.mg base S.N (S.nf cl cd) f A outer s H E).nox S.body (LS g E0 fb)) : CloOk g base (k + 1) S (fnC S.N.length fb) := by
  refine clo_mk fun A outer s H0 f cl cd ws vs us caps ds Q hr e0 hf hc C rs rc rd hl r p => ?_
  have hf : H0 f = some (FnO f (S.nf cl cd)) := by
    have z := hf
    unfold CloO at z
    rw [hlam] at z
    exact z
  have nk : NOk g.P g.w g.K g.mg base CX0 (k + 1) f (S.nf cl cd) S.ps S.fr (fun wo vs' H Q' E => vs'.length = S.ps.length ∧ ∃ ws caps ds, wo = ws.map some ∧ RS g [] H [] ∧ RDs g [] H ws caps ∧ RDs g [] H vs' ds ∧ (fnC S.N.length fb caps ds []).post (KV g [] H Q') (KX g [] H E0)) :=
    nok_of N (fun doc pm ctv us hu => hb cl cd doc pm ctv us hu) (fun wo vs H Q E h => h.1) fun A outer s H vs wo Q E hr _ _ _ h => by
      obtain ⟨_, ws, caps, ds, rfl, rs, rc, rd, p⟩ := h
      refine ⟨_, (body A outer s H E f cl cd hr).nox, [], _, [], rs, RE.startC S.N rd rc, (R.post_bind.mp p).imp (fun fl s2 p q1 H1 e1 rs1 => ?_) fun _ _ h => h⟩
      cases fl with
      | nx e => exact fun sg re => p q1 _ H1 e1 rs1 .non
      | rt d => exact fun v rv => p q1 v H1 e1 rs1 rv
      | bk e => exact False.elim p
      | ct e => exact False.elim p
  exact nk.run A outer s H0 us vs (ws.map some) Q E0 hr e0 hf hc C r ⟨by rw [rd.length]; exact hl, ws, caps, ds, rfl, rs, rc, rd, p⟩
end VL

/-! VL12: a lambda's body; the call of a name that holds a function. -/
namespace VL
open PySem PySem.Spec PyProof.Rows L2 LamX NdefX
variable {B : Tb}
theorem clo_lam {g : G} {base : Heap} {k : Nat} {S : NFS} {e : Expr} {fe : EF} (hlam : S.lam = some e) (N : NScope S.N S.ps S.fr S.scope)
    (hb : ∀ (cl : List (Str × Addr)) (cd : Addr) (pm ctv : Value) (us : List Value), us.length = S.ps.length → bindArgs (PySem.W.kla_fn S.name S.qual S.params e S.scope cl pm (.ref cd) ctv) ⟨us, []⟩ = pure (S.ps.zip us))
    (body : ∀ (A : Around) (outer : List Env) (s : Shared) (H : Hp) (E : XK) (f : Addr) (cl : List (Str × Addr)) (cd : Addr), Room k (A.deeper (envF (S.nf cl cd) f s.heap.objs.size)) → PE (ncx CX0 g.P g.w g.K g.mg base S.N (S.nf cl cd) f A outer s H E).nox e (LE g E0 fe)) : CloOk g base (k + 1) S (exC S.N.length fe) := by
  refine clo_mk fun A outer s H0 f cl cd ws vs us caps ds Q hr e0 hf hc C rs rc rd hl r p => ?_
  have hf : H0 f = some (LamO f S e cl cd) := by
    have z := hf
    unfold CloO at z
    rw [hlam] at z
    exact z
  obtain ⟨⟨od, sl, pm, ctv, ho⟩, _, _⟩ := e0.hok f _ hf
  have lim : s.heap.NoLimit := e0.mod.nolimit.keeps fun b o e => (e0.bs b o e).1
  have hlv : vs.length = S.ps.length := by rw [rd.length]; exact hl
  refine PySem.W.kla_callFunE hr.depth ho rfl N.co N.gen rfl (codeO_at e0.hok hc) ?_
  rw [hb cl cd pm ctv us (by rw [← r.length]; exact hlv)]
  refine wpAny_pure (wpAny_newFunctionEnv N.nocell (fun ⟨n, _⟩ hy => N.par n (List.of_mem_zip hy).1) (fun h₁ hns hsb => ⟨lim.fresh _ hsb, ?_⟩) N.kind)
  show codeAny _ _ (.expr e (envF (S.nf cl cd) f s.heap.objs.size)) _ _
  have kp : ∀ b o, s.heap.get? b = some o → h₁.get? b = some o := fun b o e => hsb.extBut b o (Nat.ne_of_lt (Heap.lt_size e)) (Heap.get?_push_of_some _ e)
  have I : Inv (ncx CX0 g.P g.w g.K g.mg base S.N (S.nf cl cd) f A outer s H0 E0) [] (startF S.N vs (ws.map some)) H0 { s with heap := h₁, toks := s.toks + (S.ps.zip us).length } := inv_startN (F := S.nf cl cd) N hr.hd e0 hlv r C hns kp
  refine PySem.W.kla_codeExpr (wpAny_mono ((body A outer s H0 E0 f cl cd (hr.deeper _)).nox.run [] _ _ H0 Q I ⟨[], _, [], rs, RE.startC S.N rd rc, p⟩) (fun u s' ⟨v, H', J, rv, q⟩ => ?_) fun e s' h => h)
  exact ⟨v, H', J.os, J.bare, J.base, J.hok, rv, q⟩
/-! ### no places of the store -/
mutual
def nr : D → Bool
  | .non => true
  | .bl _ => true
  | .int _ => true
  | .str _ => true
  | .tup xs => nrs xs
  | .ref _ => false
  | .glb _ => true
  | .ty _ => true
  | .clo _ caps => nrs caps
def nrs : List D → Bool
  | [] => true
  | x :: xs => nr x && nrs xs
end
theorem CloAt.nil {q : List Addr} {H : Hp} {f : Addr} {S : NFS} {cl : List (Str × Addr)} {c : Addr} {ws : List V} (x : CloAt q H f S cl c ws) : CloAt [] H f S cl c ws :=
  ⟨x.fn, by simp, x.code, by simp, fun p hp => ⟨by simp, (x.all p hp).2⟩, x.inj, x.len, x.has⟩
theorem CloAt.tup_out {q : List Addr} {H : Hp} {f : Addr} {S : NFS} {cl : List (Str × Addr)} {c : Addr} {ws : List V} (x : CloAt q H f S cl c ws) {a : Addr} {xs : List V} (z : Rd H a (.tup xs)) : a ∉ cl.map (·.2) := fun hm => by
  obtain ⟨pr, hpr, rfl⟩ := List.mem_map.mp hm
  obtain ⟨_, w, y⟩ := x.all pr hpr
  rcases z with z | ⟨o, z⟩
  · rw [z] at y; cases y
  · rw [z] at y; cases y
section
variable {g : G} {q : List Addr}
mutual
theorem RD.noq : ∀ {H : Hp} {v : V} {d : D}, RD g q H v d → nr d = true → RD g [] H v d
  | _, _, _, .non, _ => .non
  | _, _, _, .bl b, _ => .bl b
  | _, _, _, .int i, _ => .int i
  | _, _, _, .str x, _ => .str x
  | _, _, .tup ds, .tup h r, p => .tup h (RDs.noq r (by unfold nr at p; exact p))
  | _, _, .ref _, _, p => by unfold nr at p; cases p
  | _, _, _, .glb h, _ => .glb h
  | _, _, _, .ty n, _ => .ty n
  | _, _, .clo _ caps, .clo h x r, p => .clo h x.nil (RDs.noq r (by unfold nr at p; exact p))
theorem RDs.noq : ∀ {H : Hp} {vs : List V} {ds : List D}, RDs g q H vs ds → nrs ds = true → RDs g [] H vs ds
  | _, _, _, .nil, _ => .nil
  | _, _, x :: xs, .cons r t, p => by
    unfold nrs at p
    rw [Bool.and_eq_true] at p
    exact .cons (RD.noq r p.1) (RDs.noq t p.2)
end
end
/-! ### calls -/
/-- a made function called: pure arguments, a pure result; the store is not touched -/
def clS (c : CFn) (caps ds : List D) (st : Sto) : R D := if (nrs caps && pds ds) = true then (match c caps ds [] with
    | .ok d _ => if pd d = true then .ok d st else .bad
    | _ => .bad) else .bad
def callVF (tab : Nat → Option CFn) (gt : Str → Option Fn) (i : Nat) (fa : AF) : EF := fun env st => match env[i]? with
  | some (some (.clo k caps)) => (match tab k with
    | some c => (fa env st).bind fun ds s => clS c caps ds s
    | none => .bad)
  | some (some (.glb x)) => (match gt x with
    | some fn => (fa env st).bind fun ds s => fn ds s
    | none => .bad)
  | _ => .bad
theorem args_post {fa : AF} {env : EnvD} {st : Sto} {n : Nat} {r : List D → Sto → R D} {K : D → Sto → Prop} {K' : Str → Sto → Prop} (hla : ∀ env st ds s, fa env st = .ok ds s → ds.length = n) (p : ((fa env st).bind r).post K K') : (fa env st).post (fun ds s => ds.length = n ∧ (r ds s).post K K') K' := by
  have p := R.post_bind.mp p
  cases hfa : fa env st with
  | ok ds s => rw [hfa] at p; exact ⟨hla _ _ _ _ hfa, p⟩
  | ex c s => rw [hfa] at p; exact p
  | bad => rw [hfa] at p; exact p
section
variable {X : Cx} {k n i : Nat} {x : Str} {p pos : Pos} {e : Expr} {es : List Expr} {fa : AF} {tab : Nat → Option CFn} {gt : Str → Option Fn}
theorem le_callV (hC : ∀ kk c, tab kk = some c → ∃ S, B.nf kk = some S ∧ S.ps.length = n ∧ CloOk (gOf B X) X.base k S c)
    (hG : ∀ y fn, gt y = some fn → ∃ a fd ps, X.mg y = some (.ref a) ∧ FnOk X.prog X.w X.K X.mg X.base CX0 k a fd ps (Sp0 (gOf B X) n fn) ∧ PySem.W.keepIn X.K (.ref a) = true ∧ Binds X.K fd ps [])
    (hr : Room k X.A) (hN : X.N[i]? = some x) (hv : Vis X.env.scope x) (ha : PA X (e :: es) (LA (gOf B X) E0 fa)) (hla : ∀ env st ds s, fa env st = .ok ds s → ds.length = n)
    (hdb : (x == ("__debug__" : Str)) = false := by decide) (hcd : (x == ("__classdict__" : Str)) = false := by decide)
    (he : starEach (e :: es) X.env = (false, eval e X.env) :: starEach es X.env := by rfl) (hpl : (backTo pos (starEach es X.env)).any (·.1) = false := by rfl) :
    PE X (.Call (.Name x p) (e :: es) [] pos) (LE (gOf B X) E0 (callVF tab gt i fa)) := ⟨fun pins s σ H Q I w => by
  obtain ⟨q, env, st, rs, re, pp⟩ := w
  unfold callVF at pp
  split at pp
  · rename_i kk caps hd
    obtain ⟨v, hv1, rv⟩ := re.get hd
    cases rv with
    | clo hk cx cr =>
      rename_i f S cl c ws
      split at pp
      · rename_i cf hcf
        obtain ⟨S', hk', hn, ok⟩ := hC kk cf hcf
        obtain rfl : S = S' := Option.some.inj ((show B.nf kk = some S from hk).symm.trans hk')
        refine wpAny_Call_Name_kw (thn ((pe_var (pos := p) hN hv hdb hcd).run pins s σ H (fun v H1 => v = .ref f ∧ H1 = H) I ⟨.ref f, hv1, rfl, rfl⟩) fun u s1 ⟨v, H1, I1, r1, q1, e1⟩ => ?_)
        subst q1 e1
        obtain rfl : u = Value.ref f := r1
        have fnAt : ∀ {H2 : Hp} {s2 : Shared}, HOk X.prog X.w H2 s2.heap → H2 f = some (CloO f S cl c) → PySem.W.FnAt f s2.heap := fun ok2 z => by
          obtain ⟨od, fd, sl, ho⟩ := clo_at ok2 z
          exact ⟨_, od, _, sl, ho⟩
        have w2 : LA (gOf B X) E0 fa σ H1 fun vs H2 => ∃ q2 ds s', Ext q H1 q2 H2 ∧ RS (gOf B X) q2 H2 s' ∧ RDs (gOf B X) q2 H2 vs ds ∧ ds.length = n ∧ (clS cf caps ds s').post (KV (gOf B X) q H1 Q) (KX (gOf B X) q H1 E0) :=
          LA.chain rs re (args_post hla pp) fun ds s' q2 vs H2 z e2 rs2 re2 rd2 => ⟨q2, ds, s', e2, rs2, rd2, z.1, z.2⟩
        refine PySem.W.callWith_F (first := []) (fnAt I1.hok cx.fn) (thn (ha.run pos pins s1 σ H1 _ I1 w2) fun us s2 ⟨vs, H2, I2, r, q2, ds, s', e2, rs2, rd2, hl, z⟩ => ?_) he hpl
        have x2 := cx.ext e2
        refine ⟨fnAt I2.hok x2.fn, ?_⟩
        unfold clS at z
        split at z
        · rename_i hp
          rw [Bool.and_eq_true] at hp
          split at z
          · rename_i d sd hd2
            split at z
            · rename_i hpd
              have cr2 := (cr.ext (e2.less cl)).noq hp.1
              have tl : ∀ a xs, Rd H2 a (.tup xs) → Rd (less H2 cl) a (.tup xs) := fun a xs z => less_rd.mpr ⟨x2.tup_out z, z⟩
              have rd3 : RDs (gOf B X) [] (less H2 cl) vs ds := RDs.pd tl rd2 hp.2
              show wpAny _ _ (call (.ref f) us) _ _ _
              refine wpAny_call (codeAny_mono (ok.run X.A X.stack s2 H2 f cl c ws vs us caps ds d sd Q hr I2.env0 x2.nil rs2.tabs cr2 rd3 (hl.trans hn.symm) r hd2 hpd fun v H' eN tb rv => ?_) fun r s' hq => ?_)
              · exact z q2 v H' (e2.trans (ExtN.ext eN)) (RS.extN eN tb rs2) (RD.pd (fun _ _ h => h) rv hpd)
              · cases r with
                | error e => exact False.elim hq
                | ok fl =>
                  cases fl with
                  | ret u => exact I2.after hq
                  | next => exact False.elim hq
                  | brk => exact False.elim hq
                  | cont => exact False.elim hq
            · exact False.elim z
          · exact False.elim z
        · exact False.elim z
      · exact False.elim pp
  · rename_i y hd
    obtain ⟨v, hv1, rv⟩ := re.get hd
    obtain ⟨a, rfl, hma⟩ := rv.glb_inv
    split at pp
    · rename_i fn hfn
      obtain ⟨a', fd, ps, hm, F, hk, hb⟩ := hG y fn hfn
      obtain rfl : a = a' := by
        have := hma.symm.trans hm
        cases this; rfl
      refine wpAny_Call_Name_kw (thn ((pe_var (pos := p) hN hv hdb hcd).run pins s σ H (fun v H1 => v = .ref a ∧ H1 = H) I ⟨.ref a, hv1, rfl, rfl⟩) fun u s1 ⟨v, H1, I1, r1, q1, e1⟩ => ?_)
      subst q1 e1
      obtain rfl : u = Value.ref a := r1
      have w2 : LA (gOf B X) E0 fa σ H1 fun vs H2 => ∃ q2 ds s', Ext q H1 q2 H2 ∧ RS (gOf B X) q2 H2 s' ∧ RDs (gOf B X) q2 H2 vs ds ∧ ds.length = n ∧ (fn ds s').post (KV (gOf B X) q H1 Q) (KX (gOf B X) q H1 E0) :=
        LA.chain rs re (args_post hla pp) fun ds s' q2 vs H2 z e2 rs2 re2 rd2 => ⟨q2, ds, s', e2, rs2, rd2, z.1, z.2⟩
      refine PySem.W.callWith_K (h₀ := X.base) I1.ok.mod.kin hk (thn (ha.run pos pins s1 σ H1 _ I1 w2) fun us s2 ⟨vs, H2, I2, r, q2, ds, s', e2, rs2, rd2, hl, z⟩ => ⟨I2.kIn, ?_⟩) he hpl
      refine run_fn F hr hb .nil pass0 I2 r ?_
      rw [List.append_nil]
      exact ⟨by rw [rd2.length]; exact hl, q2, s', ds, rs2, rd2, z.imp (fun _ _ h => h.ext e2) fun _ _ h => h.ext e2⟩
    · exact False.elim pp
  · exact False.elim pp⟩
/-- a def of the module as a value -/
theorem le_glb {a : Addr} {E : XK} (hg : Gl X x) (hm : X.mg x = some (.ref a)) (hdb : (x == ("__debug__" : Str)) = false := by decide) : PE X (.Name x p) (LE (gOf B X) E (cF (.glb x))) := ⟨fun pins s σ H Q I w => by
  obtain ⟨q, env, st, rs, re, pp⟩ := w
  exact ld_glob I hg hm ⟨.ref a, H, I, rfl, pp q _ H Ext.refl rs (.glb hm)⟩ hdb⟩
/-- what the proof never comes to -/
def badF : EF := fun _ _ => .bad
def badS : SF := fun _ _ => .bad
theorem le_bad {e : Expr} {E : XK} : PE X e (LE (gOf B X) E badF) := ⟨fun pins s σ H Q I w => by
  obtain ⟨q, env, st, rs, re, pp⟩ := w
  exact False.elim pp⟩
theorem ls_bad {s : Stmt} {E : XK} : PS X s (LS (gOf B X) E badS) := ⟨fun pins s σ H Q I w => by
  obtain ⟨q, env, st, rs, re, pp⟩ := w
  exact False.elim pp⟩
end
end VL

/-! VL13: nested texts, the end of a law where functions are made. -/
namespace VL
open PySem PySem.Spec PyProof.Rows L2 LamX NdefX
variable {B : Tb}
/-! ### where a nested def, a lambda stands in the text -/
def noS : Stmt := .Pass ⟨0, 0, 0, 0⟩
def atB (l : List Stmt) (i : Nat) : Stmt := l.getD i noS
def thenB : Stmt → List Stmt
  | .If (body := b) .. => b
  | _ => []
def elseB : Stmt → List Stmt
  | .If (orelse := b) .. => b
  | _ => []
def retE : Stmt → Expr
  | .Return (some e) _ => e
  | _ => .Constant .none 0 ⟨0, 0, 0, 0⟩
def lamP : Expr → Arguments
  | .Lambda p _ _ _ => p
  | _ => defArgs noS
def lamE : Expr → Expr
  | .Lambda _ b _ _ => b
  | e => e
def lamS : Expr → Scope
  | .Lambda _ _ s _ => s
  | _ => defScope noS
/-! ### a maker's code object, its table -/
def cO (K : PySem.W.Frag) (f : Addr) : Addr := match K.lookup f with
  | some ⟨_, _, .func fd, _⟩ => (match fd.code with
    | .ref c => c
    | _ => 0)
  | _ => 0
def pO (K : PySem.W.Frag) (f : Addr) : Addr := match K.lookup (cO K f) with
  | some ⟨_, _, .fields vs, _⟩ => (match vs.getD 11 .none with
    | .ref P => P
    | _ => 0)
  | _ => 0
theorem cO_eq {K : PySem.W.Frag} {f : Addr} {oc cd : Value} {od : Option Addr} {osl : Array (Option Value)} {x q : Str} {st : Stmt} {kV dc pm ct : Value} {an : Option Addr} (l : K.lookup f = some ⟨oc, od, .func (PySem.W.fnOf x q (defArgs st) (defBody st) (defScope st) .none kV dc pm an cd ct), osl⟩) {q2 : Str} (c : PySem.W.codeIn K cd q2 = true) : cd = .ref (cO K f) := by
  have h : ∃ c, cd = .ref c := by
    cases cd with
    | ref a => exact ⟨a, rfl⟩
    | _ => cases c
  obtain ⟨a, rfl⟩ := h
  unfold cO
  rw [l]
def mkChk (K : PySem.W.Frag) (ts : List Addr) (l : List (Addr × Str)) : Bool := l.all fun p => PySem.W.codeHdIn K (cO K p.1) (pO K p.1) && (K.lookup (pO K p.1)).isNone && ts.contains (pO K p.1) && l.all fun r => !(pO K r.1 == pO K p.1) || r.2 == p.2
def mkT (K : PySem.W.Frag) (l : List (Addr × Str)) : List (Addr × Str) := l.map fun p => (pO K p.1, p.2)
def mkC (K : PySem.W.Frag) (l : List (Addr × Str)) : List (Addr × Addr) := l.map fun p => (cO K p.1, pO K p.1)
theorem mkChk_at {K : PySem.W.Frag} {ts : List Addr} {l : List (Addr × Str)} (h : mkChk K ts l = true) {p : Addr × Str} (hp : p ∈ l) : PySem.W.codeHdIn K (cO K p.1) (pO K p.1) = true ∧ K.lookup (pO K p.1) = none ∧ pO K p.1 ∈ ts ∧ ∀ r ∈ l, pO K r.1 = pO K p.1 → r.2 = p.2 := by
  unfold mkChk at h
  have z := List.all_eq_true.mp h p hp
  rw [Bool.and_eq_true, Bool.and_eq_true, Bool.and_eq_true] at z
  obtain ⟨⟨⟨z1, z2⟩, z3⟩, z4⟩ := z
  refine ⟨z1, by simpa using z2, by simpa using z3, fun r hr e => ?_⟩
  have y := List.all_eq_true.mp z4 r hr
  rw [Bool.or_eq_true] at y
  rcases y with y | y
  · rw [e] at y; simp at y
  · exact beq_iff_eq.mp y
theorem mkT_mem {K : PySem.W.Frag} {l : List (Addr × Str)} {f : Addr} {q : Str} (h : (f, q) ∈ l) : (pO K f, q) ∈ mkT K l := List.mem_map.mpr ⟨(f, q), h, rfl⟩
theorem mkC_mem {K : PySem.W.Frag} {l : List (Addr × Str)} {f : Addr} {q : Str} (h : (f, q) ∈ l) : (cO K f, pO K f) ∈ mkC K l := List.mem_map.mpr ⟨(f, q), h, rfl⟩
theorem mkT_uni {K : PySem.W.Frag} {ts : List Addr} {l : List (Addr × Str)} (h : mkChk K ts l = true) {f : Addr} {q : Str} (hp : (f, q) ∈ l) : ∀ p ∈ mkT K l, p.1 = pO K f → p.2 = q := fun p hm e => by
  obtain ⟨r, hr, rfl⟩ := List.mem_map.mp hm
  exact (mkChk_at h hp).2.2.2 r hr e
/-- the law's promise over the head's heap -/
theorem law_at {l : PySem.W.OpenLaw} {w : World} {K : PySem.W.Frag} {k : Nat} {x : Str} {mg : Str → Option Value} {fa : Addr} {h : Heap} {ts : List Addr} {ms : List (Addr × Str)} {fd : FuncData} (KX : K.In h) (hts : ∀ P ∈ ts, h.get? P = some (PySem.W.tabObj #[])) (hc : mkChk K ts ms = true)
    (hb : ∀ (s : Shared) (u : Value), BindsTo s fd ⟨[u], []⟩ [(x, u)])
    (F : ∀ base : Heap, K.In base → base.Ns mainGlobals mg → (∀ p ∈ mkC K ms, TabB base mg p.1 p.2) → FnOk l.prog w K mg base CX0 k fa fd [x] (spLawT K (mkT K ms))) : LawAtS l w K CX0 k 63 x mg fa h := by
  have at_ : ∀ p ∈ mkC K ms, ∃ r ∈ ms, p = (cO K r.1, pO K r.1) := fun p hp => by
    obtain ⟨r, hr, rfl⟩ := List.mem_map.mp hp
    exact ⟨r, hr, rfl⟩
  refine ⟨fd, mkC K ms, spLawT K (mkT K ms), fun p hp => ?_, fun p hp => ?_, fun p hp => ?_, hb, fun H a ns hl _ hT hS => ?_, F⟩
  · obtain ⟨r, hr, rfl⟩ := at_ p hp
    exact hts _ (mkChk_at hc hr).2.2.1
  · obtain ⟨r, hr, rfl⟩ := at_ p hp
    exact (mkChk_at hc hr).2.1
  · obtain ⟨r, hr, rfl⟩ := at_ p hp
    exact PySem.W.codeHd_of_K KX (mkChk_at hc hr).1
  · refine ⟨a, ns, rfl, hS, hl, fun p hp => ?_, fun _ => rfl⟩
    obtain ⟨r, hr, rfl⟩ := List.mem_map.mp hp
    exact TabS.nil (hT (cO K r.1, pO K r.1) (List.mem_map.mpr ⟨r, hr, rfl⟩))
end VL

/-! VLM: reckoning with the functions: loops, comprehensions, stores that grow, sizes of ints. -/
namespace VL
open PySem L2 LamX NdefX

theorem log2_lt {n k : Nat} (h : n < 2 ^ k) (hk : 0 < k) : n.log2 < k := by
  by_cases h0 : n = 0
  · subst h0; simpa using hk
  · exact (Nat.log2_lt h0).mpr h
/-- an int below 2 ^ 1000 in size; sums and products of such -/
def Sm (k : Nat) (a : Int) : Prop := a.natAbs < 2 ^ k
instance {k : Nat} {a : Int} : Decidable (Sm k a) := inferInstanceAs (Decidable (a.natAbs < 2 ^ k))
theorem Sm.log {k : Nat} {a : Int} (h : Sm k a) (hk : 0 < k) : a.natAbs.log2 < k := log2_lt h hk
theorem Sm.of {k : Nat} {a b : Int} (h0 : 0 ≤ a) (h : a < b) (hb : b ≤ 2 ^ k) : Sm k a := by
  unfold Sm
  have e : ((a.natAbs : Nat) : Int) < ((2 ^ k : Nat) : Int) := by
    rw [Int.natAbs_of_nonneg h0]
    have : ((2 ^ k : Nat) : Int) = (2 : Int) ^ k := by push_cast; rfl
    rw [this]
    omega
  exact Int.ofNat_lt.mp e
theorem Sm.mod {k : Nat} {a m : Int} (hm : 0 < m) (hk : m ≤ 2 ^ k) : Sm k (a % m) := Sm.of (Int.emod_nonneg a (by omega)) (Int.emod_lt_of_pos a hm) hk
theorem Sm.mul {j k : Nat} {a b : Int} (ha : Sm j a) (hb : Sm k b) : Sm (j + k) (a * b) := by
  unfold Sm at *
  rw [Int.natAbs_mul, Nat.pow_add]
  exact Nat.mul_lt_mul'' ha hb
theorem Sm.add {k : Nat} {a b : Int} (ha : Sm k a) (hb : Sm k b) : Sm (k + 1) (a + b) := by
  unfold Sm at *
  have := Int.natAbs_add_le a b
  rw [Nat.pow_succ]
  omega
theorem Sm.neg {k : Nat} {a : Int} (ha : Sm k a) : Sm k (-a) := by unfold Sm at *; rw [Int.natAbs_neg]; exact ha
theorem Sm.sub {k : Nat} {a b : Int} (ha : Sm k a) (hb : Sm k b) : Sm (k + 1) (a - b) := by rw [Int.sub_eq_add_neg]; exact ha.add hb.neg
theorem Sm.mono {j k : Nat} {a : Int} (h : Sm j a) (hk : j ≤ k) : Sm k a := Nat.lt_of_lt_of_le h (Nat.pow_le_pow_right (by decide) hk)
/-- the product of two such is within the model's line -/
theorem mul_ok {j k : Nat} {a b : Int} (ha : Sm j a) (hb : Sm k b) (h : j + k ≤ 900000 := by decide) (hj : 0 < j := by decide) (hk : 0 < k := by decide) : decide (MulOk a b) = true := by
  have h1 := ha.log hj
  have h2 := hb.log hk
  exact decide_eq_true (.inl (by omega))
theorem mul_okR {a b : Int} (hb : Sm 64 b) : decide (MulOk a b) = true := decide_eq_true (.inr (.inr hb))
theorem mul_okL {a b : Int} (ha : Sm 64 a) : decide (MulOk a b) = true := decide_eq_true (.inr (.inl ha))
theorem mulD_ok {j k : Nat} {a b : Int} {st : Sto} (ha : Sm j a) (hb : Sm k b) (h : j + k ≤ 900000 := by decide) (hj : 0 < j := by decide) (hk : 0 < k := by decide) : mulD (.int a) (.int b) st = .ok (.int (a * b)) st := by
  show (if decide (MulOk a b) = true then _ else _) = _
  rw [mul_ok ha hb h hj hk, if_pos rfl]

/-! ### stores that grow -/
theorem get_app {st j : Sto} {n : Nat} {o : O} (h : st[n]? = some o) : (st ++ j)[n]? = some o := by
  rw [List.getElem?_append_left (List.getElem?_eq_some_iff.mp h).1]; exact h
theorem listAt_app {st j : Sto} {n : Nat} {xs : List D} (h : listAt st n = some xs) : listAt (st ++ j) n = some xs := by
  unfold listAt at *
  split at h
  · rename_i e; rw [get_app e]; exact h
  · rename_i e; rw [get_app e]; exact h
  · cases h
theorem get_last {st : Sto} {o : O} : (st ++ [o])[st.length]? = some o := by simp
theorem set_last {st : Sto} {o u : O} : (st ++ [o]).set st.length u = st ++ [u] := by simp
theorem listAt_last {st : Sto} {xs : List D} : listAt (st ++ [.lst xs]) st.length = some xs := listAt_lst get_last
/-- st' has all that st has -/
def Le (st st' : Sto) : Prop := ∃ j, st' = st ++ j
theorem Le.refl (st : Sto) : Le st st := ⟨[], by simp⟩
theorem Le.trans {a b c : Sto} (h : Le a b) (k : Le b c) : Le a c := by
  obtain ⟨j, rfl⟩ := h
  obtain ⟨l, rfl⟩ := k
  exact ⟨j ++ l, by simp⟩
theorem Le.app (st j : Sto) : Le st (st ++ j) := ⟨j, rfl⟩
theorem Le.get {a b : Sto} (h : Le a b) {n : Nat} {o : O} (e : a[n]? = some o) : b[n]? = some o := by obtain ⟨j, rfl⟩ := h; exact get_app e
theorem Le.listAt {a b : Sto} (h : Le a b) {n : Nat} {xs : List D} (e : listAt a n = some xs) : VL.listAt b n = some xs := by obtain ⟨j, rfl⟩ := h; exact listAt_app e
theorem Le.len {a b : Sto} (h : Le a b) : a.length ≤ b.length := by obtain ⟨j, rfl⟩ := h; simp

/-! ### loops -/
theorem forL_nil {c : Chk} {gf : GF} {b : SF} {env : EnvD} {st : Sto} (h : ChkOk c st) : forL c gf b [] env st = .ok (.nx env) st := by unfold forL; rw [if_pos h]
theorem forL_cons {c : Chk} {gf : GF} {b : SF} {x : D} {r : List D} {env : EnvD} {st : Sto} (h : ChkOk c st) : forL c gf b (x :: r) env st = (gf x env st).bind fun e s => (b e s).bind fun fl s' => match fl with
      | .nx e' => forL c gf b r e' s'
      | .ct e' => forL c gf b r e' s'
      | .bk e' => .ok (.nx e') s'
      | .rt d => .ok (.rt d) s' := by
  rw [forL, if_pos h]
  all_goals rfl
/-- a loop whose turns all go on -/
theorem forL_inv {c : Chk} {gf : GF} {b : SF} {ds : List D} {env : EnvD} {st : Sto} (I : Nat → EnvD → Sto → Prop) (h0 : I 0 env st) (hc : ∀ i env st, I i env st → ChkOk c st)
    (hs : ∀ i x env st, ds[i]? = some x → I i env st → ∃ e s e' s', gf x env st = .ok e s ∧ b e s = .ok (.nx e') s' ∧ I (i + 1) e' s') : ∃ e' s', forL c gf b ds env st = .ok (.nx e') s' ∧ I ds.length e' s' := by
  have all : ∀ (r : List D) (i : Nat) (env : EnvD) (st : Sto), i ≤ ds.length → ds.drop i = r → I i env st → ∃ e' s', forL c gf b r env st = .ok (.nx e') s' ∧ I ds.length e' s' := by
    intro r
    induction r with
    | nil =>
      intro i env st hi hd h
      have hl : ds.length ≤ i := List.drop_eq_nil_iff.mp hd
      have e : i = ds.length := by omega
      subst e
      exact ⟨env, st, forL_nil (hc _ _ _ h), h⟩
    | cons x r ih =>
      intro i env st hi hd h
      have hx : ds[i]? = some x := by
        have := congrArg (fun l => l[0]?) hd
        simpa using this
      obtain ⟨e, s, e', s', h1, h2, h3⟩ := hs i x env st hx h
      rw [forL_cons (hc _ _ _ h), h1, R.bind_ok, h2, R.bind_ok]
      refine ih (i + 1) e' s' ?_ ?_ h3
      · have := (List.getElem?_eq_some_iff.mp hx).1
        omega
      · have := congrArg List.tail hd
        simpa using this
  exact all ds 0 env st (Nat.zero_le _) (by simp) h0
/-- a loop that looks for the first item of which p is so, and leaves there -/
theorem forL_first {c : Chk} {gf : GF} {b : SF} {p : D → Bool} {r : D → D} {st : Sto} (hc : ChkOk c st) : ∀ {ds : List D} {env : EnvD} (J : EnvD → Prop), J env →
    (∀ x ∈ ds, ∀ env, J env → ∃ e, gf x env st = .ok e st ∧ (p x = true → b e st = .ok (.rt (r x)) st) ∧ (p x = false → ∃ e', b e st = .ok (.nx e') st ∧ J e')) →
    (∃ x, ds.find? p = some x ∧ forL c gf b ds env st = .ok (.rt (r x)) st) ∨ (ds.find? p = none ∧ ∃ e', forL c gf b ds env st = .ok (.nx e') st ∧ J e')
  | [], env, J, h0, _ => .inr ⟨rfl, env, forL_nil hc, h0⟩
  | x :: ds, env, J, h0, hs => by
    obtain ⟨e, h1, h2, h3⟩ := hs x List.mem_cons_self env h0
    rw [forL_cons hc, h1, R.bind_ok]
    cases hp : p x with
    | true => exact .inl ⟨x, by rw [List.find?_cons, hp], by rw [h2 hp, R.bind_ok]⟩
    | false =>
      obtain ⟨e', h4, h5⟩ := h3 hp
      rw [h4, R.bind_ok, List.find?_cons, hp]
      exact forL_first hc J h5 fun y hy => hs y (List.mem_cons_of_mem _ hy)
/-- a loop that goes on as long as each turn does, and leaves with False at the first turn that does not: all turns go on -/
theorem forS_ok {it : ItF} {gf : GF} {b : SF} {env : EnvD} {st : Sto} {ds : List D} {c : Chk} {s : Sto} {r : R Fl} (h : it env st = .ok (ds, c) s) (h2 : forL c gf b ds env s = r) : forS it gf b env st = r := by
  unfold forS; rw [h, R.bind_ok]; exact h2

/-! ### comprehensions -/
theorem lcL_nil {c : Chk} {gf : GF} {tt : TF} {te : EF} {env : EnvD} {n : Nat} {st : Sto} (h : ChkOk c st) : lcL c gf tt te env n [] st = .ok () st := by unfold lcL; rw [if_pos h]
theorem lcL_cons {c : Chk} {gf : GF} {tt : TF} {te : EF} {env : EnvD} {n : Nat} {x : D} {r : List D} {st : Sto} (h : ChkOk c st) : lcL c gf tt te env n (x :: r) st = (gf x env st).noex.bind fun e s => (tt e s).noex.bind fun b s1 => if b = true then (te e s1).noex.bind fun d s2 => match s2[n]? with
        | some (.lst acc) => if acc.length < sizeLine then lcL c gf tt te env n r (s2.set n (.lst (acc ++ [d]))) else .bad
        | _ => .bad
      else lcL c gf tt te env n r s1 := by
  rw [lcL, if_pos h]
  all_goals rfl
/-- a comprehension whose element lays nothing -/
theorem lcL_map {c : Chk} {gf : GF} {te : EF} {env : EnvD} {s : Sto} {h : D → D} (hc : ∀ acc, ChkOk c (s ++ [.lst acc])) : ∀ {ds : List D} {acc : List D}, acc.length + ds.length ≤ sizeLine →
    (∀ x ∈ ds, ∀ acc, ∃ e, gf x env (s ++ [.lst acc]) = .ok e (s ++ [.lst acc]) ∧ te e (s ++ [.lst acc]) = .ok (h x) (s ++ [.lst acc])) →
    lcL c gf yesT te env s.length ds (s ++ [.lst acc]) = .ok () (s ++ [.lst (acc ++ ds.map h)])
  | [], acc, _, _ => by rw [lcL_nil (hc acc)]; simp
  | x :: ds, acc, hl, hb => by
    obtain ⟨e, h1, h2⟩ := hb x List.mem_cons_self acc
    rw [List.length_cons] at hl
    rw [lcL_cons (hc acc), h1, R.noex_ok, R.bind_ok]
    show (R.noex (R.ok true _)).bind _ = _
    rw [R.noex_ok, R.bind_ok, if_pos rfl, h2, R.noex_ok, R.bind_ok, get_last]
    simp only
    rw [if_pos (by omega), set_last, lcL_map hc (by rw [List.length_append, List.length_singleton]; omega) fun y hy => hb y (List.mem_cons_of_mem _ hy)]
    simp
theorem lcF_map {it : ItF} {vs : List Nat} {gf : GF} {te : EF} {env : EnvD} {st s : Sto} {ds : List D} {c : Chk} (h : D → D) (hit : it env st = .ok (ds, c) s) (hc : ∀ acc, ChkOk c (s ++ [.lst acc])) (hl : ds.length ≤ sizeLine)
    (hb : ∀ x ∈ ds, ∀ acc, ∃ e, gf x (wipeE env vs) (s ++ [.lst acc]) = .ok e (s ++ [.lst acc]) ∧ te e (s ++ [.lst acc]) = .ok (h x) (s ++ [.lst acc])) :
    lcF it vs gf yesT te env st = .ok (.ref s.length) (s ++ [.lst (ds.map h)]) := by
  unfold lcF
  rw [hit, R.bind_ok, lcL_map hc (by simpa using hl) hb, R.bind_ok, List.nil_append]
theorem pow62 : (2 : Int) ^ 62 = 4611686018427387904 := by decide
theorem rng1_ok {w : Nat} {st : Sto} (h : w < 4611686018427387904) : rng1D [.int (w : Int)] st = .ok (intsD 0 1 w, []) st := by
  simp only [rng1D]
  rw [pow62, if_pos ⟨by omega, by omega⟩, Int.toNat_natCast]
theorem lenD_list {st : Sto} {n : Nat} {xs : List D} (h : listAt st n = some xs) : lenD [.ref n] st = .ok (.int xs.length) st := by simp only [lenD, h]
theorem lenD_tup {st : Sto} {xs : List D} : lenD [.tup xs] st = .ok (.int xs.length) st := rfl
theorem tupleD_list {st : Sto} {n : Nat} {xs : List D} (h : listAt st n = some xs) : tupleD [.ref n] st = .ok (.tup xs) st := by simp only [tupleD, h]
theorem tyD_list {st : Sto} {n : Nat} {xs : List D} (h : listAt st n = some xs) : tyD "list" (.ref n) st := .inl ⟨rfl, by rw [h]; rfl⟩
theorem appD_ok {st : Sto} {n : Nat} {xs : List D} {d : D} (h : st[n]? = some (.lst xs)) (hz : xs.length < sizeLine) : appD (.ref n) [d] st = .ok .non (st.set n (.lst (xs ++ [d]))) := by
  simp only [appD, h]
  rw [if_pos hz]
theorem ixD_list {st : Sto} {n k : Nat} {xs : List D} {d : D} (h : listAt st n = some xs) (hk : xs[k]? = some d) : ixD (.ref n) (.int (k : Int)) st = .ok d st := by
  simp only [ixD, h, Option.bind_some, atI_nat hk]
theorem ixD_tup {st : Sto} {k : Nat} {xs : List D} {d : D} (hk : xs[k]? = some d) : ixD (.tup xs) (.int (k : Int)) st = .ok d st := by
  simp only [ixD, atI_nat hk]
theorem itD_list {st : Sto} {n : Nat} {xs : List D} (h : listAt st n = some xs) : itD (.ref n) st = .ok (xs, chkAt st n) st := by simp only [itD, h]
theorem itD_tup {st : Sto} {xs : List D} : itD (.tup xs) st = .ok (xs, []) st := rfl
theorem chkAt_ok {st st' : Sto} {n : Nat} {o : O} (h : st[n]? = some o) (h' : st'[n]? = some o) : ChkOk (chkAt st n) st' := by
  unfold chkAt; rw [h]; exact ChkOk.one h'
theorem isN_f {d : D} {st : Sto} : isN false d .non st = .ok (.bl (match d with | .non => true | _ => false)) st := by cases d <;> rfl
theorem isN_t {d : D} {st : Sto} : isN true d .non st = .ok (.bl (match d with | .non => false | _ => true)) st := by cases d <;> rfl
theorem cutD_to {xs : List D} {k : Nat} : cutD xs none (some (k : Int)) = xs.take k := by
  unfold cutD
  rw [HT.sIx_none, HT.sIx_nat, List.drop_zero, Nat.sub_zero]
  by_cases h : k ≤ xs.length
  · rw [Nat.min_eq_left h]
  · rw [Nat.min_eq_right (by omega), List.take_length, List.take_of_length_le (by omega)]
theorem cutD_from {xs : List D} {k : Nat} : cutD xs (some (k : Int)) none = xs.drop k := by
  unfold cutD
  rw [HT.sIx_none, HT.sIx_nat]
  by_cases h : k ≤ xs.length
  · rw [Nat.min_eq_left h]
    exact List.take_of_length_le (by rw [List.length_drop]; omega)
  · rw [Nat.min_eq_right (by omega), List.drop_length, List.drop_of_length_le (by omega)]
    simp
theorem cutD_part {xs : List D} {j k : Nat} : cutD xs (some (j : Int)) (some (k : Int)) = (xs.take k).drop j := by
  unfold cutD
  rw [HT.sIx_nat, HT.sIx_nat, List.drop_take]
  by_cases h : j ≤ xs.length
  · rw [Nat.min_eq_left h]
    by_cases h2 : k ≤ xs.length
    · rw [Nat.min_eq_left h2]
    · rw [Nat.min_eq_right (by omega)]
      rw [List.take_of_length_le (by rw [List.length_drop]; omega), List.take_of_length_le (by rw [List.length_drop]; omega)]
  · rw [Nat.min_eq_right (by omega : xs.length ≤ j), List.drop_length, List.drop_of_length_le (by omega)]
    simp
def N7 : List String := ["NoneType", "bool", "int", "str", "tuple", "list", "dict"]
def T6 : List String := ["int", "bool", "tuple", "list", "dict", "str"]
theorem kit_all : ∀ a ∈ N7, ∀ T ∈ T6, kitB a T = some (a == T || (a == "bool" && T == "int")) := by decide +kernel
theorem tyOfD_mem {d : D} {st : Sto} {a : String} (h : tyOfD d st = some a) : a ∈ N7 := by
  cases d with
  | ref n =>
    simp only [tyOfD] at h
    split at h <;> first | (cases h; done) | (cases h; decide)
  | _ => first | (cases h; done) | (cases h; decide)
/-- isinstance(d, T) -/
def isT (d : D) (st : Sto) (T : String) : Bool := match tyOfD d st with
  | some a => a == T || (a == "bool" && T == "int")
  | none => false
theorem isi_ok {d : D} {st : Sto} {T : String} (h : (tyOfD d st).isSome = true) (hT : T ∈ T6) : isiD [d, .ty T] st = .ok (.bl (isT d st T)) st := by
  obtain ⟨a, ha⟩ := Option.isSome_iff_exists.mp h
  simp only [isiD, ha, Option.bind_some, kit_all a (tyOfD_mem ha) T hT, isT]
/-- a datum of a told type, here and in each later store -/
def Good (d : D) (st : Sto) : Prop := ∀ j, (tyOfD d (st ++ j)).isSome = true ∧ tyOfD d (st ++ j) = tyOfD d st
theorem Good.here {d : D} {st : Sto} (h : Good d st) : (tyOfD d st).isSome = true := by have := (h []).1; rwa [List.append_nil] at this
theorem Good.app {d : D} {st : Sto} (h : Good d st) (j : Sto) : Good d (st ++ j) := fun k => by
  rw [List.append_assoc]
  exact ⟨(h (j ++ k)).1, (h (j ++ k)).2.trans (h j).2.symm⟩
theorem Good.le {d : D} {st st' : Sto} (h : Good d st) (l : Le st st') : Good d st' := by obtain ⟨j, rfl⟩ := l; exact h.app j
theorem Good.ref {n : Nat} {st : Sto} {o : O} (h : st[n]? = some o) (h2 : (tyOfD (.ref n) st).isSome = true) : Good (.ref n) st := fun j => by
  have e : tyOfD (.ref n) (st ++ j) = tyOfD (.ref n) st := by simp only [tyOfD, get_app h, h]
  exact ⟨by rw [e]; exact h2, e⟩
theorem Good.non {st : Sto} : Good .non st := fun _ => ⟨rfl, rfl⟩
theorem Good.bl {st : Sto} {b : Bool} : Good (.bl b) st := fun _ => ⟨rfl, rfl⟩
theorem Good.int {st : Sto} {b : Int} : Good (.int b) st := fun _ => ⟨rfl, rfl⟩
theorem Good.str {st : Sto} {b : Str} : Good (.str b) st := fun _ => ⟨rfl, rfl⟩
theorem Good.tup {st : Sto} {b : List D} : Good (.tup b) st := fun _ => ⟨rfl, rfl⟩
/-- a loop whose turns all go on, while the store only grows -/
theorem forL_le {c : Chk} {gf : GF} {b : SF} {ds : List D} {env : EnvD} {st : Sto} (hc : ChkOk c st) (J : EnvD → Prop) (h0 : J env)
    (hs : ∀ x ∈ ds, ∀ env s, J env → Le st s → ∃ e s1 e' s', gf x env s = .ok e s1 ∧ b e s1 = .ok (.nx e') s' ∧ J e' ∧ Le s s') : ∃ e' s', forL c gf b ds env st = .ok (.nx e') s' ∧ J e' ∧ Le st s' := by
  obtain ⟨e', s', h1, h2, h3⟩ := forL_inv (c := c) (gf := gf) (b := b) (ds := ds) (env := env) (st := st) (fun _ e s => J e ∧ Le st s) ⟨h0, Le.refl st⟩ (fun _ _ s h p hp => h.2.get (hc p hp)) fun i x e s hx ⟨hj, hl⟩ => by
    obtain ⟨e1, s1, e2, s2, h1, h2, h3, h4⟩ := hs x (List.mem_of_getElem? hx) e s hj hl
    exact ⟨e1, s1, e2, s2, h1, h2, h3, hl.trans h4⟩
  exact ⟨e', s', h1, h2, h3⟩
theorem addD_tup {xs ys : List D} {st : Sto} (h : xs.length + ys.length ≤ sizeLine) : addD (.tup xs) (.tup ys) st = .ok (.tup (xs ++ ys)) st := by simp only [addD]; rw [if_pos h]
theorem addD_lst {m n : Nat} {xs ys : List D} {st : Sto} (h1 : st[m]? = some (.lst xs)) (h2 : st[n]? = some (.lst ys)) (h : xs.length + ys.length ≤ sizeLine) : addD (.ref m) (.ref n) st = .ok (.ref st.length) (st ++ [.lst (xs ++ ys)]) := by
  simp only [addD, h1, h2]; rw [if_pos h]; rfl
theorem slD_list {n : Nat} {xs : List D} {lo hi : Option Int} {st : Sto} (h : listAt st n = some xs) : slD (.ref n) lo hi st = .ok (.ref st.length) (st ++ [.lst (cutD xs lo hi)]) := by
  simp only [slD, h]; rfl
theorem allD_ok {n : Nat} {bs : List Bool} {st : Sto} (h : listAt st n = some (bs.map D.bl)) : allD [.ref n] st = .ok (.bl (bs.all id)) st := by
  have e : ∀ bs : List Bool, bools (bs.map D.bl) = some bs := by
    intro bs
    induction bs with
    | nil => rfl
    | cons b bs ih => rw [List.map_cons, bools, ih]; rfl
  simp only [allD, h, Option.bind_some, e]
theorem sizeLine_eq' : sizeLine = 16777216 := by decide
/-! ### comprehensions whose elements lay objects of their own -/
theorem Le.set {a s : Sto} {n : Nat} {o : O} (h : Le a s) (hn : a.length ≤ n) : Le a (s.set n o) := by
  obtain ⟨j, rfl⟩ := h
  exact ⟨j.set (n - a.length) o, by rw [List.set_append_right _ _ hn]⟩
theorem lcL_grow {c : Chk} {gf : GF} {tt : TF} {te : EF} {env : EnvD} {s : Sto} {h : D → D} {p : D → Bool} (hc : ∀ S, Le s S → ChkOk c S) : ∀ {ds acc : List D} {j : Sto}, acc.length + ds.length ≤ sizeLine →
    (∀ x ∈ ds, ∀ S, Le s S → ∃ e j1, gf x env S = .ok e S ∧ tt e S = .ok (p x) (S ++ j1) ∧ (p x = true → ∃ j2, te e (S ++ j1) = .ok (h x) (S ++ j1 ++ j2))) →
    ∃ j', lcL c gf tt te env s.length ds (s ++ .lst acc :: j) = .ok () (s ++ .lst (acc ++ (ds.filter p).map h) :: j')
  | [], acc, j, _, _ => ⟨j, by rw [lcL_nil (hc _ (Le.app _ _))]; simp⟩
  | x :: ds, acc, j, hl, hb => by
    have hle : Le s (s ++ .lst acc :: j) := Le.app _ _
    obtain ⟨e, j1, h1, h2, h3⟩ := hb x List.mem_cons_self _ hle
    rw [List.length_cons] at hl
    rw [lcL_cons (hc _ hle), h1, R.noex_ok, R.bind_ok, h2, R.noex_ok, R.bind_ok]
    cases hp : p x with
    | false =>
      rw [if_neg Bool.false_ne_true, List.filter_cons, if_neg (by rw [hp]; exact Bool.false_ne_true), List.append_assoc, List.cons_append]
      exact lcL_grow hc (by omega) fun y hy => hb y (List.mem_cons_of_mem _ hy)
    | true =>
      obtain ⟨j2, h4⟩ := h3 hp
      rw [if_pos rfl, h4, R.noex_ok, R.bind_ok, List.filter_cons, if_pos hp, List.map_cons]
      have g : (s ++ O.lst acc :: j ++ j1 ++ j2)[s.length]? = some (.lst acc) := by
        rw [List.append_assoc, List.append_assoc, List.getElem?_append_right (Nat.le_refl _), Nat.sub_self]; rfl
      have st : (s ++ O.lst acc :: j ++ j1 ++ j2).set s.length (.lst (acc ++ [h x])) = s ++ O.lst (acc ++ [h x]) :: (j ++ j1 ++ j2) := by
        rw [List.append_assoc, List.append_assoc, List.set_append_right _ _ (Nat.le_refl _), Nat.sub_self]; simp
      rw [g]
      simp only
      rw [if_pos (by omega), st]
      obtain ⟨j', h5⟩ := lcL_grow (acc := acc ++ [h x]) (j := j ++ j1 ++ j2) hc (by rw [List.length_append, List.length_singleton]; omega) fun y hy => hb y (List.mem_cons_of_mem _ hy)
      exact ⟨j', by rw [h5]; simp⟩
theorem lcF_grow {it : ItF} {vs : List Nat} {gf : GF} {tt : TF} {te : EF} {env : EnvD} {st s : Sto} {ds : List D} {c : Chk} (h : D → D) (p : D → Bool) (hit : it env st = .ok (ds, c) s) (hc : ∀ S, Le s S → ChkOk c S) (hl : ds.length ≤ sizeLine)
    (hb : ∀ x ∈ ds, ∀ S, Le s S → ∃ e j1, gf x (wipeE env vs) S = .ok e S ∧ tt e S = .ok (p x) (S ++ j1) ∧ (p x = true → ∃ j2, te e (S ++ j1) = .ok (h x) (S ++ j1 ++ j2))) :
    ∃ j, lcF it vs gf tt te env st = .ok (.ref s.length) (s ++ .lst ((ds.filter p).map h) :: j) := by
  obtain ⟨j, e⟩ := lcL_grow (acc := []) (j := []) hc (by simpa using hl) hb
  exact ⟨j, by unfold lcF; rw [hit, R.bind_ok, e, R.bind_ok, List.nil_append]⟩
/-- .. without a test -/
theorem lcF_all {it : ItF} {vs : List Nat} {gf : GF} {te : EF} {env : EnvD} {st s : Sto} {ds : List D} {c : Chk} (h : D → D) (hit : it env st = .ok (ds, c) s) (hc : ∀ S, Le s S → ChkOk c S) (hl : ds.length ≤ sizeLine)
    (hb : ∀ x ∈ ds, ∀ S, Le s S → ∃ e j, gf x (wipeE env vs) S = .ok e S ∧ te e S = .ok (h x) (S ++ j)) :
    ∃ j, lcF it vs gf yesT te env st = .ok (.ref s.length) (s ++ .lst (ds.map h) :: j) := by
  obtain ⟨j, e⟩ := lcF_grow (tt := yesT) (te := te) (gf := gf) (vs := vs) h (fun _ => true) hit hc hl fun x hx S hS => by
    obtain ⟨e, j, h1, h2⟩ := hb x hx S hS
    exact ⟨e, [], h1, by rw [List.append_nil]; rfl, fun _ => ⟨j, by rw [List.append_nil]; exact h2⟩⟩
  exact ⟨j, by rw [e, List.filter_eq_self.mpr fun _ _ => rfl]⟩
theorem chk_nil {s : Sto} : ∀ S, Le s S → ChkOk [] S := fun _ _ => ChkOk.nil
theorem ChkOk.app {c d : Chk} {S : Sto} (h : ChkOk c S) (k : ChkOk d S) : ChkOk (c ++ d) S := fun p hp => (List.mem_append.mp hp).elim (h p) (k p)
theorem chk_at {s : Sto} {n : Nat} : ∀ S, Le s S → ChkOk (chkAt s n) S := fun S l => by
  unfold chkAt
  split
  · rename_i o h; exact ChkOk.one (l.get h)
  · exact ChkOk.nil
theorem get_at {s j : Sto} {o : O} : (s ++ o :: j)[s.length]? = some o := by rw [List.getElem?_append_right (Nat.le_refl _), Nat.sub_self]; rfl
theorem listAt_at {s j : Sto} {xs : List D} : listAt (s ++ .lst xs :: j) s.length = some xs := listAt_lst get_at
theorem set_at {s j : Sto} {o u : O} : (s ++ o :: j).set s.length u = s ++ u :: j := by rw [List.set_append_right _ _ (Nat.le_refl _), Nat.sub_self]; rfl
theorem Le.def {a b : Sto} (h : Le a b) : ∃ j, b = a ++ j := h
theorem eqF_str {a b : Str} : eqF (.str a) (.str b) = decide (a = b) := by
  show (a == b) = _
  rfl
theorem inL_ok {neg : Bool} {x : D} {ds : List D} {st : Sto} (h : flatD x = true) (h2 : ds.all flatD = true) : inL neg x ds st = .ok (.bl (if neg then !(ds.any fun y => eqF y x) else ds.any fun y => eqF y x)) st := by unfold inL; rw [if_pos ⟨h, h2⟩]
theorem numbered_mem {ds : List D} {d : D} (h : d ∈ numbered ds) : ∃ i x, i < ds.length ∧ ds[i]? = some x ∧ d = .tup [.int (i : Nat), x] := by
  obtain ⟨i, hi⟩ := List.getElem?_of_mem h
  obtain ⟨x, h1, h2⟩ := numbered_get hi
  exact ⟨i, x, (List.getElem?_eq_some_iff.mp h1).1, h1, h2⟩
theorem lcF_any {it : ItF} {vs : List Nat} {gf : GF} {te : EF} {env : EnvD} {st s : Sto} {ds : List D} {c : Chk} {A : Type} (f : A → D) (T : D → A → Prop) (hit : it env st = .ok (ds, c) s) (hc : ∀ S, Le s S → ChkOk c S) (hl : ds.length ≤ sizeLine)
    (hb : ∀ x ∈ ds, ∃ a, T x a ∧ ∀ S, Le s S → ∃ e j, gf x (wipeE env vs) S = .ok e S ∧ te e S = .ok (f a) (S ++ j)) :
    ∃ l : List A, l.length = ds.length ∧ (∃ j, lcF it vs gf yesT te env st = .ok (.ref s.length) (s ++ .lst (l.map f) :: j)) ∧ ∀ a ∈ l, ∃ x ∈ ds, T x a := by
  classical
  by_cases ha : Nonempty A
  · obtain ⟨a0⟩ := ha
    let g : D → A := fun x => if h : ∃ a, T x a ∧ ∀ S, Le s S → ∃ e j, gf x (wipeE env vs) S = .ok e S ∧ te e S = .ok (f a) (S ++ j) then h.choose else a0
    have hg : ∀ x ∈ ds, T x (g x) ∧ ∀ S, Le s S → ∃ e j, gf x (wipeE env vs) S = .ok e S ∧ te e S = .ok (f (g x)) (S ++ j) := by
      intro x hx
      show T x (dite _ _ _) ∧ ∀ S, Le s S → ∃ e j, _ ∧ te e S = .ok (f (dite _ _ _)) (S ++ j)
      rw [dif_pos (hb x hx)]
      exact (hb x hx).choose_spec
    refine ⟨ds.map g, List.length_map _, ?_, fun a ha => ?_⟩
    · obtain ⟨j, e⟩ := lcF_all (fun x => f (g x)) hit hc hl fun x hx => (hg x hx).2
      exact ⟨j, by rw [e, List.map_map]; rfl⟩
    · obtain ⟨x, hx, rfl⟩ := List.mem_map.mp ha
      exact ⟨x, hx, (hg x hx).1⟩
  · have : ds = [] := by
      cases ds with
      | nil => rfl
      | cons x r => obtain ⟨a, _⟩ := hb x List.mem_cons_self; exact absurd ⟨a⟩ ha
    subst this
    obtain ⟨j, e⟩ := lcF_all (vs := vs) (gf := gf) (te := te) (fun x => x) hit hc hl fun x hx => nomatch hx
    exact ⟨[], rfl, ⟨j, e⟩, fun a ha => nomatch ha⟩
theorem minD_ok {a b : Int} {st : Sto} : minD [.int a, .int b] st = .ok (.int (min a b)) st := by
  show R.ok (D.int (if b < a then b else a)) st = _
  congr 2
  rw [Int.min_def]
  split <;> split <;> omega
theorem maxD_ok {a b : Int} {st : Sto} : maxD [.int a, .int b] st = .ok (.int (max a b)) st := by
  show R.ok (D.int (if b > a then b else a)) st = _
  congr 2
  rw [Int.max_def]
  split <;> split <;> omega
def varK (st : Sto) (o : Option (Option D)) : R D := match o with
  | some (some d) => .ok d st
  | _ => .bad
theorem varK_ap {st : Sto} {d : D} : varK st (some (some d)) = .ok d st := rfl
def eqK (o : Option Bool) (st : Sto) : R D := match o with
  | some c => .ok (.bl c) st
  | none => .bad
def neK (o : Option Bool) (st : Sto) : R D := match o with
  | some c => .ok (.bl (!c)) st
  | none => .bad
/-! ### evaluation, step by step (no binder in sight) -/
section
variable {f fa fb fo : EF} {fr : AF} {t u : TF} {a b : SF} {i n : Nat} {d e : D} {env env' : EnvD} {st s : Sto}
theorem varF_ap : varF i env st = varK st env[i]? := rfl
theorem cF_ap : cF d env st = .ok d st := rfl
def opK (g : D → D → Sto → R D) (fb : EF) (env : EnvD) (x : D) (s : Sto) : R D := (fb env s).bind (g x)
theorem opF_ap {g : D → D → Sto → R D} : opF g fa fb env st = (fa env st).bind (opK g fb env) := rfl
theorem opK_ap {g : D → D → Sto → R D} : opK g fb env d s = (fb env s).bind (g d) := rfl
def boolK (d : D) (s : Sto) : R Bool := match d with
  | .bl b => .ok b s
  | _ => .bad
theorem bF_ap : bF f env st = (f env st).bind boolK := rfl
theorem boolK_ap {c : Bool} : boolK (.bl c) s = .ok c s := rfl
def andK (u : TF) (env : EnvD) (c : Bool) (s : Sto) : R Bool := if c = true then u env s else .ok false s
def orK (u : TF) (env : EnvD) (c : Bool) (s : Sto) : R Bool := if c = true then .ok true s else u env s
def notK (c : Bool) (s : Sto) : R Bool := .ok (!c) s
theorem andT_ap : andT t u env st = (t env st).bind (andK u env) := rfl
theorem andK_ap {c : Bool} : andK u env c s = if c = true then u env s else .ok false s := rfl
theorem orT_ap : orT t u env st = (t env st).bind (orK u env) := rfl
theorem orK_ap {c : Bool} : orK u env c s = if c = true then .ok true s else u env s := rfl
theorem notT_ap : notT t env st = (t env st).bind notK := rfl
theorem notK_ap {c : Bool} : notK c s = .ok (!c) s := rfl
theorem yesT_ap : yesT env st = .ok true st := rfl
def andVK (f : EF) (env : EnvD) (c : Bool) (s : Sto) : R D := if c = true then f env s else .ok (.bl false) s
def orVK (f : EF) (env : EnvD) (c : Bool) (s : Sto) : R D := if c = true then .ok (.bl true) s else f env s
def notVK (c : Bool) (s : Sto) : R D := .ok (.bl (!c)) s
theorem andV_ap : andV fa fb env st = (bF fa env st).bind (andVK fb env) := rfl
theorem andVK_ap {c : Bool} : andVK f env c s = if c = true then f env s else .ok (.bl false) s := rfl
theorem orV_ap : orV fa fb env st = (bF fa env st).bind (orVK fb env) := rfl
theorem orVK_ap {c : Bool} : orVK f env c s = if c = true then .ok (.bl true) s else f env s := rfl
theorem notV_ap : notV fa env st = (bF fa env st).bind notVK := rfl
theorem notVK_ap {c : Bool} : notVK c s = .ok (.bl (!c)) s := rfl
def ifFK (fa fb : EF) (env : EnvD) (c : Bool) (s : Sto) : R D := if c = true then fa env s else fb env s
theorem ifF_ap : ifF t fa fb env st = (t env st).bind (ifFK fa fb env) := rfl
theorem ifFK_ap {c : Bool} : ifFK fa fb env c s = if c = true then fa env s else fb env s := rfl
theorem nilA_ap : nilA env st = .ok [] st := rfl
def consK (fr : AF) (env : EnvD) (x : D) (s : Sto) : R (List D) := (fr env s).bind fun xs s' => .ok (x :: xs) s'
def consJ (x : D) (xs : List D) (s : Sto) : R (List D) := .ok (x :: xs) s
theorem consA_ap : consA f fr env st = (f env st).bind (consK fr env) := rfl
theorem consK_ap : consK fr env d s = (fr env s).bind (consJ d) := rfl
theorem consJ_ap {ds : List D} : consJ d ds s = .ok (d :: ds) s := rfl
def tupK (xs : List D) (s : Sto) : R D := if xs.length ≤ sizeLine then .ok (.tup xs) s else .bad
def lstK (xs : List D) (s : Sto) : R D := if xs.length ≤ sizeLine then newO (.lst xs) s else .bad
theorem tupA_ap : tupA fr env st = (fr env st).bind tupK := rfl
theorem tupK_ap {xs : List D} : tupK xs s = if xs.length ≤ sizeLine then .ok (.tup xs) s else .bad := rfl
theorem lstA_ap : lstA fr env st = (fr env st).bind lstK := rfl
theorem lstK_ap {xs : List D} : lstK xs s = if xs.length ≤ sizeLine then newO (.lst xs) s else .bad := rfl
theorem newO_ap {o : O} : newO o st = .ok (.ref st.length) (st ++ [o]) := rfl
theorem dicF_ap : dicF env st = .ok (.ref st.length) (st ++ [.dic []]) := rfl
theorem callF_ap {g : List D → Sto → R D} : callF g fr env st = (fr env st).bind g := rfl
theorem un1_ap {g : D → Sto → R D} : un1 g f env st = (f env st).bind g := rfl
open Classical in
noncomputable def methK (T : String) (g : D → List D → Sto → R D) (fr : AF) (env : EnvD) (d : D) (s : Sto) : R D := if tyD T d s then (fr env s).bind (g d) else .bad
open Classical in
theorem methF_ap {T : String} {g : D → List D → Sto → R D} : methF T g fo fr env st = (fo env st).bind (methK T g fr env) := rfl
open Classical in
theorem methK_ap {T : String} {g : D → List D → Sto → R D} : methK T g fr env d s = if tyD T d s then (fr env s).bind (g d) else .bad := rfl
theorem nonO_ap : nonO env st = .ok none st := rfl
def someK (d : D) (s : Sto) : R (Option Int) := match d with
  | .int i => .ok (some i) s
  | _ => .bad
theorem someO_ap : someO f env st = (f env st).bind someK := rfl
theorem someK_ap {k : Int} : someK (.int k) s = .ok (some k) s := rfl
def slK (fl fh : OF) (env : EnvD) (d : D) (s : Sto) : R D := (fl env s).bind fun lo s1 => (fh env s1).bind fun hi s2 => slD d lo hi s2
def slJ (fh : OF) (env : EnvD) (d : D) (lo : Option Int) (s : Sto) : R D := (fh env s).bind fun hi s2 => slD d lo hi s2
theorem slF_ap {fl fh : OF} : slF f fl fh env st = (f env st).bind (slK fl fh env) := rfl
theorem slK_ap {fl fh : OF} : slK fl fh env d s = (fl env s).bind (slJ fh env d) := rfl
theorem slJ_ap {fh : OF} {lo : Option Int} : slJ fh env d lo s = (fh env s).bind (slD d lo) := rfl
theorem itF_ap : itF f env st = (f env st).bind itD := rfl
theorem itA_ap {g : List D → Sto → R (List D × Chk)} : itA g fr env st = (fr env st).bind g := rfl
theorem nilS_ap : nilS env st = .ok (.nx env) st := rfl
theorem bkS_ap : bkS env st = .ok (.bk env) st := rfl
theorem ctS_ap : ctS env st = .ok (.ct env) st := rfl
def seqK (b : SF) (fl : Fl) (s : Sto) : R Fl := match fl with
  | .nx e => b e s
  | fl => .ok fl s
theorem seqS_ap : seqS a b env st = (a env st).bind (seqK b) := rfl
theorem seqK_nx : seqK b (.nx env) s = b env s := rfl
theorem seqK_rt : seqK b (.rt d) s = .ok (.rt d) s := rfl
theorem seqK_bk : seqK b (.bk env) s = .ok (.bk env) s := rfl
theorem seqK_ct : seqK b (.ct env) s = .ok (.ct env) s := rfl
def dropK (env : EnvD) (_ : D) (s : Sto) : R Fl := .ok (.nx env) s
theorem dropS_ap : dropS f env st = (f env st).bind (dropK env) := rfl
theorem dropK_ap : dropK env d s = .ok (.nx env) s := rfl
def retK (d : D) (s : Sto) : R Fl := .ok (.rt d) s
theorem retS_ap : retS f env st = (f env st).bind retK := rfl
theorem retK_ap : retK d s = .ok (.rt d) s := rfl
theorem retN_ap : retN env st = .ok (.rt .non) st := rfl
def ifK (a b : SF) (env : EnvD) (c : Bool) (s : Sto) : R Fl := if c = true then a env s else b env s
theorem ifS_ap : ifS t a b env st = (t env st).bind (ifK a b env) := rfl
theorem ifK_ap {c : Bool} : ifK a b env c s = if c = true then a env s else b env s := rfl
def setK (i : Nat) (env : EnvD) (d : D) (s : Sto) : R Fl := .ok (.nx (env.set i (some d))) s
theorem setS_ap : setS i f env st = (f env st).bind (setK i env) := rfl
theorem setK_ap : setK i env d s = .ok (.nx (env.set i (some d))) s := rfl
def asgK (gf : GF) (env : EnvD) (d : D) (s : Sto) : R Fl := (gf d env s).bind fun e s' => .ok (.nx e) s'
def asgJ (e : EnvD) (s : Sto) : R Fl := .ok (.nx e) s
theorem asgS_ap {gf : GF} : asgS f gf env st = (f env st).bind (asgK gf env) := rfl
theorem asgK_ap {gf : GF} : asgK gf env d s = (gf d env s).bind asgJ := rfl
theorem asgJ_ap : asgJ env s = .ok (.nx env) s := rfl
theorem nameG_ap : nameG i d env st = .ok (env.set i (some d)) st := rfl
theorem nilG_ap : nilG [] env st = .ok env st := rfl
def consGK (r : List D → EnvD → Sto → R EnvD) (ds : List D) (e : EnvD) (s : Sto) : R EnvD := r ds e s
theorem consG_ap {g : GF} {r : List D → EnvD → Sto → R EnvD} {ds : List D} : consG g r (d :: ds) env st = (g d env st).bind (consGK r ds) := rfl
theorem consGK_ap {r : List D → EnvD → Sto → R EnvD} {ds : List D} : consGK r ds env s = r ds env s := rfl
theorem tupG_ap {g : List D → EnvD → Sto → R EnvD} {ds : List D} : tupG n g (.tup ds) env st = if ds.length = n then g ds env st else .bad := rfl
def fnK (fl : Fl) (s : Sto) : R D := match fl with
  | .nx _ => .ok .non s
  | .rt d => .ok d s
  | _ => .bad
theorem fnF_ap {ds : List D} : fnF n a ds st = (a (startE n ds) st).bind fnK := rfl
theorem fnK_nx : fnK (.nx env) s = .ok .non s := rfl
theorem fnK_rt : fnK (.rt d) s = .ok d s := rfl
noncomputable def forK (gf : GF) (b : SF) (env : EnvD) (p : List D × Chk) (s : Sto) : R Fl := forL p.2 gf b p.1 env s
theorem forS_ap {it : ItF} {gf : GF} : forS it gf b env st = (it env st).bind (forK gf b env) := rfl
theorem forK_ap {gf : GF} {ds : List D} {c : Chk} : forK gf b env (ds, c) s = forL c gf b ds env s := rfl
theorem intD_ap {c : Int → Int → Bool} {g : Int → Int → D} {j k : Int} : intD c g (.int j) (.int k) st = if c j k = true then .ok (g j k) st else .bad := rfl
theorem negD_ap {k : Int} : negD (.int k) st = .ok (.int (-k)) st := rfl
theorem addI_ap {j k : Int} : addD (.int j) (.int k) st = .ok (.int (j + k)) st := rfl
theorem bind_ok_ {A B : Type} {x : A} {k : A → Sto → R B} : (R.ok x s).bind k = k x s := rfl
theorem bind_ex_ {A B : Type} {c : Str} {k : A → Sto → R B} : (R.ex c s : R A).bind k = .ex c s := rfl
theorem eqD_ap : eqD d e st = eqK (eqP d e) st := by unfold eqD eqK; rfl
theorem eqK_ap {c : Bool} : eqK (some c) st = .ok (.bl c) st := rfl
theorem neD_ap : neD d e st = neK (eqP d e) st := by unfold neD neK; rfl
theorem neK_ap {c : Bool} : neK (some c) st = .ok (.bl (!c)) st := rfl
theorem eqP_str {x y : Str} : eqP (.str x) (.str y) = some (decide (x = y)) := rfl
theorem eqP_int {x y : Int} : eqP (.int x) (.int y) = some (decide (x = y)) := rfl
theorem eqP_bl {x y : Bool} : eqP (.bl x) (.bl y) = some (decide (x = y)) := rfl
theorem eqP_non : eqP .non .non = some true := rfl
theorem eqP_ni {x : Int} : eqP .non (.int x) = some false := rfl
theorem eqP_in {x : Int} : eqP (.int x) .non = some false := rfl
theorem inS_tup {neg : Bool} {ds : List D} : inSq neg d (.tup ds) st = inL neg d ds st := by cases d <;> rfl
end
theorem subD_ap {a b : Int} {st : Sto} : subD (.int a) (.int b) st = .ok (.int (a - b)) st := rfl
theorem ltD_ap {a b : Int} {st : Sto} : ltD (.int a) (.int b) st = .ok (.bl (decide (a < b))) st := rfl
theorem leD_ap {a b : Int} {st : Sto} : leD (.int a) (.int b) st = .ok (.bl (decide (a ≤ b))) st := rfl
theorem gtD_ap {a b : Int} {st : Sto} : gtD (.int a) (.int b) st = .ok (.bl (decide (a > b))) st := rfl
theorem geD_ap {a b : Int} {st : Sto} : geD (.int a) (.int b) st = .ok (.bl (decide (a ≥ b))) st := rfl
theorem mulD_ap {a b : Int} {st : Sto} (h : MulOk a b) : mulD (.int a) (.int b) st = .ok (.int (a * b)) st := by
  show (if decide (MulOk a b) = true then _ else _) = _
  rw [if_pos (decide_eq_true h)]
theorem modD_ap {a b : Int} {st : Sto} (h : 0 < b) : modD (.int a) (.int b) st = .ok (.int (a % b)) st := by
  show (if decide (0 < b) = true then _ else _) = _
  rw [if_pos (decide_eq_true h)]
theorem divD_ap {a b : Int} {st : Sto} (h : 0 < b) (h2 : b.natAbs.log2 < 9000) : divD (.int a) (.int b) st = .ok (.int (a / b)) st := by
  show (if decide (0 < b ∧ b.natAbs.log2 < 9000) = true then _ else _) = _
  rw [if_pos (decide_eq_true ⟨h, h2⟩)]
theorem powD_ap {a b : Int} {st : Sto} (h : 0 ≤ b ∧ b ≤ 1000000 ∧ a.natAbs < 2 ^ 64) : powD (.int a) (.int b) st = .ok (.int (a ^ b.toNat)) st := by
  show (if decide (0 ≤ b ∧ b ≤ 1000000 ∧ a.natAbs < 2 ^ 64) = true then _ else _) = _
  rw [if_pos (decide_eq_true h)]
theorem tupK_ok {xs : List D} {st : Sto} (h : xs.length ≤ sizeLine) : tupK xs st = .ok (.tup xs) st := by rw [tupK_ap, if_pos h]
theorem lstK_ok {xs : List D} {st : Sto} (h : xs.length ≤ sizeLine) : lstK xs st = .ok (.ref st.length) (st ++ [.lst xs]) := by rw [lstK_ap, if_pos h]; rfl
theorem methK_ok {T : String} {g : D → List D → Sto → R D} {fr : AF} {env : EnvD} {d : D} {s : Sto} (h : tyD T d s) : methK T g fr env d s = (fr env s).bind (g d) := by rw [methK_ap, if_pos h]
theorem tupG_ok {n : Nat} {g : List D → EnvD → Sto → R EnvD} {ds : List D} {env : EnvD} {st : Sto} (h : ds.length = n) : tupG n g (.tup ds) env st = g ds env st := by rw [tupG_ap, if_pos h]
theorem eqS_t {x : Str} {st : Sto} : eqD (.str x) (.str x) st = .ok (.bl true) st := by rw [eqD_ap, eqP_str, decide_eq_true rfl]; rfl
theorem eqS_f {x y : Str} {st : Sto} (h : x ≠ y) : eqD (.str x) (.str y) st = .ok (.bl false) st := by rw [eqD_ap, eqP_str, decide_eq_false h]; rfl
theorem neS_t {x : Str} {st : Sto} : neD (.str x) (.str x) st = .ok (.bl false) st := by rw [neD_ap, eqP_str, decide_eq_true rfl]; rfl
theorem neS_f {x y : Str} {st : Sto} (h : x ≠ y) : neD (.str x) (.str y) st = .ok (.bl true) st := by rw [neD_ap, eqP_str, decide_eq_false h]; rfl
theorem eqI_ap {x y : Int} {st : Sto} : eqD (.int x) (.int y) st = .ok (.bl (decide (x = y))) st := rfl
theorem neI_ap {x y : Int} {st : Sto} : neD (.int x) (.int y) st = .ok (.bl (!decide (x = y))) st := rfl
/-- x among texts -/
def isTx : List D → Bool
  | [] => true
  | .str _ :: r => isTx r
  | _ => false
theorem isTx_flat : ∀ {ds : List D}, isTx ds = true → ds.all flatD = true
  | [], _ => rfl
  | .str x :: r, h => by rw [List.all_cons, isTx_flat (ds := r) h]; rfl
  | .non :: r, h => by cases h
  | .bl _ :: r, h => by cases h
  | .int _ :: r, h => by cases h
  | .tup _ :: r, h => by cases h
  | .ref _ :: r, h => by cases h
  | .glb _ :: r, h => by cases h
  | .ty _ :: r, h => by cases h
  | .clo _ _ :: r, h => by cases h
theorem inT_nil {neg : Bool} {x : Str} {st : Sto} : inSq neg (.str x) (.tup []) st = .ok (.bl neg) st := by
  show inL neg (.str x) [] st = _
  rw [inL_ok rfl rfl]; cases neg <;> rfl
theorem inT_hit {neg : Bool} {x : Str} {ds : List D} {st : Sto} (h : isTx ds = true) : inSq neg (.str x) (.tup (.str x :: ds)) st = .ok (.bl (!neg)) st := by
  show inL neg (.str x) (.str x :: ds) st = _
  rw [inL_ok rfl (by rw [List.all_cons, isTx_flat h]; rfl), List.any_cons, eqF_str, decide_eq_true rfl, Bool.true_or]
  cases neg <;> rfl
theorem inT_miss {neg : Bool} {x y : Str} {ds : List D} {st : Sto} (h : x ≠ y) : inSq neg (.str x) (.tup (.str y :: ds)) st = inSq neg (.str x) (.tup ds) st := by
  show inL neg (.str x) (.str y :: ds) st = inL neg (.str x) ds st
  unfold inL
  rw [List.all_cons, List.any_cons, eqF_str, decide_eq_false (fun e => h e.symm), Bool.false_or]
  rfl
end VL

namespace Law
open PySem PySem.Spec PyProof.Rows L2 VL RZ RT
/-! ### the functions -/
noncomputable def b_earlier : SF :=
    (seqS (ifS (orT (bF (opF (isN false) (varF 0) (cF .non))) (bF (opF (isN false) (varF 1) (cF .non)))) (retS (opF (isN true) (varF 1) (cF .non))) nilS)
    (retS (opF ltD (varF 0) (varF 1))))
noncomputable def f_earlier : Fn := fnF 2 b_earlier
noncomputable def b_always_told : SF :=
    (mkS 0 [0])
noncomputable def f_always_told : Fn := fnF 2 b_always_told
noncomputable def b_at_place : SF :=
    (mkS 1 [0])
noncomputable def f_at_place : Fn := fnF 2 b_at_place
noncomputable def b_deed_plus : SF :=
    (retS (opF addD (varF 0) (varF 1)))
noncomputable def f_deed_plus : Fn := fnF 2 b_deed_plus
noncomputable def b_deed_minus : SF :=
    (retS (opF subD (varF 0) (varF 1)))
noncomputable def f_deed_minus : Fn := fnF 2 b_deed_minus
noncomputable def b_deed_times : SF :=
    (retS (opF mulD (varF 0) (varF 1)))
noncomputable def f_deed_times : Fn := fnF 2 b_deed_times
noncomputable def b_deed_part : SF :=
    (retS (opF divD (varF 0) (varF 1)))
noncomputable def f_deed_part : Fn := fnF 2 b_deed_part
noncomputable def b_deed_rest : SF :=
    (retS (opF modD (varF 0) (varF 1)))
noncomputable def f_deed_rest : Fn := fnF 2 b_deed_rest
noncomputable def b_reckoned_by : SF :=
    (mkS 2 [0, 1, 2])
noncomputable def f_reckoned_by : Fn := fnF 4 b_reckoned_by
noncomputable def b_chosen_by : SF :=
    (mkS 3 [0, 1, 2])
noncomputable def f_chosen_by : Fn := fnF 4 b_chosen_by
noncomputable def b_compared_by : SF :=
    (mkS 4 [0, 1, 2])
noncomputable def f_compared_by : Fn := fnF 4 b_compared_by
noncomputable def b__law_cell_at : SF :=
    (seqS (ifS (bF (opF ltD (varF 1) (callF lenD (consA (varF 0) nilA)))) (retS (opF ixD (varF 0) (varF 1))) nilS)
    (retS (cF (.int 0))))
noncomputable def f__law_cell_at : Fn := fnF 2 b__law_cell_at
noncomputable def b__law_whole : SF :=
    (retS (andV (callF isiD (consA (varF 0) (consA (cF (.ty "int")) nilA))) (notV (callF isiD (consA (varF 0) (consA (cF (.ty "bool")) nilA))))))
noncomputable def f__law_whole : Fn := fnF 1 b__law_whole
noncomputable def b__law_number_by : SF :=
    (seqS (setS 1 (opF divD (varF 0) (cF (.int 4))))
    (seqS (ifS (bF (opF eqD (opF modD (varF 0) (cF (.int 4))) (cF (.int 0)))) (retS (cF .non)) nilS)
    (seqS (ifS (bF (opF eqD (opF modD (varF 0) (cF (.int 4))) (cF (.int 1)))) (retS (opF subD (opF modD (varF 1) (cF (.int 19))) (cF (.int 9)))) nilS)
    (retS (opF addD (opF subD (opF modD (varF 1) (opF subD (opF mulD (cF (.int 2)) (opF powD (cF (.int 10)) (cF (.int 30)))) (cF (.int 1)))) (opF powD (cF (.int 10)) (cF (.int 30)))) (cF (.int 1)))))))
noncomputable def f__law_number_by : Fn := fnF 2 b__law_number_by
noncomputable def b__law_comes : SF :=
    (seqS (ifS (orT (bF (opF (isN false) (varF 0) (cF .non))) (bF (opF (isN false) (varF 1) (cF .non)))) (retS (opF (isN true) (varF 1) (cF .non))) nilS)
    (retS (opF ltD (varF 0) (varF 1))))
noncomputable def f__law_comes : Fn := fnF 2 b__law_comes
noncomputable def b__law_made : SF :=
    (seqS (ifS (orT (bF (opF (isN false) (varF 2) (cF .non))) (andT (bF (opF (inSq false) (varF 0) (tupA (consA (cF (.str "plus")) (consA (cF (.str "minus")) nilA))))) (bF (opF (isN false) (varF 3) (cF .non))))) (retS (cF .non)) nilS)
    (seqS (ifS (bF (opF eqD (varF 0) (cF (.str "plus")))) (retS (opF addD (varF 2) (varF 3))) nilS)
    (seqS (ifS (bF (opF eqD (varF 0) (cF (.str "minus")))) (retS (opF subD (varF 2) (varF 3))) nilS)
    (seqS (ifS (bF (opF eqD (varF 0) (cF (.str "times")))) (retS (opF mulD (varF 1) (varF 2))) nilS)
    (retS (opF ixD (lstA (consA (opF divD (varF 2) (callF maxD (consA (varF 1) (consA (cF (.int 1)) nilA)))) (consA (opF modD (varF 2) (callF maxD (consA (varF 1) (consA (cF (.int 1)) nilA)))) nilA))) (callF int1D (consA (opF eqD (varF 0) (cF (.str "rest"))) nilA))))))))
noncomputable def f__law_made : Fn := fnF 4 b__law_made
noncomputable def l0_before : SF :=
    (ifS (bF (opF neD (varF 2) (varF 3))) (retS (callF f_earlier (consA (varF 2) (consA (varF 3) nilA)))) nilS)
noncomputable def b_before : SF :=
    (seqS (forS (itA zipD (consA (varF 0) (consA (varF 1) nilA))) (tupG 2 (consG (nameG 2) (consG (nameG 3) nilG))) (l0_before))
    (retS (cF (.bl false))))
noncomputable def f_before : Fn := fnF 4 b_before
noncomputable def gt_1 : Str → Option Fn := fun x => none
noncomputable def gt_2 : Str → Option Fn := fun x => if x = "deed_plus" then some f_deed_plus else if x = "deed_minus" then some f_deed_minus else if x = "deed_times" then some f_deed_times else if x = "deed_part" then some f_deed_part else if x = "deed_rest" then some f_deed_rest else none
noncomputable def b_c0 (r : Nat → Option CFn) : SF :=
    (retS (varF 1))
noncomputable def c_0 (r : Nat → Option CFn) : CFn := fnC 2 (b_c0 r)
noncomputable def b_c1 (r : Nat → Option CFn) : SF :=
    (retS (opF ixD (varF 0) (varF 1)))
noncomputable def c_1 (r : Nat → Option CFn) : CFn := fnC 2 (b_c1 r)
noncomputable def b_c2 (r : Nat → Option CFn) : SF :=
    (seqS (setS 4 (callVF r gt_1 2 (consA (varF 0) nilA)))
    (seqS (setS 5 (callVF r gt_1 3 (consA (varF 0) nilA)))
    (seqS (ifS (orT (bF (opF (isN false) (varF 4) (cF .non))) (bF (opF (isN false) (varF 5) (cF .non)))) (retS (cF .non)) nilS)
    (retS (callVF (fun _ => none) gt_2 1 (consA (varF 4) (consA (varF 5) nilA)))))))
noncomputable def c_2 (r : Nat → Option CFn) : CFn := fnC 6 (b_c2 r)
noncomputable def b_c3 (r : Nat → Option CFn) : SF :=
    (seqS (ifS (bF (callVF r gt_1 1 (consA (varF 0) nilA))) (retS (callVF r gt_1 2 (consA (varF 0) nilA))) nilS)
    (retS (callVF r gt_1 3 (consA (varF 0) nilA))))
noncomputable def c_3 (r : Nat → Option CFn) : CFn := fnC 4 (b_c3 r)
noncomputable def b_c4 (r : Nat → Option CFn) : SF :=
    (seqS (setS 4 (callVF r gt_1 2 (consA (varF 0) nilA)))
    (seqS (setS 5 (callVF r gt_1 3 (consA (varF 0) nilA)))
    (seqS (ifS (bF (opF eqD (varF 1) (cF (.str "same")))) (retS (opF eqD (varF 4) (varF 5))) nilS)
    (retS (callF f_before (consA (tupA (consA (varF 4) nilA)) (consA (tupA (consA (varF 5) nilA)) nilA)))))))
noncomputable def c_4 (r : Nat → Option CFn) : CFn := fnC 6 (b_c4 r)
noncomputable def b_c5 (r : Nat → Option CFn) : EF :=
    (notV (callVF r gt_1 1 (consA (varF 0) nilA)))
noncomputable def c_5 (r : Nat → Option CFn) : CFn := exC 2 (b_c5 r)
noncomputable def b_c6 (r : Nat → Option CFn) : EF :=
    (andV (callVF r gt_1 1 (consA (varF 0) nilA)) (callVF r gt_1 2 (consA (varF 0) nilA)))
noncomputable def c_6 (r : Nat → Option CFn) : CFn := exC 3 (b_c6 r)
noncomputable def b_c7 (r : Nat → Option CFn) : EF :=
    (orV (callVF r gt_1 1 (consA (varF 0) nilA)) (callVF r gt_1 2 (consA (varF 0) nilA)))
noncomputable def c_7 (r : Nat → Option CFn) : CFn := exC 3 (b_c7 r)
noncomputable def tabN : Nat → Nat → Option CFn
  | 0 => fun _ => none
  | d + 1 => fun k => match k with
    | 0 => some (c_0 (tabN d))
    | 1 => some (c_1 (tabN d))
    | 2 => some (c_2 (tabN d))
    | 3 => some (c_3 (tabN d))
    | 4 => some (c_4 (tabN d))
    | 5 => some (c_5 (tabN d))
    | 6 => some (c_6 (tabN d))
    | 7 => some (c_7 (tabN d))
    | _ => none
theorem tab_0 (d : Nat) : tabN (d + 1) 0 = some (c_0 (tabN d)) := rfl
theorem tab_1 (d : Nat) : tabN (d + 1) 1 = some (c_1 (tabN d)) := rfl
theorem tab_2 (d : Nat) : tabN (d + 1) 2 = some (c_2 (tabN d)) := rfl
theorem tab_3 (d : Nat) : tabN (d + 1) 3 = some (c_3 (tabN d)) := rfl
theorem tab_4 (d : Nat) : tabN (d + 1) 4 = some (c_4 (tabN d)) := rfl
theorem tab_5 (d : Nat) : tabN (d + 1) 5 = some (c_5 (tabN d)) := rfl
theorem tab_6 (d : Nat) : tabN (d + 1) 6 = some (c_6 (tabN d)) := rfl
theorem tab_7 (d : Nat) : tabN (d + 1) 7 = some (c_7 (tabN d)) := rfl
noncomputable def q0__law_leaf : EF :=
    (lcF (itF (varF 1)) [3] (nameG 3) yesT (opF ixD (varF 3) (varF 2)))
noncomputable def b__law_leaf : SF :=
    (seqS (setS 2 (opF modD (opF divD (varF 0) (cF (.int 4))) (cF (.int 3))))
    (seqS (ifS (bF (opF gtD (opF modD (varF 0) (cF (.int 4))) (cF (.int 1)))) (retS (tupA (consA (tupA (consA (cF (.str "at")) (consA (varF 2) nilA))) (consA (q0__law_leaf) (consA (cF (.int 34)) (consA (cF (.int 0)) nilA)))))) nilS)
    (seqS (setS 4 (callF f__law_number_by (consA (opF addD (cF (.int 1)) (opF modD (opF divD (varF 0) (cF (.int 4))) (opF powD (cF (.int 10)) (cF (.int 40))))) nilA)))
    (seqS (ifS (orT (bF (opF eqD (opF modD (varF 0) (cF (.int 4))) (cF (.int 0)))) (bF (opF (isN false) (varF 4) (cF .non)))) (retS (tupA (consA (tupA (consA (cF (.str "gap")) nilA)) (consA (opF repD (lstA (consA (cF .non) nilA)) (cF (.int 3))) (consA (cF (.int 34)) (consA (cF (.int 0)) nilA)))))) nilS)
    (retS (tupA (consA (tupA (consA (cF (.str "num")) (consA (varF 4) nilA))) (consA (opF repD (lstA (consA (varF 4) nilA)) (cF (.int 3))) (consA (cF (.int 34)) (consA (cF (.int 0)) nilA))))))))))
noncomputable def f__law_leaf : Fn := fnF 5 b__law_leaf
noncomputable def q0__law_column : EF :=
    (lcF (itA zip3D (consA (opF ixD (varF 3) (cF (.int 1))) (consA (opF ixD (varF 1) (cF (.int 1))) (consA (opF ixD (varF 2) (cF (.int 1))) nilA)))) [7, 8, 9] (tupG 3 (consG (nameG 7) (consG (nameG 8) (consG (nameG 9) nilG)))) yesT (opF ixD (lstA (consA (varF 9) (consA (varF 8) nilA))) (callF int1D (consA (varF 7) nilA))))
noncomputable def q1__law_column : EF :=
    (lcF (itA zipD (consA (opF ixD (varF 1) (cF (.int 1))) (consA (opF ixD (varF 2) (cF (.int 1))) nilA))) [8, 9] (tupG 2 (consG (nameG 8) (consG (nameG 9) nilG))) yesT (callF f__law_made (consA (varF 4) (consA (cF (.int 0)) (consA (varF 8) (consA (varF 9) nilA))))))
noncomputable def q2__law_column : EF :=
    (lcF (itF (opF ixD (varF 1) (cF (.int 1)))) [8] (nameG 8) yesT (callF f__law_made (consA (varF 4) (consA (varF 5) (consA (varF 8) (consA (cF (.int 0)) nilA))))))
noncomputable def b__law_column : SF :=
    (seqS (setS 4 (opF ixD (lstA (consA (cF (.str "plus")) (consA (cF (.str "minus")) (consA (cF (.str "times")) (consA (cF (.str "part")) (consA (cF (.str "rest")) (consA (cF (.str "if")) nilA))))))) (opF modD (varF 0) (cF (.int 6)))))
    (seqS (setS 5 (opF subD (opF modD (opF divD (varF 0) (cF (.int 6))) (cF (.int 1999999999))) (cF (.int 999999999))))
    (seqS (ifS (bF (opF eqD (varF 4) (cF (.str "if")))) (seqS (setS 6 (q0__law_column))
    (seqS (setS 10 (tupA (consA (varF 4) (consA (opF ixD (varF 3) (cF (.int 0))) (consA (opF ixD (varF 1) (cF (.int 0))) (consA (opF ixD (varF 2) (cF (.int 0))) nilA))))))
    (retS (tupA (consA (varF 10) (consA (varF 6) (consA (opF addD (opF addD (opF addD (cF (.int 20)) (opF ixD (varF 3) (cF (.int 2)))) (opF ixD (varF 1) (cF (.int 2)))) (opF ixD (varF 2) (cF (.int 2)))) (consA (opF addD (cF (.int 1)) (callF max3D (consA (opF ixD (varF 3) (cF (.int 3))) (consA (opF ixD (varF 1) (cF (.int 3))) (consA (opF ixD (varF 2) (cF (.int 3))) nilA))))) nilA)))))))) nilS)
    (seqS (ifS (orT (bF (opF eqD (varF 4) (cF (.str "plus")))) (bF (opF eqD (varF 4) (cF (.str "minus"))))) (seqS (setS 6 (q1__law_column))
    (retS (tupA (consA (tupA (consA (varF 4) (consA (opF ixD (varF 1) (cF (.int 0))) (consA (opF ixD (varF 2) (cF (.int 0))) nilA)))) (consA (varF 6) (consA (opF addD (opF addD (cF (.int 20)) (opF ixD (varF 1) (cF (.int 2)))) (opF ixD (varF 2) (cF (.int 2)))) (consA (opF addD (cF (.int 1)) (callF maxD (consA (opF ixD (varF 1) (cF (.int 3))) (consA (opF ixD (varF 2) (cF (.int 3))) nilA)))) nilA))))))) nilS)
    (seqS (ifS (bF (opF neD (varF 4) (cF (.str "times")))) (setS 5 (opF addD (cF (.int 1)) (opF modD (opF divD (varF 0) (cF (.int 12))) (opF ixD (lstA (consA (cF (.int 9)) (consA (cF (.int 999999999)) nilA))) (opF modD (opF divD (varF 0) (cF (.int 6))) (cF (.int 2))))))) nilS)
    (seqS (setS 6 (q2__law_column))
    (retS (tupA (consA (tupA (consA (varF 4) (consA (varF 5) (consA (opF ixD (varF 1) (cF (.int 0))) nilA)))) (consA (varF 6) (consA (opF addD (cF (.int 20)) (opF ixD (varF 1) (cF (.int 2)))) (consA (opF addD (cF (.int 1)) (opF ixD (varF 1) (cF (.int 3)))) nilA))))))))))))
noncomputable def f__law_column : Fn := fnF 11 b__law_column
noncomputable def q0__law_compared : EF :=
    (lcF (itA zipD (consA (opF ixD (varF 1) (cF (.int 1))) (consA (opF ixD (varF 2) (cF (.int 1))) nilA))) [4, 5] (tupG 2 (consG (nameG 4) (consG (nameG 5) nilG))) yesT (opF eqD (varF 4) (varF 5)))
noncomputable def q1__law_compared : EF :=
    (lcF (itA zipD (consA (opF ixD (varF 1) (cF (.int 1))) (consA (opF ixD (varF 2) (cF (.int 1))) nilA))) [4, 5] (tupG 2 (consG (nameG 4) (consG (nameG 5) nilG))) yesT (callF f__law_comes (consA (varF 4) (consA (varF 5) nilA))))
noncomputable def b__law_compared : SF :=
    (seqS (ifS (bF (opF eqD (varF 0) (cF (.str "same")))) (setS 3 (q0__law_compared)) (setS 3 (q1__law_compared)))
    (retS (tupA (consA (tupA (consA (varF 0) (consA (opF ixD (varF 1) (cF (.int 0))) (consA (opF ixD (varF 2) (cF (.int 0))) nilA)))) (consA (varF 3) (consA (opF addD (opF addD (cF (.int 20)) (opF ixD (varF 1) (cF (.int 2)))) (opF ixD (varF 2) (cF (.int 2)))) (consA (opF addD (cF (.int 1)) (callF maxD (consA (opF ixD (varF 1) (cF (.int 3))) (consA (opF ixD (varF 2) (cF (.int 3))) nilA)))) nilA)))))))
noncomputable def f__law_compared : Fn := fnF 6 b__law_compared
noncomputable def b__law_fits : SF :=
    (seqS (ifS (bF (opF (isN false) (varF 1) (cF .non))) (retS (opF (isN false) (varF 0) (cF .non))) nilS)
    (seqS (ifS (bF (callF isiD (consA (varF 1) (consA (cF (.ty "bool")) nilA)))) (retS (andV (callF isiD (consA (varF 0) (consA (cF (.ty "bool")) nilA))) (opF eqD (varF 0) (varF 1)))) nilS)
    (retS (andV (callF f__law_whole (consA (varF 0) nilA)) (opF eqD (varF 0) (varF 1))))))
noncomputable def f__law_fits : Fn := fnF 2 b__law_fits
noncomputable def q0__law_test : EF :=
    (lcF (itF (opF ixD (varF 3) (cF (.int 1)))) [4] (nameG 4) yesT (notV (varF 4)))
noncomputable def q1__law_test : EF :=
    (lcF (itA zipD (consA (opF ixD (varF 3) (cF (.int 1))) (consA (opF ixD (varF 5) (cF (.int 1))) nilA))) [7, 8] (tupG 2 (consG (nameG 7) (consG (nameG 8) nilG))) yesT (andV (varF 7) (varF 8)))
noncomputable def q2__law_test : EF :=
    (lcF (itA zipD (consA (opF ixD (varF 3) (cF (.int 1))) (consA (opF ixD (varF 5) (cF (.int 1))) nilA))) [7, 8] (tupG 2 (consG (nameG 7) (consG (nameG 8) nilG))) yesT (orV (varF 7) (varF 8)))
noncomputable def b__law_test : SF :=
    (seqS (ifS (bF (opF ltD (opF modD (varF 0) (cF (.int 5))) (cF (.int 2)))) (retS (callF f__law_compared (consA (opF ixD (lstA (consA (cF (.str "below")) (consA (cF (.str "same")) nilA))) (opF modD (varF 0) (cF (.int 5)))) (consA (varF 1) (consA (varF 2) nilA))))) nilS)
    (seqS (ifS (bF (opF eqD (opF modD (varF 0) (cF (.int 5))) (cF (.int 2)))) (retS (tupA (consA (tupA (consA (cF (.str "not")) (consA (opF ixD (varF 3) (cF (.int 0))) nilA))) (consA (q0__law_test) (consA (opF addD (cF (.int 20)) (opF ixD (varF 3) (cF (.int 2)))) (consA (opF addD (cF (.int 1)) (opF ixD (varF 3) (cF (.int 3)))) nilA)))))) nilS)
    (seqS (setS 5 (callF f__law_compared (consA (opF ixD (lstA (consA (cF (.str "below")) (consA (cF (.str "same")) nilA))) (opF modD (opF divD (varF 0) (cF (.int 5))) (cF (.int 2)))) (consA (varF 2) (consA (varF 1) nilA)))))
    (seqS (ifS (bF (opF eqD (opF modD (varF 0) (cF (.int 5))) (cF (.int 3)))) (setS 6 (q1__law_test)) (setS 6 (q2__law_test)))
    (seqS (setS 9 (opF ixD (lstA (consA (cF (.str "and")) (consA (cF (.str "or")) nilA))) (opF subD (opF modD (varF 0) (cF (.int 5))) (cF (.int 3)))))
    (retS (tupA (consA (tupA (consA (varF 9) (consA (opF ixD (varF 3) (cF (.int 0))) (consA (opF ixD (varF 5) (cF (.int 0))) nilA)))) (consA (varF 6) (consA (opF addD (opF addD (cF (.int 20)) (opF ixD (varF 3) (cF (.int 2)))) (opF ixD (varF 5) (cF (.int 2)))) (consA (opF addD (cF (.int 1)) (callF maxD (consA (opF ixD (varF 3) (cF (.int 3))) (consA (opF ixD (varF 5) (cF (.int 3))) nilA)))) nilA)))))))))))
noncomputable def f__law_test : Fn := fnF 10 b__law_test
noncomputable def b_column (r_column r_test : Fn) : SF :=
    (seqS (setS 1 (opF ixD (varF 0) (cF (.int 0))))
    (seqS (ifS (bF (opF eqD (varF 1) (cF (.str "at")))) (retS (callF f_at_place (consA (opF ixD (varF 0) (cF (.int 1))) nilA))) nilS)
    (seqS (ifS (bF (opF eqD (varF 1) (cF (.str "num")))) (retS (callF f_always_told (consA (opF ixD (varF 0) (cF (.int 1))) nilA))) nilS)
    (seqS (ifS (bF (opF eqD (varF 1) (cF (.str "gap")))) (retS (callF f_always_told (consA (cF .non) nilA))) nilS)
    (seqS (ifS (bF (opF eqD (varF 1) (cF (.str "if")))) (retS (callF f_chosen_by (consA (callF r_test (consA (opF ixD (varF 0) (cF (.int 1))) nilA)) (consA (callF r_column (consA (opF ixD (varF 0) (cF (.int 2))) nilA)) (consA (callF r_column (consA (opF ixD (varF 0) (cF (.int 3))) nilA)) nilA))))) nilS)
    (seqS (ifS (bF (opF eqD (varF 1) (cF (.str "plus")))) (retS (callF f_reckoned_by (consA (cF (.glb "deed_plus")) (consA (callF r_column (consA (opF ixD (varF 0) (cF (.int 1))) nilA)) (consA (callF r_column (consA (opF ixD (varF 0) (cF (.int 2))) nilA)) nilA))))) nilS)
    (seqS (ifS (bF (opF eqD (varF 1) (cF (.str "minus")))) (retS (callF f_reckoned_by (consA (cF (.glb "deed_minus")) (consA (callF r_column (consA (opF ixD (varF 0) (cF (.int 1))) nilA)) (consA (callF r_column (consA (opF ixD (varF 0) (cF (.int 2))) nilA)) nilA))))) nilS)
    (seqS (ifS (bF (opF eqD (varF 1) (cF (.str "times")))) (retS (callF f_reckoned_by (consA (cF (.glb "deed_times")) (consA (callF f_always_told (consA (opF ixD (varF 0) (cF (.int 1))) nilA)) (consA (callF r_column (consA (opF ixD (varF 0) (cF (.int 2))) nilA)) nilA))))) nilS)
    (seqS (ifS (bF (opF eqD (varF 1) (cF (.str "part")))) (retS (callF f_reckoned_by (consA (cF (.glb "deed_part")) (consA (callF r_column (consA (opF ixD (varF 0) (cF (.int 2))) nilA)) (consA (callF f_always_told (consA (opF ixD (varF 0) (cF (.int 1))) nilA)) nilA))))) nilS)
    (retS (callF f_reckoned_by (consA (cF (.glb "deed_rest")) (consA (callF r_column (consA (opF ixD (varF 0) (cF (.int 2))) nilA)) (consA (callF f_always_told (consA (opF ixD (varF 0) (cF (.int 1))) nilA)) nilA))))))))))))))
noncomputable def b_test (r_column r_test : Fn) : SF :=
    (seqS (setS 1 (opF ixD (varF 0) (cF (.int 0))))
    (seqS (ifS (orT (bF (opF eqD (varF 1) (cF (.str "below")))) (bF (opF eqD (varF 1) (cF (.str "same"))))) (retS (callF f_compared_by (consA (varF 1) (consA (callF r_column (consA (opF ixD (varF 0) (cF (.int 1))) nilA)) (consA (callF r_column (consA (opF ixD (varF 0) (cF (.int 2))) nilA)) nilA))))) nilS)
    (seqS (setS 2 (callF r_test (consA (opF ixD (varF 0) (cF (.int 1))) nilA)))
    (seqS (ifS (bF (opF eqD (varF 1) (cF (.str "not")))) (mkS 5 [2]) nilS)
    (seqS (setS 3 (callF r_test (consA (opF ixD (varF 0) (cF (.int 2))) nilA)))
    (seqS (ifS (bF (opF eqD (varF 1) (cF (.str "and")))) (mkS 6 [2, 3]) nilS)
    (mkS 7 [2, 3])))))))
noncomputable def F_column : Nat → Fn × Fn
  | 0 => (fun _ _ => .bad, fun _ _ => .bad)
  | d + 1 => (fnF 2 (b_column ((F_column d).1) ((F_column d).2)), fnF 4 (b_test ((F_column d).1) ((F_column d).2)))
noncomputable def f_column (d : Nat) : Fn := (F_column d).1
noncomputable def f_test (d : Nat) : Fn := (F_column d).2
theorem f_column_s (d : Nat) : f_column (d + 1) = fnF 2 (b_column (f_column d) (f_test d)) := rfl
theorem f_test_s (d : Nat) : f_test (d + 1) = fnF 4 (b_test (f_column d) (f_test d)) := rfl
noncomputable def q0_law : EF :=
    (lcF (itA rng1D (consA (cF (.int 3)) nilA)) [4] (nameG 4) yesT (callF f__law_number_by (consA (callF f__law_cell_at (consA (varF 0) (consA (varF 4) nilA))) nilA)))
noncomputable def l3_law : SF :=
    (ifS (notT (bF (callF f__law_fits (consA (callVF (tabN 30) gt_1 12 (consA (varF 14) nilA)) (consA (varF 15) nilA))))) (retS (cF (.bl false))) nilS)
noncomputable def l2_law : SF :=
    (forS (itA zipD (consA (varF 5) (consA (opF ixD (varF 11) (cF (.int 1))) nilA))) (tupG 2 (consG (nameG 14) (consG (nameG 15) nilG))) (l3_law))
noncomputable def l1_law : SF :=
    (forS (itA rng1D (consA (cF (.int 2)) nilA)) (nameG 13) (l2_law))
noncomputable def l0_law : SF :=
    (seqS (setS 10 (opF divD (varF 9) (cF (.int 4))))
    (seqS (ifS (bF (opF eqD (opF modD (varF 9) (cF (.int 4))) (cF (.int 0)))) (seqS (setS 7 (varF 6))
    (setS 6 (callF f__law_leaf (consA (varF 10) (consA (varF 5) nilA))))) (ifS (bF (opF eqD (opF modD (varF 9) (cF (.int 4))) (cF (.int 1)))) (setS 8 (callF f__law_test (consA (varF 10) (consA (varF 6) (consA (varF 7) (consA (varF 8) nilA)))))) (setS 6 (callF f__law_column (consA (varF 10) (consA (varF 6) (consA (varF 7) (consA (varF 8) nilA))))))))
    (seqS (ifS (orT (bF (opF gtD (opF ixD (varF 6) (cF (.int 2))) (cF (.int 1800)))) (bF (opF gtD (opF ixD (varF 6) (cF (.int 3))) (cF (.int 26))))) (setS 6 (callF f__law_leaf (consA (cF (.int 2)) (consA (varF 5) nilA)))) nilS)
    (ifS (orT (bF (opF gtD (opF ixD (varF 8) (cF (.int 2))) (cF (.int 1800)))) (bF (opF gtD (opF ixD (varF 8) (cF (.int 3))) (cF (.int 26))))) (setS 8 (callF f__law_compared (consA (cF (.str "same")) (consA (callF f__law_leaf (consA (varF 10) (consA (varF 5) nilA))) (consA (callF f__law_leaf (consA (cF (.int 6)) (consA (varF 5) nilA))) nilA))))) nilS))))
noncomputable def b_law : SF :=
    (seqS (asgS (q0_law) (unlG 3 (consG (nameG 1) (consG (nameG 2) (consG (nameG 3) nilG)))))
    (seqS (setS 5 (lstA (consA (tupA (consA (varF 1) (consA (varF 2) (consA (varF 3) nilA)))) (consA (tupA (consA (varF 2) (consA (varF 3) (consA (varF 1) nilA)))) (consA (tupA (consA (cF .non) (consA (varF 1) (consA (varF 2) nilA)))) nilA)))))
    (seqS (setS 6 (callF f__law_leaf (consA (cF (.int 2)) (consA (varF 5) nilA))))
    (seqS (setS 7 (callF f__law_leaf (consA (cF (.int 6)) (consA (varF 5) nilA))))
    (seqS (setS 8 (callF f__law_compared (consA (cF (.str "below")) (consA (varF 6) (consA (varF 7) nilA)))))
    (seqS (forS (itF (slF (varF 0) (someO (cF (.int 3))) (someO (cF (.int 63))))) (nameG 9) (l0_law))
    (seqS (forS (itF (lstA (consA (tupA (consA (varF 6) (consA (callF (f_column 30) (consA (opF ixD (varF 6) (cF (.int 0))) nilA)) nilA))) (consA (tupA (consA (varF 7) (consA (callF (f_column 30) (consA (opF ixD (varF 7) (cF (.int 0))) nilA)) nilA))) (consA (tupA (consA (varF 8) (consA (callF (f_test 30) (consA (opF ixD (varF 8) (cF (.int 0))) nilA)) nilA))) nilA))))) (tupG 2 (consG (nameG 11) (consG (nameG 12) nilG))) (l1_law))
    (retS (cF (.bl true))))))))))
noncomputable def f_law : Fn := fnF 16 b_law
end Law
namespace Law
open PySem L2 VL
/-! columns and tests: what the made functions tell -/
/-- the function tl (by d calls within at most) tells v of the row xs -/
def Tl (d : Nat) (tl : VL.D) (xs : List VL.D) (v : VL.D) : Prop := ∃ k caps, tl = .clo k caps ∧ nrs caps = true ∧ ∀ e, d ≤ e → ∃ c s, tabN e k = some c ∧ c caps [.tup xs] [] = .ok v s
theorem Tl.mono {d e : Nat} {tl : VL.D} {xs : List VL.D} {v : VL.D} (h : Tl d tl xs v) (l : d ≤ e) : Tl e tl xs v := by
  obtain ⟨k, caps, h1, h2, h3⟩ := h
  exact ⟨k, caps, h1, h2, fun e' he => h3 e' (Nat.le_trans l he)⟩
theorem Tl.nr {d : Nat} {tl : VL.D} {xs : List VL.D} {v : VL.D} (h : Tl d tl xs v) : nr tl = true := by
  obtain ⟨k, caps, rfl, h2, _⟩ := h
  unfold VL.nr
  exact h2
theorem Tl.call {d e i j : Nat} {tl : VL.D} {xs : List VL.D} {v : VL.D} {env : EnvD} {st : Sto} {gt : Str → Option VL.Fn} (h : Tl d tl xs v) (l : d ≤ e) (hx : pds xs = true) (hv : pd v = true) (hi : env[i]? = some (some tl)) (hj : env[j]? = some (some (.tup xs))) :
    callVF (tabN e) gt i (consA (varF j) nilA) env st = .ok v st := by
  obtain ⟨k, caps, rfl, h2, h3⟩ := h
  obtain ⟨c, s, h4, h5⟩ := h3 e l
  unfold callVF
  rw [hi]
  simp only [h4]
  rw [consA_ap]
  unfold varF
  rw [hj]
  show clS c caps [.tup xs] st = _
  unfold clS
  have hp : pds [VL.D.tup xs] = true := by unfold pds pds; rw [Bool.and_true]; unfold pd; exact hx
  rw [h2, hp, Bool.and_self, if_pos rfl, h5]
  simp only
  rw [if_pos hv]
theorem tl_always {c : VL.D} {xs : List VL.D} (h : VL.nr c = true) : Tl 1 (.clo 0 [c]) xs c := ⟨0, [c], rfl, by unfold nrs nrs; rw [h]; rfl, fun e he => by
  obtain ⟨e, rfl⟩ : ∃ e', e = e' + 1 := ⟨e - 1, by omega⟩
  exact ⟨_, _, tab_0 e, rfl⟩⟩
theorem tl_at {p : Nat} {xs : List VL.D} {v : VL.D} (h : xs[p]? = some v) : Tl 1 (.clo 1 [.int p]) xs v := ⟨1, [.int p], rfl, rfl, fun e he => by
  obtain ⟨e, rfl⟩ : ∃ e', e = e' + 1 := ⟨e - 1, by omega⟩
  have hi : ixD (.tup xs) (.int (p : Int)) [] = .ok v [] := ixD_tup h
  refine ⟨_, [], tab_1 e, ?_⟩
  show (retS (opF ixD (varF 0) (varF 1)) (startC 2 [VL.D.int p] [.tup xs]) []).bind _ = _
  have e0 : startC 2 [VL.D.int p] [.tup xs] = [some (.tup xs), some (.int p)] := rfl
  rw [e0]
  simp -implicitDefEqProofs only [varF_ap, cF_ap, opF_ap, opK_ap, bF_ap, boolK_ap, andT_ap, andK_ap, orT_ap, orK_ap, notT_ap, notK_ap, yesT_ap, andV_ap, andVK_ap, orV_ap, orVK_ap, notV_ap, notVK_ap, ifF_ap, ifFK_ap, nilA_ap, consA_ap, consK_ap, consJ_ap, tupA_ap, tupK_ap, lstA_ap, lstK_ap, newO_ap, dicF_ap, callF_ap, un1_ap, methF_ap, methK_ap, nonO_ap, someO_ap, someK_ap, slF_ap, slK_ap, slJ_ap, itF_ap, itA_ap, nilS_ap, bkS_ap, ctS_ap, seqS_ap, seqK_nx, seqK_rt, seqK_bk, seqK_ct, dropS_ap, dropK_ap, retS_ap, retK_ap, retN_ap, ifS_ap, ifK_ap, setS_ap, setK_ap, asgS_ap, asgK_ap, asgJ_ap, nameG_ap, nilG_ap, consG_ap, consGK_ap, tupG_ap, fnF_ap, fnK_nx, fnK_rt, forS_ap, forK_ap, intD_ap, negD_ap, addI_ap, varK_ap, startE, yes2, isN, List.map_cons, List.map_nil, List.length_cons, List.length_nil, List.replicate, List.append_nil, List.cons_append, List.nil_append, List.getElem?_cons_zero, List.getElem?_cons_succ, List.set_cons_zero, List.set_cons_succ, R.bind_ok, R.bind_ex, R.bind_bad, R.noex_ok, if_true, if_false, Bool.false_eq_true, Bool.true_eq_false, ite_true, ite_false, reduceIte, Nat.reduceAdd, Nat.reduceSub, Nat.zero_add, Nat.sub_self, Nat.sub_zero, decide_true, decide_false, Bool.not_true, Bool.not_false, opK_ap, hi]⟩
/-- two cells reckoned with -/
def reck (f : Int → Int → Int) : VL.D → VL.D → VL.D
  | .int a, .int b => .int (f a b)
  | _, _ => .non
def cellB : VL.D → Bool
  | .non => true
  | .int _ => true
  | _ => false
theorem cellB_cases {d : VL.D} (h : cellB d = true) : d = .non ∨ ∃ i, d = .int i := by
  cases d with
  | non => exact .inl rfl
  | int i => exact .inr ⟨i, rfl⟩
  | _ => cases h
theorem cellB_pd {d : VL.D} (h : cellB d = true) : pd d = true := by
  rcases cellB_cases h with rfl | ⟨i, rfl⟩ <;> rfl
theorem cells_pds : ∀ {xs : List VL.D}, (∀ x ∈ xs, cellB x = true) → pds xs = true
  | [], _ => rfl
  | x :: xs, h => by
    unfold pds
    rw [cellB_pd (h x List.mem_cons_self), cells_pds fun y hy => h y (List.mem_cons_of_mem _ hy)]
    rfl
theorem tl_reck {d : Nat} {w : Str} {f g : VL.D} {xs : List VL.D} {a b : VL.D} {op : Int → Int → Int} {fn : VL.Fn} (hf : Tl d f xs a) (hg : Tl d g xs b) (hx : pds xs = true) (ca : cellB a = true) (cb : cellB b = true) (hw : gt_2 w = some fn)
    (ho : ∀ i j, a = .int i → b = .int j → fn [.int i, .int j] [] = .ok (.int (op i j)) []) : Tl (d + 1) (.clo 2 [.glb w, f, g]) xs (reck op a b) := ⟨2, _, rfl, by
  unfold nrs nrs nrs nrs
  rw [hf.nr, hg.nr]
  rfl, fun e he => by
  obtain ⟨e, rfl⟩ : ∃ e', e = e' + 1 := ⟨e - 1, by omega⟩
  have e0 : startC 6 [VL.D.glb w, f, g] [.tup xs] = [some (.tup xs), some (.glb w), some f, some g, none, none] := rfl
  have c1 := hf.call (e := e) (i := 2) (j := 0) (env := [some (.tup xs), some (.glb w), some f, some g, none, none]) (st := []) (gt := gt_1) (by omega) hx (cellB_pd ca) rfl rfl
  have c2 := hg.call (e := e) (i := 3) (j := 0) (env := [some (.tup xs), some (.glb w), some f, some g, some a, none]) (st := []) (gt := gt_1) (by omega) hx (cellB_pd cb) rfl rfl
  refine ⟨_, [], tab_2 e, ?_⟩
  show (b_c2 (tabN e) (startC 6 [VL.D.glb w, f, g] [.tup xs]) []).bind _ = _
  rw [e0]
  rcases cellB_cases ca with rfl | ⟨i, rfl⟩
  · simp -implicitDefEqProofs only [varF_ap, cF_ap, opF_ap, opK_ap, bF_ap, boolK_ap, andT_ap, andK_ap, orT_ap, orK_ap, notT_ap, notK_ap, yesT_ap, andV_ap, andVK_ap, orV_ap, orVK_ap, notV_ap, notVK_ap, ifF_ap, ifFK_ap, nilA_ap, consA_ap, consK_ap, consJ_ap, tupA_ap, tupK_ap, lstA_ap, lstK_ap, newO_ap, dicF_ap, callF_ap, un1_ap, methF_ap, methK_ap, nonO_ap, someO_ap, someK_ap, slF_ap, slK_ap, slJ_ap, itF_ap, itA_ap, nilS_ap, bkS_ap, ctS_ap, seqS_ap, seqK_nx, seqK_rt, seqK_bk, seqK_ct, dropS_ap, dropK_ap, retS_ap, retK_ap, retN_ap, ifS_ap, ifK_ap, setS_ap, setK_ap, asgS_ap, asgK_ap, asgJ_ap, nameG_ap, nilG_ap, consG_ap, consGK_ap, tupG_ap, fnF_ap, fnK_nx, fnK_rt, forS_ap, forK_ap, intD_ap, negD_ap, addI_ap, varK_ap, startE, yes2, isN, List.map_cons, List.map_nil, List.length_cons, List.length_nil, List.replicate, List.append_nil, List.cons_append, List.nil_append, List.getElem?_cons_zero, List.getElem?_cons_succ, List.set_cons_zero, List.set_cons_succ, R.bind_ok, R.bind_ex, R.bind_bad, R.noex_ok, if_true, if_false, Bool.false_eq_true, Bool.true_eq_false, ite_true, ite_false, reduceIte, Nat.reduceAdd, Nat.reduceSub, Nat.zero_add, Nat.sub_self, Nat.sub_zero, decide_true, decide_false, Bool.not_true, Bool.not_false, b_c2, c1, c2]
    rfl
  · rcases cellB_cases cb with rfl | ⟨j, rfl⟩
    · simp -implicitDefEqProofs only [varF_ap, cF_ap, opF_ap, opK_ap, bF_ap, boolK_ap, andT_ap, andK_ap, orT_ap, orK_ap, notT_ap, notK_ap, yesT_ap, andV_ap, andVK_ap, orV_ap, orVK_ap, notV_ap, notVK_ap, ifF_ap, ifFK_ap, nilA_ap, consA_ap, consK_ap, consJ_ap, tupA_ap, tupK_ap, lstA_ap, lstK_ap, newO_ap, dicF_ap, callF_ap, un1_ap, methF_ap, methK_ap, nonO_ap, someO_ap, someK_ap, slF_ap, slK_ap, slJ_ap, itF_ap, itA_ap, nilS_ap, bkS_ap, ctS_ap, seqS_ap, seqK_nx, seqK_rt, seqK_bk, seqK_ct, dropS_ap, dropK_ap, retS_ap, retK_ap, retN_ap, ifS_ap, ifK_ap, setS_ap, setK_ap, asgS_ap, asgK_ap, asgJ_ap, nameG_ap, nilG_ap, consG_ap, consGK_ap, tupG_ap, fnF_ap, fnK_nx, fnK_rt, forS_ap, forK_ap, intD_ap, negD_ap, addI_ap, varK_ap, startE, yes2, isN, List.map_cons, List.map_nil, List.length_cons, List.length_nil, List.replicate, List.append_nil, List.cons_append, List.nil_append, List.getElem?_cons_zero, List.getElem?_cons_succ, List.set_cons_zero, List.set_cons_succ, R.bind_ok, R.bind_ex, R.bind_bad, R.noex_ok, if_true, if_false, Bool.false_eq_true, Bool.true_eq_false, ite_true, ite_false, reduceIte, Nat.reduceAdd, Nat.reduceSub, Nat.zero_add, Nat.sub_self, Nat.sub_zero, decide_true, decide_false, Bool.not_true, Bool.not_false, b_c2, c1, c2]
      rfl
    · have c3 : callVF (fun _ => none) gt_2 1 (consA (varF 4) (consA (varF 5) nilA)) [some (.tup xs), some (.glb w), some f, some g, some (.int i), some (.int j)] [] = .ok (.int (op i j)) [] := by
        show (match gt_2 w with | some fn => (consA (varF 4) (consA (varF 5) nilA) [some (.tup xs), some (.glb w), some f, some g, some (.int i), some (.int j)] []).bind fun ds s => fn ds s | none => .bad) = _
        rw [hw]
        exact ho i j rfl rfl
      simp -implicitDefEqProofs only [varF_ap, cF_ap, opF_ap, opK_ap, bF_ap, boolK_ap, andT_ap, andK_ap, orT_ap, orK_ap, notT_ap, notK_ap, yesT_ap, andV_ap, andVK_ap, orV_ap, orVK_ap, notV_ap, notVK_ap, ifF_ap, ifFK_ap, nilA_ap, consA_ap, consK_ap, consJ_ap, tupA_ap, tupK_ap, lstA_ap, lstK_ap, newO_ap, dicF_ap, callF_ap, un1_ap, methF_ap, methK_ap, nonO_ap, someO_ap, someK_ap, slF_ap, slK_ap, slJ_ap, itF_ap, itA_ap, nilS_ap, bkS_ap, ctS_ap, seqS_ap, seqK_nx, seqK_rt, seqK_bk, seqK_ct, dropS_ap, dropK_ap, retS_ap, retK_ap, retN_ap, ifS_ap, ifK_ap, setS_ap, setK_ap, asgS_ap, asgK_ap, asgJ_ap, nameG_ap, nilG_ap, consG_ap, consGK_ap, tupG_ap, fnF_ap, fnK_nx, fnK_rt, forS_ap, forK_ap, intD_ap, negD_ap, addI_ap, varK_ap, startE, yes2, isN, List.map_cons, List.map_nil, List.length_cons, List.length_nil, List.replicate, List.append_nil, List.cons_append, List.nil_append, List.getElem?_cons_zero, List.getElem?_cons_succ, List.set_cons_zero, List.set_cons_succ, R.bind_ok, R.bind_ex, R.bind_bad, R.noex_ok, if_true, if_false, Bool.false_eq_true, Bool.true_eq_false, ite_true, ite_false, reduceIte, Nat.reduceAdd, Nat.reduceSub, Nat.zero_add, Nat.sub_self, Nat.sub_zero, decide_true, decide_false, Bool.not_true, Bool.not_false, b_c2, c1, c2, c3]
      rfl⟩
theorem tl_chosen {d : Nat} {q f g : VL.D} {xs : List VL.D} {b : Bool} {v : VL.D} (hq : Tl d q xs (.bl b)) (hf : b = true → Tl d f xs v) (hg : b = false → Tl d g xs v) (nf : VL.nr f = true) (ng : VL.nr g = true) (hx : pds xs = true) (cv : cellB v = true) : Tl (d + 1) (.clo 3 [q, f, g]) xs v := ⟨3, _, rfl, by
  unfold nrs nrs nrs nrs
  rw [hq.nr, nf, ng]
  rfl, fun e he => by
  obtain ⟨e, rfl⟩ : ∃ e', e = e' + 1 := ⟨e - 1, by omega⟩
  have e0 : startC 4 [q, f, g] [.tup xs] = [some (.tup xs), some q, some f, some g] := rfl
  have c1 := hq.call (e := e) (i := 1) (j := 0) (env := [some (.tup xs), some q, some f, some g]) (st := []) (gt := gt_1) (by omega) hx rfl rfl rfl
  refine ⟨_, [], tab_3 e, ?_⟩
  show (b_c3 (tabN e) (startC 4 [q, f, g] [.tup xs]) []).bind _ = _
  rw [e0]
  cases b with
  | true =>
    have c2 := (hf rfl).call (e := e) (i := 2) (j := 0) (env := [some (.tup xs), some q, some f, some g]) (st := []) (gt := gt_1) (by omega) hx (cellB_pd cv) rfl rfl
    simp -implicitDefEqProofs only [varF_ap, cF_ap, opF_ap, opK_ap, bF_ap, boolK_ap, andT_ap, andK_ap, orT_ap, orK_ap, notT_ap, notK_ap, yesT_ap, andV_ap, andVK_ap, orV_ap, orVK_ap, notV_ap, notVK_ap, ifF_ap, ifFK_ap, nilA_ap, consA_ap, consK_ap, consJ_ap, tupA_ap, tupK_ap, lstA_ap, lstK_ap, newO_ap, dicF_ap, callF_ap, un1_ap, methF_ap, methK_ap, nonO_ap, someO_ap, someK_ap, slF_ap, slK_ap, slJ_ap, itF_ap, itA_ap, nilS_ap, bkS_ap, ctS_ap, seqS_ap, seqK_nx, seqK_rt, seqK_bk, seqK_ct, dropS_ap, dropK_ap, retS_ap, retK_ap, retN_ap, ifS_ap, ifK_ap, setS_ap, setK_ap, asgS_ap, asgK_ap, asgJ_ap, nameG_ap, nilG_ap, consG_ap, consGK_ap, tupG_ap, fnF_ap, fnK_nx, fnK_rt, forS_ap, forK_ap, intD_ap, negD_ap, addI_ap, varK_ap, startE, yes2, isN, List.map_cons, List.map_nil, List.length_cons, List.length_nil, List.replicate, List.append_nil, List.cons_append, List.nil_append, List.getElem?_cons_zero, List.getElem?_cons_succ, List.set_cons_zero, List.set_cons_succ, R.bind_ok, R.bind_ex, R.bind_bad, R.noex_ok, if_true, if_false, Bool.false_eq_true, Bool.true_eq_false, ite_true, ite_false, reduceIte, Nat.reduceAdd, Nat.reduceSub, Nat.zero_add, Nat.sub_self, Nat.sub_zero, decide_true, decide_false, Bool.not_true, Bool.not_false, b_c3, c1, c2]
  | false =>
    have c2 := (hg rfl).call (e := e) (i := 3) (j := 0) (env := [some (.tup xs), some q, some f, some g]) (st := []) (gt := gt_1) (by omega) hx (cellB_pd cv) rfl rfl
    simp -implicitDefEqProofs only [varF_ap, cF_ap, opF_ap, opK_ap, bF_ap, boolK_ap, andT_ap, andK_ap, orT_ap, orK_ap, notT_ap, notK_ap, yesT_ap, andV_ap, andVK_ap, orV_ap, orVK_ap, notV_ap, notVK_ap, ifF_ap, ifFK_ap, nilA_ap, consA_ap, consK_ap, consJ_ap, tupA_ap, tupK_ap, lstA_ap, lstK_ap, newO_ap, dicF_ap, callF_ap, un1_ap, methF_ap, methK_ap, nonO_ap, someO_ap, someK_ap, slF_ap, slK_ap, slJ_ap, itF_ap, itA_ap, nilS_ap, bkS_ap, ctS_ap, seqS_ap, seqK_nx, seqK_rt, seqK_bk, seqK_ct, dropS_ap, dropK_ap, retS_ap, retK_ap, retN_ap, ifS_ap, ifK_ap, setS_ap, setK_ap, asgS_ap, asgK_ap, asgJ_ap, nameG_ap, nilG_ap, consG_ap, consGK_ap, tupG_ap, fnF_ap, fnK_nx, fnK_rt, forS_ap, forK_ap, intD_ap, negD_ap, addI_ap, varK_ap, startE, yes2, isN, List.map_cons, List.map_nil, List.length_cons, List.length_nil, List.replicate, List.append_nil, List.cons_append, List.nil_append, List.getElem?_cons_zero, List.getElem?_cons_succ, List.set_cons_zero, List.set_cons_succ, R.bind_ok, R.bind_ex, R.bind_bad, R.noex_ok, if_true, if_false, Bool.false_eq_true, Bool.true_eq_false, ite_true, ite_false, reduceIte, Nat.reduceAdd, Nat.reduceSub, Nat.zero_add, Nat.sub_self, Nat.sub_zero, decide_true, decide_false, Bool.not_true, Bool.not_false, b_c3, c1, c2]⟩
/-- cells compared -/
def sameC : VL.D → VL.D → Bool
  | .non, .non => true
  | .int a, .int b => decide (a = b)
  | _, _ => false
def belowC : VL.D → VL.D → Bool
  | .non, .int _ => true
  | .int a, .int b => decide (a < b)
  | _, _ => false
theorem eqD_cells {a b : VL.D} {st : Sto} (ha : cellB a = true) (hb : cellB b = true) : eqD a b st = .ok (.bl (sameC a b)) st := by
  rcases cellB_cases ha with rfl | ⟨i, rfl⟩ <;> rcases cellB_cases hb with rfl | ⟨j, rfl⟩ <;> rfl
theorem neD_cells {a b : VL.D} {st : Sto} (ha : cellB a = true) (hb : cellB b = true) : neD a b st = .ok (.bl (!sameC a b)) st := by
  rcases cellB_cases ha with rfl | ⟨i, rfl⟩ <;> rcases cellB_cases hb with rfl | ⟨j, rfl⟩ <;> rfl
theorem earlier_ok {a b : VL.D} {st : Sto} (ha : cellB a = true) (hb : cellB b = true) : f_earlier [a, b] st = .ok (.bl (belowC a b)) st := by
  rcases cellB_cases ha with rfl | ⟨i, rfl⟩ <;> rcases cellB_cases hb with rfl | ⟨j, rfl⟩ <;> simp -implicitDefEqProofs only [varF_ap, cF_ap, opF_ap, opK_ap, bF_ap, boolK_ap, andT_ap, andK_ap, orT_ap, orK_ap, notT_ap, notK_ap, yesT_ap, andV_ap, andVK_ap, orV_ap, orVK_ap, notV_ap, notVK_ap, ifF_ap, ifFK_ap, nilA_ap, consA_ap, consK_ap, consJ_ap, tupA_ap, tupK_ap, lstA_ap, lstK_ap, newO_ap, dicF_ap, callF_ap, un1_ap, methF_ap, methK_ap, nonO_ap, someO_ap, someK_ap, slF_ap, slK_ap, slJ_ap, itF_ap, itA_ap, nilS_ap, bkS_ap, ctS_ap, seqS_ap, seqK_nx, seqK_rt, seqK_bk, seqK_ct, dropS_ap, dropK_ap, retS_ap, retK_ap, retN_ap, ifS_ap, ifK_ap, setS_ap, setK_ap, asgS_ap, asgK_ap, asgJ_ap, nameG_ap, nilG_ap, consG_ap, consGK_ap, tupG_ap, fnF_ap, fnK_nx, fnK_rt, forS_ap, forK_ap, intD_ap, negD_ap, addI_ap, varK_ap, startE, yes2, isN, List.map_cons, List.map_nil, List.length_cons, List.length_nil, List.replicate, List.append_nil, List.cons_append, List.nil_append, List.getElem?_cons_zero, List.getElem?_cons_succ, List.set_cons_zero, List.set_cons_succ, R.bind_ok, R.bind_ex, R.bind_bad, R.noex_ok, if_true, if_false, Bool.false_eq_true, Bool.true_eq_false, ite_true, ite_false, reduceIte, Nat.reduceAdd, Nat.reduceSub, Nat.zero_add, Nat.sub_self, Nat.sub_zero, decide_true, decide_false, Bool.not_true, Bool.not_false, f_earlier, b_earlier] <;> rfl
theorem before1_ok {a b : VL.D} {st : Sto} (ha : cellB a = true) (hb : cellB b = true) : f_before [.tup [a], .tup [b]] st = .ok (.bl (belowC a b)) st := by
  have z : zipD [.tup [a], .tup [b]] st = .ok ([.tup [a, b]], []) st := rfl
  have n1 := neD_cells (st := st) ha hb
  have e1 := earlier_ok (st := st) ha hb
  have g : tupG 2 (consG (nameG 2) (consG (nameG 3) nilG)) (.tup [a, b]) [some (.tup [a]), some (.tup [b]), none, none] st = .ok [some (.tup [a]), some (.tup [b]), some a, some b] st := rfl
  have lp : forL [] (tupG 2 (consG (nameG 2) (consG (nameG 3) nilG))) l0_before [.tup [a, b]] [some (.tup [a]), some (.tup [b]), none, none] st = if sameC a b = true then .ok (.nx [some (.tup [a]), some (.tup [b]), some a, some b]) st else .ok (.rt (.bl (belowC a b))) st := by
    rw [forL_cons ChkOk.nil, g, R.bind_ok]
    cases h : sameC a b with
    | true =>
      rw [h] at n1
      have t : l0_before [some (.tup [a]), some (.tup [b]), some a, some b] st = .ok (.nx [some (.tup [a]), some (.tup [b]), some a, some b]) st := by simp -implicitDefEqProofs only [varF_ap, cF_ap, opF_ap, opK_ap, bF_ap, boolK_ap, andT_ap, andK_ap, orT_ap, orK_ap, notT_ap, notK_ap, yesT_ap, andV_ap, andVK_ap, orV_ap, orVK_ap, notV_ap, notVK_ap, ifF_ap, ifFK_ap, nilA_ap, consA_ap, consK_ap, consJ_ap, tupA_ap, tupK_ap, lstA_ap, lstK_ap, newO_ap, dicF_ap, callF_ap, un1_ap, methF_ap, methK_ap, nonO_ap, someO_ap, someK_ap, slF_ap, slK_ap, slJ_ap, itF_ap, itA_ap, nilS_ap, bkS_ap, ctS_ap, seqS_ap, seqK_nx, seqK_rt, seqK_bk, seqK_ct, dropS_ap, dropK_ap, retS_ap, retK_ap, retN_ap, ifS_ap, ifK_ap, setS_ap, setK_ap, asgS_ap, asgK_ap, asgJ_ap, nameG_ap, nilG_ap, consG_ap, consGK_ap, tupG_ap, fnF_ap, fnK_nx, fnK_rt, forS_ap, forK_ap, intD_ap, negD_ap, addI_ap, varK_ap, startE, yes2, isN, List.map_cons, List.map_nil, List.length_cons, List.length_nil, List.replicate, List.append_nil, List.cons_append, List.nil_append, List.getElem?_cons_zero, List.getElem?_cons_succ, List.set_cons_zero, List.set_cons_succ, R.bind_ok, R.bind_ex, R.bind_bad, R.noex_ok, if_true, if_false, Bool.false_eq_true, Bool.true_eq_false, ite_true, ite_false, reduceIte, Nat.reduceAdd, Nat.reduceSub, Nat.zero_add, Nat.sub_self, Nat.sub_zero, decide_true, decide_false, Bool.not_true, Bool.not_false, l0_before, n1]
      rw [t, R.bind_ok]
      exact forL_nil ChkOk.nil
    | false =>
      rw [h] at n1
      have t : l0_before [some (.tup [a]), some (.tup [b]), some a, some b] st = .ok (.rt (.bl (belowC a b))) st := by simp -implicitDefEqProofs only [varF_ap, cF_ap, opF_ap, opK_ap, bF_ap, boolK_ap, andT_ap, andK_ap, orT_ap, orK_ap, notT_ap, notK_ap, yesT_ap, andV_ap, andVK_ap, orV_ap, orVK_ap, notV_ap, notVK_ap, ifF_ap, ifFK_ap, nilA_ap, consA_ap, consK_ap, consJ_ap, tupA_ap, tupK_ap, lstA_ap, lstK_ap, newO_ap, dicF_ap, callF_ap, un1_ap, methF_ap, methK_ap, nonO_ap, someO_ap, someK_ap, slF_ap, slK_ap, slJ_ap, itF_ap, itA_ap, nilS_ap, bkS_ap, ctS_ap, seqS_ap, seqK_nx, seqK_rt, seqK_bk, seqK_ct, dropS_ap, dropK_ap, retS_ap, retK_ap, retN_ap, ifS_ap, ifK_ap, setS_ap, setK_ap, asgS_ap, asgK_ap, asgJ_ap, nameG_ap, nilG_ap, consG_ap, consGK_ap, tupG_ap, fnF_ap, fnK_nx, fnK_rt, forS_ap, forK_ap, intD_ap, negD_ap, addI_ap, varK_ap, startE, yes2, isN, List.map_cons, List.map_nil, List.length_cons, List.length_nil, List.replicate, List.append_nil, List.cons_append, List.nil_append, List.getElem?_cons_zero, List.getElem?_cons_succ, List.set_cons_zero, List.set_cons_succ, R.bind_ok, R.bind_ex, R.bind_bad, R.noex_ok, if_true, if_false, Bool.false_eq_true, Bool.true_eq_false, ite_true, ite_false, reduceIte, Nat.reduceAdd, Nat.reduceSub, Nat.zero_add, Nat.sub_self, Nat.sub_zero, decide_true, decide_false, Bool.not_true, Bool.not_false, l0_before, n1, e1]
      rw [t, R.bind_ok]
      rfl
  cases h : sameC a b with
  | true =>
    rw [h] at lp
    have hb' : belowC a b = false := by
      rcases cellB_cases ha with rfl | ⟨i, rfl⟩ <;> rcases cellB_cases hb with rfl | ⟨j, rfl⟩ <;> first | rfl | cases h | skip
      unfold sameC at h
      have := of_decide_eq_true h
      exact decide_eq_false (by omega)
    rw [hb']
    simp -implicitDefEqProofs only [varF_ap, cF_ap, opF_ap, opK_ap, bF_ap, boolK_ap, andT_ap, andK_ap, orT_ap, orK_ap, notT_ap, notK_ap, yesT_ap, andV_ap, andVK_ap, orV_ap, orVK_ap, notV_ap, notVK_ap, ifF_ap, ifFK_ap, nilA_ap, consA_ap, consK_ap, consJ_ap, tupA_ap, tupK_ap, lstA_ap, lstK_ap, newO_ap, dicF_ap, callF_ap, un1_ap, methF_ap, methK_ap, nonO_ap, someO_ap, someK_ap, slF_ap, slK_ap, slJ_ap, itF_ap, itA_ap, nilS_ap, bkS_ap, ctS_ap, seqS_ap, seqK_nx, seqK_rt, seqK_bk, seqK_ct, dropS_ap, dropK_ap, retS_ap, retK_ap, retN_ap, ifS_ap, ifK_ap, setS_ap, setK_ap, asgS_ap, asgK_ap, asgJ_ap, nameG_ap, nilG_ap, consG_ap, consGK_ap, tupG_ap, fnF_ap, fnK_nx, fnK_rt, forS_ap, forK_ap, intD_ap, negD_ap, addI_ap, varK_ap, startE, yes2, isN, List.map_cons, List.map_nil, List.length_cons, List.length_nil, List.replicate, List.append_nil, List.cons_append, List.nil_append, List.getElem?_cons_zero, List.getElem?_cons_succ, List.set_cons_zero, List.set_cons_succ, R.bind_ok, R.bind_ex, R.bind_bad, R.noex_ok, if_true, if_false, Bool.false_eq_true, Bool.true_eq_false, ite_true, ite_false, reduceIte, Nat.reduceAdd, Nat.reduceSub, Nat.zero_add, Nat.sub_self, Nat.sub_zero, decide_true, decide_false, Bool.not_true, Bool.not_false, f_before, b_before, z, lp]
  | false =>
    rw [h] at lp
    simp -implicitDefEqProofs only [varF_ap, cF_ap, opF_ap, opK_ap, bF_ap, boolK_ap, andT_ap, andK_ap, orT_ap, orK_ap, notT_ap, notK_ap, yesT_ap, andV_ap, andVK_ap, orV_ap, orVK_ap, notV_ap, notVK_ap, ifF_ap, ifFK_ap, nilA_ap, consA_ap, consK_ap, consJ_ap, tupA_ap, tupK_ap, lstA_ap, lstK_ap, newO_ap, dicF_ap, callF_ap, un1_ap, methF_ap, methK_ap, nonO_ap, someO_ap, someK_ap, slF_ap, slK_ap, slJ_ap, itF_ap, itA_ap, nilS_ap, bkS_ap, ctS_ap, seqS_ap, seqK_nx, seqK_rt, seqK_bk, seqK_ct, dropS_ap, dropK_ap, retS_ap, retK_ap, retN_ap, ifS_ap, ifK_ap, setS_ap, setK_ap, asgS_ap, asgK_ap, asgJ_ap, nameG_ap, nilG_ap, consG_ap, consGK_ap, tupG_ap, fnF_ap, fnK_nx, fnK_rt, forS_ap, forK_ap, intD_ap, negD_ap, addI_ap, varK_ap, startE, yes2, isN, List.map_cons, List.map_nil, List.length_cons, List.length_nil, List.replicate, List.append_nil, List.cons_append, List.nil_append, List.getElem?_cons_zero, List.getElem?_cons_succ, List.set_cons_zero, List.set_cons_succ, R.bind_ok, R.bind_ex, R.bind_bad, R.noex_ok, if_true, if_false, Bool.false_eq_true, Bool.true_eq_false, ite_true, ite_false, reduceIte, Nat.reduceAdd, Nat.reduceSub, Nat.zero_add, Nat.sub_self, Nat.sub_zero, decide_true, decide_false, Bool.not_true, Bool.not_false, f_before, b_before, z, lp]
def cmpC (w : Str) (a b : VL.D) : Bool := if w = "same" then sameC a b else belowC a b
theorem tl_compared {d : Nat} {w : Str} {f g : VL.D} {xs : List VL.D} {a b : VL.D} (hf : Tl d f xs a) (hg : Tl d g xs b) (hx : pds xs = true) (ca : cellB a = true) (cb : cellB b = true) : Tl (d + 1) (.clo 4 [.str w, f, g]) xs (.bl (cmpC w a b)) := ⟨4, _, rfl, by
  unfold nrs nrs nrs nrs
  rw [hf.nr, hg.nr]
  rfl, fun e he => by
  obtain ⟨e, rfl⟩ : ∃ e', e = e' + 1 := ⟨e - 1, by omega⟩
  have e0 : startC 6 [VL.D.str w, f, g] [.tup xs] = [some (.tup xs), some (.str w), some f, some g, none, none] := rfl
  have c1 := hf.call (e := e) (i := 2) (j := 0) (env := [some (.tup xs), some (.str w), some f, some g, none, none]) (st := []) (gt := gt_1) (by omega) hx (cellB_pd ca) rfl rfl
  have c2 := hg.call (e := e) (i := 3) (j := 0) (env := [some (.tup xs), some (.str w), some f, some g, some a, none]) (st := []) (gt := gt_1) (by omega) hx (cellB_pd cb) rfl rfl
  have c3 := before1_ok (st := []) ca cb
  have c4 := eqD_cells (st := []) ca cb
  have sz : (1 : Nat) ≤ sizeLine := by decide
  refine ⟨_, [], tab_4 e, ?_⟩
  show (b_c4 (tabN e) (startC 6 [VL.D.str w, f, g] [.tup xs]) []).bind _ = _
  rw [e0]
  by_cases hw : w = "same"
  · subst hw
    have q : eqD (.str "same") (.str "same") [] = .ok (.bl true) [] := eqS_t
    have r : cmpC "same" a b = sameC a b := if_pos rfl
    simp -implicitDefEqProofs only [varF_ap, cF_ap, opF_ap, opK_ap, bF_ap, boolK_ap, andT_ap, andK_ap, orT_ap, orK_ap, notT_ap, notK_ap, yesT_ap, andV_ap, andVK_ap, orV_ap, orVK_ap, notV_ap, notVK_ap, ifF_ap, ifFK_ap, nilA_ap, consA_ap, consK_ap, consJ_ap, tupA_ap, tupK_ap, lstA_ap, lstK_ap, newO_ap, dicF_ap, callF_ap, un1_ap, methF_ap, methK_ap, nonO_ap, someO_ap, someK_ap, slF_ap, slK_ap, slJ_ap, itF_ap, itA_ap, nilS_ap, bkS_ap, ctS_ap, seqS_ap, seqK_nx, seqK_rt, seqK_bk, seqK_ct, dropS_ap, dropK_ap, retS_ap, retK_ap, retN_ap, ifS_ap, ifK_ap, setS_ap, setK_ap, asgS_ap, asgK_ap, asgJ_ap, nameG_ap, nilG_ap, consG_ap, consGK_ap, tupG_ap, fnF_ap, fnK_nx, fnK_rt, forS_ap, forK_ap, intD_ap, negD_ap, addI_ap, varK_ap, startE, yes2, isN, List.map_cons, List.map_nil, List.length_cons, List.length_nil, List.replicate, List.append_nil, List.cons_append, List.nil_append, List.getElem?_cons_zero, List.getElem?_cons_succ, List.set_cons_zero, List.set_cons_succ, R.bind_ok, R.bind_ex, R.bind_bad, R.noex_ok, if_true, if_false, Bool.false_eq_true, Bool.true_eq_false, ite_true, ite_false, reduceIte, Nat.reduceAdd, Nat.reduceSub, Nat.zero_add, Nat.sub_self, Nat.sub_zero, decide_true, decide_false, Bool.not_true, Bool.not_false, b_c4, c1, c2, c3, c4, q, r]
  · have q : eqD (.str w) (.str "same") [] = .ok (.bl false) [] := eqS_f hw
    have r : cmpC w a b = belowC a b := if_neg hw
    simp -implicitDefEqProofs only [varF_ap, cF_ap, opF_ap, opK_ap, bF_ap, boolK_ap, andT_ap, andK_ap, orT_ap, orK_ap, notT_ap, notK_ap, yesT_ap, andV_ap, andVK_ap, orV_ap, orVK_ap, notV_ap, notVK_ap, ifF_ap, ifFK_ap, nilA_ap, consA_ap, consK_ap, consJ_ap, tupA_ap, tupK_ap, lstA_ap, lstK_ap, newO_ap, dicF_ap, callF_ap, un1_ap, methF_ap, methK_ap, nonO_ap, someO_ap, someK_ap, slF_ap, slK_ap, slJ_ap, itF_ap, itA_ap, nilS_ap, bkS_ap, ctS_ap, seqS_ap, seqK_nx, seqK_rt, seqK_bk, seqK_ct, dropS_ap, dropK_ap, retS_ap, retK_ap, retN_ap, ifS_ap, ifK_ap, setS_ap, setK_ap, asgS_ap, asgK_ap, asgJ_ap, nameG_ap, nilG_ap, consG_ap, consGK_ap, tupG_ap, fnF_ap, fnK_nx, fnK_rt, forS_ap, forK_ap, intD_ap, negD_ap, addI_ap, varK_ap, startE, yes2, isN, List.map_cons, List.map_nil, List.length_cons, List.length_nil, List.replicate, List.append_nil, List.cons_append, List.nil_append, List.getElem?_cons_zero, List.getElem?_cons_succ, List.set_cons_zero, List.set_cons_succ, R.bind_ok, R.bind_ex, R.bind_bad, R.noex_ok, if_true, if_false, Bool.false_eq_true, Bool.true_eq_false, ite_true, ite_false, reduceIte, Nat.reduceAdd, Nat.reduceSub, Nat.zero_add, Nat.sub_self, Nat.sub_zero, decide_true, decide_false, Bool.not_true, Bool.not_false, b_c4, c1, c2, c3, c4, q, r, sz]⟩
theorem tl_not {d : Nat} {f : VL.D} {xs : List VL.D} {a : Bool} (hf : Tl d f xs (.bl a)) (hx : pds xs = true) : Tl (d + 1) (.clo 5 [f]) xs (.bl (!a)) := ⟨5, _, rfl, by
  unfold nrs nrs
  rw [hf.nr]
  rfl, fun e he => by
  obtain ⟨e, rfl⟩ : ∃ e', e = e' + 1 := ⟨e - 1, by omega⟩
  have e0 : startC 2 [f] [.tup xs] = [some (.tup xs), some f] := rfl
  have c1 := hf.call (e := e) (i := 1) (j := 0) (env := [some (.tup xs), some f]) (st := []) (gt := gt_1) (by omega) hx rfl rfl rfl
  refine ⟨_, [], tab_5 e, ?_⟩
  show b_c5 (tabN e) (startC 2 [f] [.tup xs]) [] = _
  rw [e0]
  simp -implicitDefEqProofs only [varF_ap, cF_ap, opF_ap, opK_ap, bF_ap, boolK_ap, andT_ap, andK_ap, orT_ap, orK_ap, notT_ap, notK_ap, yesT_ap, andV_ap, andVK_ap, orV_ap, orVK_ap, notV_ap, notVK_ap, ifF_ap, ifFK_ap, nilA_ap, consA_ap, consK_ap, consJ_ap, tupA_ap, tupK_ap, lstA_ap, lstK_ap, newO_ap, dicF_ap, callF_ap, un1_ap, methF_ap, methK_ap, nonO_ap, someO_ap, someK_ap, slF_ap, slK_ap, slJ_ap, itF_ap, itA_ap, nilS_ap, bkS_ap, ctS_ap, seqS_ap, seqK_nx, seqK_rt, seqK_bk, seqK_ct, dropS_ap, dropK_ap, retS_ap, retK_ap, retN_ap, ifS_ap, ifK_ap, setS_ap, setK_ap, asgS_ap, asgK_ap, asgJ_ap, nameG_ap, nilG_ap, consG_ap, consGK_ap, tupG_ap, fnF_ap, fnK_nx, fnK_rt, forS_ap, forK_ap, intD_ap, negD_ap, addI_ap, varK_ap, startE, yes2, isN, List.map_cons, List.map_nil, List.length_cons, List.length_nil, List.replicate, List.append_nil, List.cons_append, List.nil_append, List.getElem?_cons_zero, List.getElem?_cons_succ, List.set_cons_zero, List.set_cons_succ, R.bind_ok, R.bind_ex, R.bind_bad, R.noex_ok, if_true, if_false, Bool.false_eq_true, Bool.true_eq_false, ite_true, ite_false, reduceIte, Nat.reduceAdd, Nat.reduceSub, Nat.zero_add, Nat.sub_self, Nat.sub_zero, decide_true, decide_false, Bool.not_true, Bool.not_false, b_c5, c1]⟩
theorem tl_and {d : Nat} {f g : VL.D} {xs : List VL.D} {a b : Bool} (hf : Tl d f xs (.bl a)) (hg : Tl d g xs (.bl b)) (hx : pds xs = true) : Tl (d + 1) (.clo 6 [f, g]) xs (.bl (a && b)) := ⟨6, _, rfl, by
  unfold nrs nrs nrs
  rw [hf.nr, hg.nr]
  rfl, fun e he => by
  obtain ⟨e, rfl⟩ : ∃ e', e = e' + 1 := ⟨e - 1, by omega⟩
  have e0 : startC 3 [f, g] [.tup xs] = [some (.tup xs), some f, some g] := rfl
  have c1 := hf.call (e := e) (i := 1) (j := 0) (env := [some (.tup xs), some f, some g]) (st := []) (gt := gt_1) (by omega) hx rfl rfl rfl
  have c2 := hg.call (e := e) (i := 2) (j := 0) (env := [some (.tup xs), some f, some g]) (st := []) (gt := gt_1) (by omega) hx rfl rfl rfl
  refine ⟨_, [], tab_6 e, ?_⟩
  show b_c6 (tabN e) (startC 3 [f, g] [.tup xs]) [] = _
  rw [e0]
  cases a <;> simp -implicitDefEqProofs only [varF_ap, cF_ap, opF_ap, opK_ap, bF_ap, boolK_ap, andT_ap, andK_ap, orT_ap, orK_ap, notT_ap, notK_ap, yesT_ap, andV_ap, andVK_ap, orV_ap, orVK_ap, notV_ap, notVK_ap, ifF_ap, ifFK_ap, nilA_ap, consA_ap, consK_ap, consJ_ap, tupA_ap, tupK_ap, lstA_ap, lstK_ap, newO_ap, dicF_ap, callF_ap, un1_ap, methF_ap, methK_ap, nonO_ap, someO_ap, someK_ap, slF_ap, slK_ap, slJ_ap, itF_ap, itA_ap, nilS_ap, bkS_ap, ctS_ap, seqS_ap, seqK_nx, seqK_rt, seqK_bk, seqK_ct, dropS_ap, dropK_ap, retS_ap, retK_ap, retN_ap, ifS_ap, ifK_ap, setS_ap, setK_ap, asgS_ap, asgK_ap, asgJ_ap, nameG_ap, nilG_ap, consG_ap, consGK_ap, tupG_ap, fnF_ap, fnK_nx, fnK_rt, forS_ap, forK_ap, intD_ap, negD_ap, addI_ap, varK_ap, startE, yes2, isN, List.map_cons, List.map_nil, List.length_cons, List.length_nil, List.replicate, List.append_nil, List.cons_append, List.nil_append, List.getElem?_cons_zero, List.getElem?_cons_succ, List.set_cons_zero, List.set_cons_succ, R.bind_ok, R.bind_ex, R.bind_bad, R.noex_ok, if_true, if_false, Bool.false_eq_true, Bool.true_eq_false, ite_true, ite_false, reduceIte, Nat.reduceAdd, Nat.reduceSub, Nat.zero_add, Nat.sub_self, Nat.sub_zero, decide_true, decide_false, Bool.not_true, Bool.not_false, b_c6, c1, c2] <;> rfl⟩
theorem tl_or {d : Nat} {f g : VL.D} {xs : List VL.D} {a b : Bool} (hf : Tl d f xs (.bl a)) (hg : Tl d g xs (.bl b)) (hx : pds xs = true) : Tl (d + 1) (.clo 7 [f, g]) xs (.bl (a || b)) := ⟨7, _, rfl, by
  unfold nrs nrs nrs
  rw [hf.nr, hg.nr]
  rfl, fun e he => by
  obtain ⟨e, rfl⟩ : ∃ e', e = e' + 1 := ⟨e - 1, by omega⟩
  have e0 : startC 3 [f, g] [.tup xs] = [some (.tup xs), some f, some g] := rfl
  have c1 := hf.call (e := e) (i := 1) (j := 0) (env := [some (.tup xs), some f, some g]) (st := []) (gt := gt_1) (by omega) hx rfl rfl rfl
  have c2 := hg.call (e := e) (i := 2) (j := 0) (env := [some (.tup xs), some f, some g]) (st := []) (gt := gt_1) (by omega) hx rfl rfl rfl
  refine ⟨_, [], tab_7 e, ?_⟩
  show b_c7 (tabN e) (startC 3 [f, g] [.tup xs]) [] = _
  rw [e0]
  cases a <;> simp -implicitDefEqProofs only [varF_ap, cF_ap, opF_ap, opK_ap, bF_ap, boolK_ap, andT_ap, andK_ap, orT_ap, orK_ap, notT_ap, notK_ap, yesT_ap, andV_ap, andVK_ap, orV_ap, orVK_ap, notV_ap, notVK_ap, ifF_ap, ifFK_ap, nilA_ap, consA_ap, consK_ap, consJ_ap, tupA_ap, tupK_ap, lstA_ap, lstK_ap, newO_ap, dicF_ap, callF_ap, un1_ap, methF_ap, methK_ap, nonO_ap, someO_ap, someK_ap, slF_ap, slK_ap, slJ_ap, itF_ap, itA_ap, nilS_ap, bkS_ap, ctS_ap, seqS_ap, seqK_nx, seqK_rt, seqK_bk, seqK_ct, dropS_ap, dropK_ap, retS_ap, retK_ap, retN_ap, ifS_ap, ifK_ap, setS_ap, setK_ap, asgS_ap, asgK_ap, asgJ_ap, nameG_ap, nilG_ap, consG_ap, consGK_ap, tupG_ap, fnF_ap, fnK_nx, fnK_rt, forS_ap, forK_ap, intD_ap, negD_ap, addI_ap, varK_ap, startE, yes2, isN, List.map_cons, List.map_nil, List.length_cons, List.length_nil, List.replicate, List.append_nil, List.cons_append, List.nil_append, List.getElem?_cons_zero, List.getElem?_cons_succ, List.set_cons_zero, List.set_cons_succ, R.bind_ok, R.bind_ex, R.bind_bad, R.noex_ok, if_true, if_false, Bool.false_eq_true, Bool.true_eq_false, ite_true, ite_false, reduceIte, Nat.reduceAdd, Nat.reduceSub, Nat.zero_add, Nat.sub_self, Nat.sub_zero, decide_true, decide_false, Bool.not_true, Bool.not_false, b_c7, c1, c2] <;> rfl⟩
end Law

namespace Law
open PySem L2 VL
/-! what column and test make -/
theorem at_place_ok {x : VL.D} {st : Sto} : f_at_place [x] st = .ok (.clo 1 [x]) st := rfl
theorem always_ok {x : VL.D} {st : Sto} : f_always_told [x] st = .ok (.clo 0 [x]) st := rfl
theorem reckoned_ok {x y z : VL.D} {st : Sto} : f_reckoned_by [x, y, z] st = .ok (.clo 2 [x, y, z]) st := rfl
theorem chosen_ok {x y z : VL.D} {st : Sto} : f_chosen_by [x, y, z] st = .ok (.clo 3 [x, y, z]) st := rfl
theorem compared_ok {x y z : VL.D} {st : Sto} : f_compared_by [x, y, z] st = .ok (.clo 4 [x, y, z]) st := rfl
theorem jx0 {a : VL.D} {xs : List VL.D} {st : Sto} : ixD (.tup (a :: xs)) (.int 0) st = .ok a st := ixD_tup (k := 0) rfl
theorem jx1 {a b : VL.D} {xs : List VL.D} {st : Sto} : ixD (.tup (a :: b :: xs)) (.int 1) st = .ok b st := ixD_tup (k := 1) rfl
theorem jx2 {a b c : VL.D} {xs : List VL.D} {st : Sto} : ixD (.tup (a :: b :: c :: xs)) (.int 2) st = .ok c st := ixD_tup (k := 2) rfl
theorem jx3 {a b c d : VL.D} {xs : List VL.D} {st : Sto} : ixD (.tup (a :: b :: c :: d :: xs)) (.int 3) st = .ok d st := ixD_tup (k := 3) rfl
section
variable {d : Nat} {st : Sto}
theorem col_at {p : VL.D} : f_column (d + 1) [.tup [.str "at", p]] st = .ok (.clo 1 [p]) st := by
  simp -implicitDefEqProofs +decide only [varF_ap, cF_ap, opF_ap, opK_ap, bF_ap, boolK_ap, andT_ap, andK_ap, orT_ap, orK_ap, notT_ap, notK_ap, yesT_ap, andV_ap, andVK_ap, orV_ap, orVK_ap, notV_ap, notVK_ap, ifF_ap, ifFK_ap, nilA_ap, consA_ap, consK_ap, consJ_ap, tupA_ap, lstA_ap, newO_ap, dicF_ap, callF_ap, un1_ap, methF_ap, nonO_ap, someO_ap, someK_ap, slF_ap, slK_ap, slJ_ap, itF_ap, itA_ap, nilS_ap, bkS_ap, ctS_ap, seqS_ap, seqK_nx, seqK_rt, seqK_bk, seqK_ct, dropS_ap, dropK_ap, retS_ap, retK_ap, retN_ap, ifS_ap, ifK_ap, setS_ap, setK_ap, asgS_ap, asgK_ap, asgJ_ap, nameG_ap, nilG_ap, consG_ap, consGK_ap, fnF_ap, fnK_nx, fnK_rt, forS_ap, forK_ap, negD_ap, addI_ap, varK_ap, startE, yes2, isN, List.map_cons, List.map_nil, List.length_cons, List.length_nil, List.replicate, List.append_nil, List.cons_append, List.nil_append, List.getElem?_cons_zero, List.getElem?_cons_succ, List.set_cons_zero, List.set_cons_succ, R.bind_ok, R.bind_ex, R.bind_bad, R.noex_ok, if_true, if_false, Bool.false_eq_true, Bool.true_eq_false, ite_true, ite_false, reduceIte, Nat.reduceAdd, Nat.reduceSub, Nat.zero_add, Nat.sub_self, Nat.sub_zero, decide_true, decide_false, Bool.not_true, Bool.not_false, subD_ap, ltD_ap, leD_ap, gtD_ap, geD_ap, mulD_ap, modD_ap, divD_ap, powD_ap, tupK_ok, lstK_ok, methK_ok, tupG_ok, eqS_t, eqS_f, neS_t, neS_f, eqI_ap, neI_ap, inT_nil, inT_hit, inT_miss, ne_eq, not_false_eq_true, f_column_s, b_column, jx0, jx1, at_place_ok]
theorem col_num {p : VL.D} : f_column (d + 1) [.tup [.str "num", p]] st = .ok (.clo 0 [p]) st := by
  simp -implicitDefEqProofs +decide only [varF_ap, cF_ap, opF_ap, opK_ap, bF_ap, boolK_ap, andT_ap, andK_ap, orT_ap, orK_ap, notT_ap, notK_ap, yesT_ap, andV_ap, andVK_ap, orV_ap, orVK_ap, notV_ap, notVK_ap, ifF_ap, ifFK_ap, nilA_ap, consA_ap, consK_ap, consJ_ap, tupA_ap, lstA_ap, newO_ap, dicF_ap, callF_ap, un1_ap, methF_ap, nonO_ap, someO_ap, someK_ap, slF_ap, slK_ap, slJ_ap, itF_ap, itA_ap, nilS_ap, bkS_ap, ctS_ap, seqS_ap, seqK_nx, seqK_rt, seqK_bk, seqK_ct, dropS_ap, dropK_ap, retS_ap, retK_ap, retN_ap, ifS_ap, ifK_ap, setS_ap, setK_ap, asgS_ap, asgK_ap, asgJ_ap, nameG_ap, nilG_ap, consG_ap, consGK_ap, fnF_ap, fnK_nx, fnK_rt, forS_ap, forK_ap, negD_ap, addI_ap, varK_ap, startE, yes2, isN, List.map_cons, List.map_nil, List.length_cons, List.length_nil, List.replicate, List.append_nil, List.cons_append, List.nil_append, List.getElem?_cons_zero, List.getElem?_cons_succ, List.set_cons_zero, List.set_cons_succ, R.bind_ok, R.bind_ex, R.bind_bad, R.noex_ok, if_true, if_false, Bool.false_eq_true, Bool.true_eq_false, ite_true, ite_false, reduceIte, Nat.reduceAdd, Nat.reduceSub, Nat.zero_add, Nat.sub_self, Nat.sub_zero, decide_true, decide_false, Bool.not_true, Bool.not_false, subD_ap, ltD_ap, leD_ap, gtD_ap, geD_ap, mulD_ap, modD_ap, divD_ap, powD_ap, tupK_ok, lstK_ok, methK_ok, tupG_ok, eqS_t, eqS_f, neS_t, neS_f, eqI_ap, neI_ap, inT_nil, inT_hit, inT_miss, ne_eq, not_false_eq_true, f_column_s, b_column, jx0, jx1, always_ok]
theorem col_gap : f_column (d + 1) [.tup [.str "gap"]] st = .ok (.clo 0 [.non]) st := by
  simp -implicitDefEqProofs +decide only [varF_ap, cF_ap, opF_ap, opK_ap, bF_ap, boolK_ap, andT_ap, andK_ap, orT_ap, orK_ap, notT_ap, notK_ap, yesT_ap, andV_ap, andVK_ap, orV_ap, orVK_ap, notV_ap, notVK_ap, ifF_ap, ifFK_ap, nilA_ap, consA_ap, consK_ap, consJ_ap, tupA_ap, lstA_ap, newO_ap, dicF_ap, callF_ap, un1_ap, methF_ap, nonO_ap, someO_ap, someK_ap, slF_ap, slK_ap, slJ_ap, itF_ap, itA_ap, nilS_ap, bkS_ap, ctS_ap, seqS_ap, seqK_nx, seqK_rt, seqK_bk, seqK_ct, dropS_ap, dropK_ap, retS_ap, retK_ap, retN_ap, ifS_ap, ifK_ap, setS_ap, setK_ap, asgS_ap, asgK_ap, asgJ_ap, nameG_ap, nilG_ap, consG_ap, consGK_ap, fnF_ap, fnK_nx, fnK_rt, forS_ap, forK_ap, negD_ap, addI_ap, varK_ap, startE, yes2, isN, List.map_cons, List.map_nil, List.length_cons, List.length_nil, List.replicate, List.append_nil, List.cons_append, List.nil_append, List.getElem?_cons_zero, List.getElem?_cons_succ, List.set_cons_zero, List.set_cons_succ, R.bind_ok, R.bind_ex, R.bind_bad, R.noex_ok, if_true, if_false, Bool.false_eq_true, Bool.true_eq_false, ite_true, ite_false, reduceIte, Nat.reduceAdd, Nat.reduceSub, Nat.zero_add, Nat.sub_self, Nat.sub_zero, decide_true, decide_false, Bool.not_true, Bool.not_false, subD_ap, ltD_ap, leD_ap, gtD_ap, geD_ap, mulD_ap, modD_ap, divD_ap, powD_ap, tupK_ok, lstK_ok, methK_ok, tupG_ok, eqS_t, eqS_f, neS_t, neS_f, eqI_ap, neI_ap, inT_nil, inT_hit, inT_miss, ne_eq, not_false_eq_true, f_column_s, b_column, jx0, jx1, always_ok]
theorem col_if {q e f : VL.D} {tq te tf : VL.D} (hq : ∀ st, f_test d [q] st = .ok tq st) (he : ∀ st, f_column d [e] st = .ok te st) (hf : ∀ st, f_column d [f] st = .ok tf st) : f_column (d + 1) [.tup [.str "if", q, e, f]] st = .ok (.clo 3 [tq, te, tf]) st := by
  simp -implicitDefEqProofs +decide only [varF_ap, cF_ap, opF_ap, opK_ap, bF_ap, boolK_ap, andT_ap, andK_ap, orT_ap, orK_ap, notT_ap, notK_ap, yesT_ap, andV_ap, andVK_ap, orV_ap, orVK_ap, notV_ap, notVK_ap, ifF_ap, ifFK_ap, nilA_ap, consA_ap, consK_ap, consJ_ap, tupA_ap, lstA_ap, newO_ap, dicF_ap, callF_ap, un1_ap, methF_ap, nonO_ap, someO_ap, someK_ap, slF_ap, slK_ap, slJ_ap, itF_ap, itA_ap, nilS_ap, bkS_ap, ctS_ap, seqS_ap, seqK_nx, seqK_rt, seqK_bk, seqK_ct, dropS_ap, dropK_ap, retS_ap, retK_ap, retN_ap, ifS_ap, ifK_ap, setS_ap, setK_ap, asgS_ap, asgK_ap, asgJ_ap, nameG_ap, nilG_ap, consG_ap, consGK_ap, fnF_ap, fnK_nx, fnK_rt, forS_ap, forK_ap, negD_ap, addI_ap, varK_ap, startE, yes2, isN, List.map_cons, List.map_nil, List.length_cons, List.length_nil, List.replicate, List.append_nil, List.cons_append, List.nil_append, List.getElem?_cons_zero, List.getElem?_cons_succ, List.set_cons_zero, List.set_cons_succ, R.bind_ok, R.bind_ex, R.bind_bad, R.noex_ok, if_true, if_false, Bool.false_eq_true, Bool.true_eq_false, ite_true, ite_false, reduceIte, Nat.reduceAdd, Nat.reduceSub, Nat.zero_add, Nat.sub_self, Nat.sub_zero, decide_true, decide_false, Bool.not_true, Bool.not_false, subD_ap, ltD_ap, leD_ap, gtD_ap, geD_ap, mulD_ap, modD_ap, divD_ap, powD_ap, tupK_ok, lstK_ok, methK_ok, tupG_ok, eqS_t, eqS_f, neS_t, neS_f, eqI_ap, neI_ap, inT_nil, inT_hit, inT_miss, ne_eq, not_false_eq_true, f_column_s, b_column, jx0, jx1, jx2, jx3, chosen_ok, hq, he, hf]
theorem col_plus {e f : VL.D} {te tf : VL.D} (he : ∀ st, f_column d [e] st = .ok te st) (hf : ∀ st, f_column d [f] st = .ok tf st) : f_column (d + 1) [.tup [.str "plus", e, f]] st = .ok (.clo 2 [.glb "deed_plus", te, tf]) st := by
  simp -implicitDefEqProofs +decide only [varF_ap, cF_ap, opF_ap, opK_ap, bF_ap, boolK_ap, andT_ap, andK_ap, orT_ap, orK_ap, notT_ap, notK_ap, yesT_ap, andV_ap, andVK_ap, orV_ap, orVK_ap, notV_ap, notVK_ap, ifF_ap, ifFK_ap, nilA_ap, consA_ap, consK_ap, consJ_ap, tupA_ap, lstA_ap, newO_ap, dicF_ap, callF_ap, un1_ap, methF_ap, nonO_ap, someO_ap, someK_ap, slF_ap, slK_ap, slJ_ap, itF_ap, itA_ap, nilS_ap, bkS_ap, ctS_ap, seqS_ap, seqK_nx, seqK_rt, seqK_bk, seqK_ct, dropS_ap, dropK_ap, retS_ap, retK_ap, retN_ap, ifS_ap, ifK_ap, setS_ap, setK_ap, asgS_ap, asgK_ap, asgJ_ap, nameG_ap, nilG_ap, consG_ap, consGK_ap, fnF_ap, fnK_nx, fnK_rt, forS_ap, forK_ap, negD_ap, addI_ap, varK_ap, startE, yes2, isN, List.map_cons, List.map_nil, List.length_cons, List.length_nil, List.replicate, List.append_nil, List.cons_append, List.nil_append, List.getElem?_cons_zero, List.getElem?_cons_succ, List.set_cons_zero, List.set_cons_succ, R.bind_ok, R.bind_ex, R.bind_bad, R.noex_ok, if_true, if_false, Bool.false_eq_true, Bool.true_eq_false, ite_true, ite_false, reduceIte, Nat.reduceAdd, Nat.reduceSub, Nat.zero_add, Nat.sub_self, Nat.sub_zero, decide_true, decide_false, Bool.not_true, Bool.not_false, subD_ap, ltD_ap, leD_ap, gtD_ap, geD_ap, mulD_ap, modD_ap, divD_ap, powD_ap, tupK_ok, lstK_ok, methK_ok, tupG_ok, eqS_t, eqS_f, neS_t, neS_f, eqI_ap, neI_ap, inT_nil, inT_hit, inT_miss, ne_eq, not_false_eq_true, f_column_s, b_column, jx0, jx1, jx2, reckoned_ok, he, hf]
theorem col_minus {e f : VL.D} {te tf : VL.D} (he : ∀ st, f_column d [e] st = .ok te st) (hf : ∀ st, f_column d [f] st = .ok tf st) : f_column (d + 1) [.tup [.str "minus", e, f]] st = .ok (.clo 2 [.glb "deed_minus", te, tf]) st := by
  simp -implicitDefEqProofs +decide only [varF_ap, cF_ap, opF_ap, opK_ap, bF_ap, boolK_ap, andT_ap, andK_ap, orT_ap, orK_ap, notT_ap, notK_ap, yesT_ap, andV_ap, andVK_ap, orV_ap, orVK_ap, notV_ap, notVK_ap, ifF_ap, ifFK_ap, nilA_ap, consA_ap, consK_ap, consJ_ap, tupA_ap, lstA_ap, newO_ap, dicF_ap, callF_ap, un1_ap, methF_ap, nonO_ap, someO_ap, someK_ap, slF_ap, slK_ap, slJ_ap, itF_ap, itA_ap, nilS_ap, bkS_ap, ctS_ap, seqS_ap, seqK_nx, seqK_rt, seqK_bk, seqK_ct, dropS_ap, dropK_ap, retS_ap, retK_ap, retN_ap, ifS_ap, ifK_ap, setS_ap, setK_ap, asgS_ap, asgK_ap, asgJ_ap, nameG_ap, nilG_ap, consG_ap, consGK_ap, fnF_ap, fnK_nx, fnK_rt, forS_ap, forK_ap, negD_ap, addI_ap, varK_ap, startE, yes2, isN, List.map_cons, List.map_nil, List.length_cons, List.length_nil, List.replicate, List.append_nil, List.cons_append, List.nil_append, List.getElem?_cons_zero, List.getElem?_cons_succ, List.set_cons_zero, List.set_cons_succ, R.bind_ok, R.bind_ex, R.bind_bad, R.noex_ok, if_true, if_false, Bool.false_eq_true, Bool.true_eq_false, ite_true, ite_false, reduceIte, Nat.reduceAdd, Nat.reduceSub, Nat.zero_add, Nat.sub_self, Nat.sub_zero, decide_true, decide_false, Bool.not_true, Bool.not_false, subD_ap, ltD_ap, leD_ap, gtD_ap, geD_ap, mulD_ap, modD_ap, divD_ap, powD_ap, tupK_ok, lstK_ok, methK_ok, tupG_ok, eqS_t, eqS_f, neS_t, neS_f, eqI_ap, neI_ap, inT_nil, inT_hit, inT_miss, ne_eq, not_false_eq_true, f_column_s, b_column, jx0, jx1, jx2, reckoned_ok, he, hf]
theorem col_times {n f : VL.D} {tf : VL.D} (hf : ∀ st, f_column d [f] st = .ok tf st) : f_column (d + 1) [.tup [.str "times", n, f]] st = .ok (.clo 2 [.glb "deed_times", .clo 0 [n], tf]) st := by
  simp -implicitDefEqProofs +decide only [varF_ap, cF_ap, opF_ap, opK_ap, bF_ap, boolK_ap, andT_ap, andK_ap, orT_ap, orK_ap, notT_ap, notK_ap, yesT_ap, andV_ap, andVK_ap, orV_ap, orVK_ap, notV_ap, notVK_ap, ifF_ap, ifFK_ap, nilA_ap, consA_ap, consK_ap, consJ_ap, tupA_ap, lstA_ap, newO_ap, dicF_ap, callF_ap, un1_ap, methF_ap, nonO_ap, someO_ap, someK_ap, slF_ap, slK_ap, slJ_ap, itF_ap, itA_ap, nilS_ap, bkS_ap, ctS_ap, seqS_ap, seqK_nx, seqK_rt, seqK_bk, seqK_ct, dropS_ap, dropK_ap, retS_ap, retK_ap, retN_ap, ifS_ap, ifK_ap, setS_ap, setK_ap, asgS_ap, asgK_ap, asgJ_ap, nameG_ap, nilG_ap, consG_ap, consGK_ap, fnF_ap, fnK_nx, fnK_rt, forS_ap, forK_ap, negD_ap, addI_ap, varK_ap, startE, yes2, isN, List.map_cons, List.map_nil, List.length_cons, List.length_nil, List.replicate, List.append_nil, List.cons_append, List.nil_append, List.getElem?_cons_zero, List.getElem?_cons_succ, List.set_cons_zero, List.set_cons_succ, R.bind_ok, R.bind_ex, R.bind_bad, R.noex_ok, if_true, if_false, Bool.false_eq_true, Bool.true_eq_false, ite_true, ite_false, reduceIte, Nat.reduceAdd, Nat.reduceSub, Nat.zero_add, Nat.sub_self, Nat.sub_zero, decide_true, decide_false, Bool.not_true, Bool.not_false, subD_ap, ltD_ap, leD_ap, gtD_ap, geD_ap, mulD_ap, modD_ap, divD_ap, powD_ap, tupK_ok, lstK_ok, methK_ok, tupG_ok, eqS_t, eqS_f, neS_t, neS_f, eqI_ap, neI_ap, inT_nil, inT_hit, inT_miss, ne_eq, not_false_eq_true, f_column_s, b_column, jx0, jx1, jx2, reckoned_ok, always_ok, hf]
theorem col_part {n f : VL.D} {tf : VL.D} (hf : ∀ st, f_column d [f] st = .ok tf st) : f_column (d + 1) [.tup [.str "part", n, f]] st = .ok (.clo 2 [.glb "deed_part", tf, .clo 0 [n]]) st := by
  simp -implicitDefEqProofs +decide only [varF_ap, cF_ap, opF_ap, opK_ap, bF_ap, boolK_ap, andT_ap, andK_ap, orT_ap, orK_ap, notT_ap, notK_ap, yesT_ap, andV_ap, andVK_ap, orV_ap, orVK_ap, notV_ap, notVK_ap, ifF_ap, ifFK_ap, nilA_ap, consA_ap, consK_ap, consJ_ap, tupA_ap, lstA_ap, newO_ap, dicF_ap, callF_ap, un1_ap, methF_ap, nonO_ap, someO_ap, someK_ap, slF_ap, slK_ap, slJ_ap, itF_ap, itA_ap, nilS_ap, bkS_ap, ctS_ap, seqS_ap, seqK_nx, seqK_rt, seqK_bk, seqK_ct, dropS_ap, dropK_ap, retS_ap, retK_ap, retN_ap, ifS_ap, ifK_ap, setS_ap, setK_ap, asgS_ap, asgK_ap, asgJ_ap, nameG_ap, nilG_ap, consG_ap, consGK_ap, fnF_ap, fnK_nx, fnK_rt, forS_ap, forK_ap, negD_ap, addI_ap, varK_ap, startE, yes2, isN, List.map_cons, List.map_nil, List.length_cons, List.length_nil, List.replicate, List.append_nil, List.cons_append, List.nil_append, List.getElem?_cons_zero, List.getElem?_cons_succ, List.set_cons_zero, List.set_cons_succ, R.bind_ok, R.bind_ex, R.bind_bad, R.noex_ok, if_true, if_false, Bool.false_eq_true, Bool.true_eq_false, ite_true, ite_false, reduceIte, Nat.reduceAdd, Nat.reduceSub, Nat.zero_add, Nat.sub_self, Nat.sub_zero, decide_true, decide_false, Bool.not_true, Bool.not_false, subD_ap, ltD_ap, leD_ap, gtD_ap, geD_ap, mulD_ap, modD_ap, divD_ap, powD_ap, tupK_ok, lstK_ok, methK_ok, tupG_ok, eqS_t, eqS_f, neS_t, neS_f, eqI_ap, neI_ap, inT_nil, inT_hit, inT_miss, ne_eq, not_false_eq_true, f_column_s, b_column, jx0, jx1, jx2, reckoned_ok, always_ok, hf]
theorem col_rest {n f : VL.D} {tf : VL.D} (hf : ∀ st, f_column d [f] st = .ok tf st) : f_column (d + 1) [.tup [.str "rest", n, f]] st = .ok (.clo 2 [.glb "deed_rest", tf, .clo 0 [n]]) st := by
  simp -implicitDefEqProofs +decide only [varF_ap, cF_ap, opF_ap, opK_ap, bF_ap, boolK_ap, andT_ap, andK_ap, orT_ap, orK_ap, notT_ap, notK_ap, yesT_ap, andV_ap, andVK_ap, orV_ap, orVK_ap, notV_ap, notVK_ap, ifF_ap, ifFK_ap, nilA_ap, consA_ap, consK_ap, consJ_ap, tupA_ap, lstA_ap, newO_ap, dicF_ap, callF_ap, un1_ap, methF_ap, nonO_ap, someO_ap, someK_ap, slF_ap, slK_ap, slJ_ap, itF_ap, itA_ap, nilS_ap, bkS_ap, ctS_ap, seqS_ap, seqK_nx, seqK_rt, seqK_bk, seqK_ct, dropS_ap, dropK_ap, retS_ap, retK_ap, retN_ap, ifS_ap, ifK_ap, setS_ap, setK_ap, asgS_ap, asgK_ap, asgJ_ap, nameG_ap, nilG_ap, consG_ap, consGK_ap, fnF_ap, fnK_nx, fnK_rt, forS_ap, forK_ap, negD_ap, addI_ap, varK_ap, startE, yes2, isN, List.map_cons, List.map_nil, List.length_cons, List.length_nil, List.replicate, List.append_nil, List.cons_append, List.nil_append, List.getElem?_cons_zero, List.getElem?_cons_succ, List.set_cons_zero, List.set_cons_succ, R.bind_ok, R.bind_ex, R.bind_bad, R.noex_ok, if_true, if_false, Bool.false_eq_true, Bool.true_eq_false, ite_true, ite_false, reduceIte, Nat.reduceAdd, Nat.reduceSub, Nat.zero_add, Nat.sub_self, Nat.sub_zero, decide_true, decide_false, Bool.not_true, Bool.not_false, subD_ap, ltD_ap, leD_ap, gtD_ap, geD_ap, mulD_ap, modD_ap, divD_ap, powD_ap, tupK_ok, lstK_ok, methK_ok, tupG_ok, eqS_t, eqS_f, neS_t, neS_f, eqI_ap, neI_ap, inT_nil, inT_hit, inT_miss, ne_eq, not_false_eq_true, f_column_s, b_column, jx0, jx1, jx2, reckoned_ok, always_ok, hf]
theorem test_cmp {w : Str} {e f : VL.D} {te tf : VL.D} (hw : w = "below" ∨ w = "same") (he : ∀ st, f_column d [e] st = .ok te st) (hf : ∀ st, f_column d [f] st = .ok tf st) : f_test (d + 1) [.tup [.str w, e, f]] st = .ok (.clo 4 [.str w, te, tf]) st := by
  rcases hw with rfl | rfl <;> simp -implicitDefEqProofs +decide only [varF_ap, cF_ap, opF_ap, opK_ap, bF_ap, boolK_ap, andT_ap, andK_ap, orT_ap, orK_ap, notT_ap, notK_ap, yesT_ap, andV_ap, andVK_ap, orV_ap, orVK_ap, notV_ap, notVK_ap, ifF_ap, ifFK_ap, nilA_ap, consA_ap, consK_ap, consJ_ap, tupA_ap, lstA_ap, newO_ap, dicF_ap, callF_ap, un1_ap, methF_ap, nonO_ap, someO_ap, someK_ap, slF_ap, slK_ap, slJ_ap, itF_ap, itA_ap, nilS_ap, bkS_ap, ctS_ap, seqS_ap, seqK_nx, seqK_rt, seqK_bk, seqK_ct, dropS_ap, dropK_ap, retS_ap, retK_ap, retN_ap, ifS_ap, ifK_ap, setS_ap, setK_ap, asgS_ap, asgK_ap, asgJ_ap, nameG_ap, nilG_ap, consG_ap, consGK_ap, fnF_ap, fnK_nx, fnK_rt, forS_ap, forK_ap, negD_ap, addI_ap, varK_ap, startE, yes2, isN, List.map_cons, List.map_nil, List.length_cons, List.length_nil, List.replicate, List.append_nil, List.cons_append, List.nil_append, List.getElem?_cons_zero, List.getElem?_cons_succ, List.set_cons_zero, List.set_cons_succ, R.bind_ok, R.bind_ex, R.bind_bad, R.noex_ok, if_true, if_false, Bool.false_eq_true, Bool.true_eq_false, ite_true, ite_false, reduceIte, Nat.reduceAdd, Nat.reduceSub, Nat.zero_add, Nat.sub_self, Nat.sub_zero, decide_true, decide_false, Bool.not_true, Bool.not_false, subD_ap, ltD_ap, leD_ap, gtD_ap, geD_ap, mulD_ap, modD_ap, divD_ap, powD_ap, tupK_ok, lstK_ok, methK_ok, tupG_ok, eqS_t, eqS_f, neS_t, neS_f, eqI_ap, neI_ap, inT_nil, inT_hit, inT_miss, ne_eq, not_false_eq_true, f_test_s, b_test, jx0, jx1, jx2, compared_ok, he, hf]
theorem test_not {e : VL.D} {te : VL.D} (he : ∀ st, f_test d [e] st = .ok te st) : f_test (d + 1) [.tup [.str "not", e]] st = .ok (.clo 5 [te]) st := by
  have m : mkS 5 [2] [some (VL.D.tup [.str "not", e]), some (.str "not"), some te, none] st = .ok (.rt (.clo 5 [te])) st := rfl
  simp -implicitDefEqProofs +decide only [varF_ap, cF_ap, opF_ap, opK_ap, bF_ap, boolK_ap, andT_ap, andK_ap, orT_ap, orK_ap, notT_ap, notK_ap, yesT_ap, andV_ap, andVK_ap, orV_ap, orVK_ap, notV_ap, notVK_ap, ifF_ap, ifFK_ap, nilA_ap, consA_ap, consK_ap, consJ_ap, tupA_ap, lstA_ap, newO_ap, dicF_ap, callF_ap, un1_ap, methF_ap, nonO_ap, someO_ap, someK_ap, slF_ap, slK_ap, slJ_ap, itF_ap, itA_ap, nilS_ap, bkS_ap, ctS_ap, seqS_ap, seqK_nx, seqK_rt, seqK_bk, seqK_ct, dropS_ap, dropK_ap, retS_ap, retK_ap, retN_ap, ifS_ap, ifK_ap, setS_ap, setK_ap, asgS_ap, asgK_ap, asgJ_ap, nameG_ap, nilG_ap, consG_ap, consGK_ap, fnF_ap, fnK_nx, fnK_rt, forS_ap, forK_ap, negD_ap, addI_ap, varK_ap, startE, yes2, isN, List.map_cons, List.map_nil, List.length_cons, List.length_nil, List.replicate, List.append_nil, List.cons_append, List.nil_append, List.getElem?_cons_zero, List.getElem?_cons_succ, List.set_cons_zero, List.set_cons_succ, R.bind_ok, R.bind_ex, R.bind_bad, R.noex_ok, if_true, if_false, Bool.false_eq_true, Bool.true_eq_false, ite_true, ite_false, reduceIte, Nat.reduceAdd, Nat.reduceSub, Nat.zero_add, Nat.sub_self, Nat.sub_zero, decide_true, decide_false, Bool.not_true, Bool.not_false, subD_ap, ltD_ap, leD_ap, gtD_ap, geD_ap, mulD_ap, modD_ap, divD_ap, powD_ap, tupK_ok, lstK_ok, methK_ok, tupG_ok, eqS_t, eqS_f, neS_t, neS_f, eqI_ap, neI_ap, inT_nil, inT_hit, inT_miss, ne_eq, not_false_eq_true, f_test_s, b_test, jx0, jx1, he, m]
theorem test_and {e f : VL.D} {te tf : VL.D} (he : ∀ st, f_test d [e] st = .ok te st) (hf : ∀ st, f_test d [f] st = .ok tf st) : f_test (d + 1) [.tup [.str "and", e, f]] st = .ok (.clo 6 [te, tf]) st := by
  have m : mkS 6 [2, 3] [some (VL.D.tup [.str "and", e, f]), some (.str "and"), some te, some tf] st = .ok (.rt (.clo 6 [te, tf])) st := rfl
  simp -implicitDefEqProofs +decide only [varF_ap, cF_ap, opF_ap, opK_ap, bF_ap, boolK_ap, andT_ap, andK_ap, orT_ap, orK_ap, notT_ap, notK_ap, yesT_ap, andV_ap, andVK_ap, orV_ap, orVK_ap, notV_ap, notVK_ap, ifF_ap, ifFK_ap, nilA_ap, consA_ap, consK_ap, consJ_ap, tupA_ap, lstA_ap, newO_ap, dicF_ap, callF_ap, un1_ap, methF_ap, nonO_ap, someO_ap, someK_ap, slF_ap, slK_ap, slJ_ap, itF_ap, itA_ap, nilS_ap, bkS_ap, ctS_ap, seqS_ap, seqK_nx, seqK_rt, seqK_bk, seqK_ct, dropS_ap, dropK_ap, retS_ap, retK_ap, retN_ap, ifS_ap, ifK_ap, setS_ap, setK_ap, asgS_ap, asgK_ap, asgJ_ap, nameG_ap, nilG_ap, consG_ap, consGK_ap, fnF_ap, fnK_nx, fnK_rt, forS_ap, forK_ap, negD_ap, addI_ap, varK_ap, startE, yes2, isN, List.map_cons, List.map_nil, List.length_cons, List.length_nil, List.replicate, List.append_nil, List.cons_append, List.nil_append, List.getElem?_cons_zero, List.getElem?_cons_succ, List.set_cons_zero, List.set_cons_succ, R.bind_ok, R.bind_ex, R.bind_bad, R.noex_ok, if_true, if_false, Bool.false_eq_true, Bool.true_eq_false, ite_true, ite_false, reduceIte, Nat.reduceAdd, Nat.reduceSub, Nat.zero_add, Nat.sub_self, Nat.sub_zero, decide_true, decide_false, Bool.not_true, Bool.not_false, subD_ap, ltD_ap, leD_ap, gtD_ap, geD_ap, mulD_ap, modD_ap, divD_ap, powD_ap, tupK_ok, lstK_ok, methK_ok, tupG_ok, eqS_t, eqS_f, neS_t, neS_f, eqI_ap, neI_ap, inT_nil, inT_hit, inT_miss, ne_eq, not_false_eq_true, f_test_s, b_test, jx0, jx1, jx2, he, hf, m]
theorem test_or {e f : VL.D} {te tf : VL.D} (he : ∀ st, f_test d [e] st = .ok te st) (hf : ∀ st, f_test d [f] st = .ok tf st) : f_test (d + 1) [.tup [.str "or", e, f]] st = .ok (.clo 7 [te, tf]) st := by
  have m : mkS 7 [2, 3] [some (VL.D.tup [.str "or", e, f]), some (.str "or"), some te, some tf] st = .ok (.rt (.clo 7 [te, tf])) st := rfl
  simp -implicitDefEqProofs +decide only [varF_ap, cF_ap, opF_ap, opK_ap, bF_ap, boolK_ap, andT_ap, andK_ap, orT_ap, orK_ap, notT_ap, notK_ap, yesT_ap, andV_ap, andVK_ap, orV_ap, orVK_ap, notV_ap, notVK_ap, ifF_ap, ifFK_ap, nilA_ap, consA_ap, consK_ap, consJ_ap, tupA_ap, lstA_ap, newO_ap, dicF_ap, callF_ap, un1_ap, methF_ap, nonO_ap, someO_ap, someK_ap, slF_ap, slK_ap, slJ_ap, itF_ap, itA_ap, nilS_ap, bkS_ap, ctS_ap, seqS_ap, seqK_nx, seqK_rt, seqK_bk, seqK_ct, dropS_ap, dropK_ap, retS_ap, retK_ap, retN_ap, ifS_ap, ifK_ap, setS_ap, setK_ap, asgS_ap, asgK_ap, asgJ_ap, nameG_ap, nilG_ap, consG_ap, consGK_ap, fnF_ap, fnK_nx, fnK_rt, forS_ap, forK_ap, negD_ap, addI_ap, varK_ap, startE, yes2, isN, List.map_cons, List.map_nil, List.length_cons, List.length_nil, List.replicate, List.append_nil, List.cons_append, List.nil_append, List.getElem?_cons_zero, List.getElem?_cons_succ, List.set_cons_zero, List.set_cons_succ, R.bind_ok, R.bind_ex, R.bind_bad, R.noex_ok, if_true, if_false, Bool.false_eq_true, Bool.true_eq_false, ite_true, ite_false, reduceIte, Nat.reduceAdd, Nat.reduceSub, Nat.zero_add, Nat.sub_self, Nat.sub_zero, decide_true, decide_false, Bool.not_true, Bool.not_false, subD_ap, ltD_ap, leD_ap, gtD_ap, geD_ap, mulD_ap, modD_ap, divD_ap, powD_ap, tupK_ok, lstK_ok, methK_ok, tupG_ok, eqS_t, eqS_f, neS_t, neS_f, eqI_ap, neI_ap, inT_nil, inT_hit, inT_miss, ne_eq, not_false_eq_true, f_test_s, b_test, jx0, jx1, jx2, he, hf, m]
end
end Law

namespace Law
open PySem L2 VL
/-! a number by a cell; a row of a width with two cells put in -/
def nb (c : Int) : VL.D := if c % 4 = 0 then .non else if c % 4 = 1 then .int (c / 4 % 19 - 9) else .int (c / 4 % (2 * 10 ^ 30 - 1) - 10 ^ 30 + 1)
theorem nb_cell (c : Int) : cellB (nb c) = true := by
  unfold nb
  split
  · rfl
  · split <;> rfl
theorem number_by_ok {c : Int} {st : Sto} : f__law_number_by [.int c] st = .ok (nb c) st := by
  have p1 : decide ((0 : Int) ≤ 30 ∧ (30 : Int) ≤ 1000000 ∧ (10 : Int).natAbs < 2 ^ 64) = true := by decide
  have v4 : decide ((0 : Int) < 4 ∧ (4 : Int).natAbs.log2 < 9000) = true := by decide +kernel
  have d4 : decide ((0 : Int) < 4) = true := by decide
  have d19 : decide ((0 : Int) < 19) = true := by decide
  have e : ((10 : Int) ^ (30 : Int).toNat) = 10 ^ 30 := rfl
  have m1 : decide ((0 : Int) < 2 * 10 ^ 30 - 1) = true := by decide +kernel
  have q1 : decide (MulOk 2 (10 ^ 30)) = true := mul_okL (by decide)
  by_cases h0 : c % 4 = 0
  · have e0 : nb c = .non := if_pos h0
    rw [e0]
    simp -implicitDefEqProofs only [varF_ap, cF_ap, opF_ap, opK_ap, bF_ap, boolK_ap, andT_ap, andK_ap, orT_ap, orK_ap, notT_ap, notK_ap, yesT_ap, andV_ap, andVK_ap, orV_ap, orVK_ap, notV_ap, notVK_ap, ifF_ap, ifFK_ap, nilA_ap, consA_ap, consK_ap, consJ_ap, tupA_ap, tupK_ap, lstA_ap, lstK_ap, newO_ap, dicF_ap, callF_ap, un1_ap, methF_ap, methK_ap, nonO_ap, someO_ap, someK_ap, slF_ap, slK_ap, slJ_ap, itF_ap, itA_ap, nilS_ap, bkS_ap, ctS_ap, seqS_ap, seqK_nx, seqK_rt, seqK_bk, seqK_ct, dropS_ap, dropK_ap, retS_ap, retK_ap, retN_ap, ifS_ap, ifK_ap, setS_ap, setK_ap, asgS_ap, asgK_ap, asgJ_ap, nameG_ap, nilG_ap, consG_ap, consGK_ap, tupG_ap, fnF_ap, fnK_nx, fnK_rt, forS_ap, forK_ap, intD_ap, negD_ap, addI_ap, varK_ap, startE, yes2, isN, List.map_cons, List.map_nil, List.length_cons, List.length_nil, List.replicate, List.append_nil, List.cons_append, List.nil_append, List.getElem?_cons_zero, List.getElem?_cons_succ, List.set_cons_zero, List.set_cons_succ, R.bind_ok, R.bind_ex, R.bind_bad, R.noex_ok, if_true, if_false, Bool.false_eq_true, Bool.true_eq_false, ite_true, ite_false, reduceIte, Nat.reduceAdd, Nat.reduceSub, Nat.zero_add, Nat.sub_self, Nat.sub_zero, decide_true, decide_false, Bool.not_true, Bool.not_false, f__law_number_by, b__law_number_by, v4, d4, eqI_ap, h0]
  · by_cases h1 : c % 4 = 1
    · have e0 : nb c = .int (c / 4 % 19 - 9) := by unfold nb; rw [if_neg h0, if_pos h1]
      have h0' : decide (c % 4 = 0) = false := decide_eq_false h0
      have h1' : decide (c % 4 = 1) = true := decide_eq_true h1
      rw [e0]
      simp -implicitDefEqProofs only [varF_ap, cF_ap, opF_ap, opK_ap, bF_ap, boolK_ap, andT_ap, andK_ap, orT_ap, orK_ap, notT_ap, notK_ap, yesT_ap, andV_ap, andVK_ap, orV_ap, orVK_ap, notV_ap, notVK_ap, ifF_ap, ifFK_ap, nilA_ap, consA_ap, consK_ap, consJ_ap, tupA_ap, tupK_ap, lstA_ap, lstK_ap, newO_ap, dicF_ap, callF_ap, un1_ap, methF_ap, methK_ap, nonO_ap, someO_ap, someK_ap, slF_ap, slK_ap, slJ_ap, itF_ap, itA_ap, nilS_ap, bkS_ap, ctS_ap, seqS_ap, seqK_nx, seqK_rt, seqK_bk, seqK_ct, dropS_ap, dropK_ap, retS_ap, retK_ap, retN_ap, ifS_ap, ifK_ap, setS_ap, setK_ap, asgS_ap, asgK_ap, asgJ_ap, nameG_ap, nilG_ap, consG_ap, consGK_ap, tupG_ap, fnF_ap, fnK_nx, fnK_rt, forS_ap, forK_ap, intD_ap, negD_ap, addI_ap, varK_ap, startE, yes2, isN, List.map_cons, List.map_nil, List.length_cons, List.length_nil, List.replicate, List.append_nil, List.cons_append, List.nil_append, List.getElem?_cons_zero, List.getElem?_cons_succ, List.set_cons_zero, List.set_cons_succ, R.bind_ok, R.bind_ex, R.bind_bad, R.noex_ok, if_true, if_false, Bool.false_eq_true, Bool.true_eq_false, ite_true, ite_false, reduceIte, Nat.reduceAdd, Nat.reduceSub, Nat.zero_add, Nat.sub_self, Nat.sub_zero, decide_true, decide_false, Bool.not_true, Bool.not_false, f__law_number_by, b__law_number_by, v4, d4, d19, eqI_ap, h0', h1']
    · have e0 : nb c = .int (c / 4 % (2 * 10 ^ 30 - 1) - 10 ^ 30 + 1) := by unfold nb; rw [if_neg h0, if_neg h1]
      have h0' : decide (c % 4 = 0) = false := decide_eq_false h0
      have h1' : decide (c % 4 = 1) = false := decide_eq_false h1
      rw [e0]
      simp -implicitDefEqProofs only [varF_ap, cF_ap, opF_ap, opK_ap, bF_ap, boolK_ap, andT_ap, andK_ap, orT_ap, orK_ap, notT_ap, notK_ap, yesT_ap, andV_ap, andVK_ap, orV_ap, orVK_ap, notV_ap, notVK_ap, ifF_ap, ifFK_ap, nilA_ap, consA_ap, consK_ap, consJ_ap, tupA_ap, tupK_ap, lstA_ap, lstK_ap, newO_ap, dicF_ap, callF_ap, un1_ap, methF_ap, methK_ap, nonO_ap, someO_ap, someK_ap, slF_ap, slK_ap, slJ_ap, itF_ap, itA_ap, nilS_ap, bkS_ap, ctS_ap, seqS_ap, seqK_nx, seqK_rt, seqK_bk, seqK_ct, dropS_ap, dropK_ap, retS_ap, retK_ap, retN_ap, ifS_ap, ifK_ap, setS_ap, setK_ap, asgS_ap, asgK_ap, asgJ_ap, nameG_ap, nilG_ap, consG_ap, consGK_ap, tupG_ap, fnF_ap, fnK_nx, fnK_rt, forS_ap, forK_ap, intD_ap, negD_ap, addI_ap, varK_ap, startE, yes2, isN, List.map_cons, List.map_nil, List.length_cons, List.length_nil, List.replicate, List.append_nil, List.cons_append, List.nil_append, List.getElem?_cons_zero, List.getElem?_cons_succ, List.set_cons_zero, List.set_cons_succ, R.bind_ok, R.bind_ex, R.bind_bad, R.noex_ok, if_true, if_false, Bool.false_eq_true, Bool.true_eq_false, ite_true, ite_false, reduceIte, Nat.reduceAdd, Nat.reduceSub, Nat.zero_add, Nat.sub_self, Nat.sub_zero, decide_true, decide_false, Bool.not_true, Bool.not_false, f__law_number_by, b__law_number_by, v4, d4, eqI_ap, h0', h1', p1, e, m1, q1, addI_ap]
end Law

namespace Law
open PySem L2 VL
/-! what the laws' own helpers tell: cell_at, truth, mixed, cell, row -/
theorem cell_at_ok {st : Sto} {n : Nat} {ns : List Int} {k : Nat} (h : listAt st n = some (ns.map VL.D.int)) : f__law_cell_at [.ref n, .int k] st = .ok (.int (ns.getD k 0)) st := by
  have hl : lenD [VL.D.ref n] st = .ok (.int ns.length) st := by
    show (match listAt st n with | some xs => R.ok (VL.D.int xs.length) st | none => .bad) = _
    rw [h]; simp
  by_cases hk : k < ns.length
  · have e1 : decide ((k : Int) < (ns.length : Int)) = true := decide_eq_true (by omega)
    have e2 : (ns.map VL.D.int)[k]? = some (.int ns[k]) := by rw [List.getElem?_map, List.getElem?_eq_getElem hk]; rfl
    have hi : ixD (.ref n) (.int (k : Int)) st = .ok (.int ns[k]) st := by
      show (match (listAt st n).bind fun xs => atI xs (k : Int) with | some d => R.ok d st | none => .bad) = _
      rw [h, Option.bind_some, atI_nat e2]
    simp -implicitDefEqProofs only [varF_ap, cF_ap, opF_ap, opK_ap, bF_ap, boolK_ap, andT_ap, andK_ap, orT_ap, orK_ap, notT_ap, notK_ap, yesT_ap, andV_ap, andVK_ap, orV_ap, orVK_ap, notV_ap, notVK_ap, ifF_ap, ifFK_ap, nilA_ap, consA_ap, consK_ap, consJ_ap, tupA_ap, tupK_ap, lstA_ap, lstK_ap, newO_ap, dicF_ap, callF_ap, un1_ap, methF_ap, methK_ap, nonO_ap, someO_ap, someK_ap, slF_ap, slK_ap, slJ_ap, itF_ap, itA_ap, nilS_ap, bkS_ap, ctS_ap, seqS_ap, seqK_nx, seqK_rt, seqK_bk, seqK_ct, dropS_ap, dropK_ap, retS_ap, retK_ap, retN_ap, ifS_ap, ifK_ap, setS_ap, setK_ap, asgS_ap, asgK_ap, asgJ_ap, nameG_ap, nilG_ap, consG_ap, consGK_ap, tupG_ap, fnF_ap, fnK_nx, fnK_rt, forS_ap, forK_ap, intD_ap, negD_ap, addI_ap, varK_ap, startE, yes2, isN, List.map_cons, List.map_nil, List.length_cons, List.length_nil, List.replicate, List.append_nil, List.cons_append, List.nil_append, List.getElem?_cons_zero, List.getElem?_cons_succ, List.set_cons_zero, List.set_cons_succ, R.bind_ok, R.bind_ex, R.bind_bad, R.noex_ok, if_true, if_false, Bool.false_eq_true, Bool.true_eq_false, ite_true, ite_false, reduceIte, Nat.reduceAdd, Nat.reduceSub, Nat.zero_add, Nat.sub_self, Nat.sub_zero, decide_true, decide_false, Bool.not_true, Bool.not_false, f__law_cell_at, b__law_cell_at, hl, e1, hi]
    rw [List.getD_eq_getElem?_getD, List.getElem?_eq_getElem hk]; rfl
  · have e1 : decide ((k : Int) < (ns.length : Int)) = false := decide_eq_false (by omega)
    simp -implicitDefEqProofs only [varF_ap, cF_ap, opF_ap, opK_ap, bF_ap, boolK_ap, andT_ap, andK_ap, orT_ap, orK_ap, notT_ap, notK_ap, yesT_ap, andV_ap, andVK_ap, orV_ap, orVK_ap, notV_ap, notVK_ap, ifF_ap, ifFK_ap, nilA_ap, consA_ap, consK_ap, consJ_ap, tupA_ap, tupK_ap, lstA_ap, lstK_ap, newO_ap, dicF_ap, callF_ap, un1_ap, methF_ap, methK_ap, nonO_ap, someO_ap, someK_ap, slF_ap, slK_ap, slJ_ap, itF_ap, itA_ap, nilS_ap, bkS_ap, ctS_ap, seqS_ap, seqK_nx, seqK_rt, seqK_bk, seqK_ct, dropS_ap, dropK_ap, retS_ap, retK_ap, retN_ap, ifS_ap, ifK_ap, setS_ap, setK_ap, asgS_ap, asgK_ap, asgJ_ap, nameG_ap, nilG_ap, consG_ap, consGK_ap, tupG_ap, fnF_ap, fnK_nx, fnK_rt, forS_ap, forK_ap, intD_ap, negD_ap, addI_ap, varK_ap, startE, yes2, isN, List.map_cons, List.map_nil, List.length_cons, List.length_nil, List.replicate, List.append_nil, List.cons_append, List.nil_append, List.getElem?_cons_zero, List.getElem?_cons_succ, List.set_cons_zero, List.set_cons_succ, R.bind_ok, R.bind_ex, R.bind_bad, R.noex_ok, if_true, if_false, Bool.false_eq_true, Bool.true_eq_false, ite_true, ite_false, reduceIte, Nat.reduceAdd, Nat.reduceSub, Nat.zero_add, Nat.sub_self, Nat.sub_zero, decide_true, decide_false, Bool.not_true, Bool.not_false, f__law_cell_at, b__law_cell_at, hl, e1]
    rw [List.getD_eq_getElem?_getD, List.getElem?_eq_none (by omega)]; rfl
end Law

namespace Law
open PySem L2 VL
/-! column and test, at any depth from n on -/
def Col (n : Nat) (e tl : VL.D) : Prop := ∀ d st, n ≤ d → f_column d [e] st = .ok tl st
def Tst (n : Nat) (e tl : VL.D) : Prop := ∀ d st, n ≤ d → f_test d [e] st = .ok tl st
theorem Col.mono {m n : Nat} {e tl : VL.D} (h : Col m e tl) (l : m ≤ n) : Col n e tl := fun d st k => h d st (Nat.le_trans l k)
theorem Tst.mono {m n : Nat} {e tl : VL.D} (h : Tst m e tl) (l : m ≤ n) : Tst n e tl := fun d st k => h d st (Nat.le_trans l k)
theorem succ_of {n d : Nat} (h : n + 1 ≤ d) : ∃ e, d = e + 1 ∧ n ≤ e := ⟨d - 1, by omega, by omega⟩
theorem Col.at {p : VL.D} : Col 1 (.tup [.str "at", p]) (.clo 1 [p]) := fun d st h => by obtain ⟨d, rfl, _⟩ := succ_of h; exact col_at
theorem Col.num {p : VL.D} : Col 1 (.tup [.str "num", p]) (.clo 0 [p]) := fun d st h => by obtain ⟨d, rfl, _⟩ := succ_of h; exact col_num
theorem Col.gap : Col 1 (.tup [.str "gap"]) (.clo 0 [.non]) := fun d st h => by obtain ⟨d, rfl, _⟩ := succ_of h; exact col_gap
theorem Col.if_ {n : Nat} {q e f tq te tf : VL.D} (hq : Tst n q tq) (he : Col n e te) (hf : Col n f tf) : Col (n + 1) (.tup [.str "if", q, e, f]) (.clo 3 [tq, te, tf]) := fun d st h => by
  obtain ⟨d, rfl, k⟩ := succ_of h
  exact col_if (fun st => hq d st k) (fun st => he d st k) (fun st => hf d st k)
theorem Col.plus {n : Nat} {e f te tf : VL.D} (he : Col n e te) (hf : Col n f tf) : Col (n + 1) (.tup [.str "plus", e, f]) (.clo 2 [.glb "deed_plus", te, tf]) := fun d st h => by
  obtain ⟨d, rfl, k⟩ := succ_of h
  exact col_plus (fun st => he d st k) (fun st => hf d st k)
theorem Col.minus {n : Nat} {e f te tf : VL.D} (he : Col n e te) (hf : Col n f tf) : Col (n + 1) (.tup [.str "minus", e, f]) (.clo 2 [.glb "deed_minus", te, tf]) := fun d st h => by
  obtain ⟨d, rfl, k⟩ := succ_of h
  exact col_minus (fun st => he d st k) (fun st => hf d st k)
theorem Col.times {n : Nat} {m f tf : VL.D} (hf : Col n f tf) : Col (n + 1) (.tup [.str "times", m, f]) (.clo 2 [.glb "deed_times", .clo 0 [m], tf]) := fun d st h => by
  obtain ⟨d, rfl, k⟩ := succ_of h
  exact col_times (fun st => hf d st k)
theorem Col.part {n : Nat} {m f tf : VL.D} (hf : Col n f tf) : Col (n + 1) (.tup [.str "part", m, f]) (.clo 2 [.glb "deed_part", tf, .clo 0 [m]]) := fun d st h => by
  obtain ⟨d, rfl, k⟩ := succ_of h
  exact col_part (fun st => hf d st k)
theorem Col.rest {n : Nat} {m f tf : VL.D} (hf : Col n f tf) : Col (n + 1) (.tup [.str "rest", m, f]) (.clo 2 [.glb "deed_rest", tf, .clo 0 [m]]) := fun d st h => by
  obtain ⟨d, rfl, k⟩ := succ_of h
  exact col_rest (fun st => hf d st k)
theorem Tst.cmp {n : Nat} {w : Str} {e f te tf : VL.D} (hw : w = "below" ∨ w = "same") (he : Col n e te) (hf : Col n f tf) : Tst (n + 1) (.tup [.str w, e, f]) (.clo 4 [.str w, te, tf]) := fun d st h => by
  obtain ⟨d, rfl, k⟩ := succ_of h
  exact test_cmp hw (fun st => he d st k) (fun st => hf d st k)
theorem Tst.not_ {n : Nat} {e te : VL.D} (he : Tst n e te) : Tst (n + 1) (.tup [.str "not", e]) (.clo 5 [te]) := fun d st h => by
  obtain ⟨d, rfl, k⟩ := succ_of h
  exact test_not (fun st => he d st k)
theorem Tst.and_ {n : Nat} {e f te tf : VL.D} (he : Tst n e te) (hf : Tst n f tf) : Tst (n + 1) (.tup [.str "and", e, f]) (.clo 6 [te, tf]) := fun d st h => by
  obtain ⟨d, rfl, k⟩ := succ_of h
  exact test_and (fun st => he d st k) (fun st => hf d st k)
theorem Tst.or_ {n : Nat} {e f te tf : VL.D} (he : Tst n e te) (hf : Tst n f tf) : Tst (n + 1) (.tup [.str "or", e, f]) (.clo 7 [te, tf]) := fun d st h => by
  obtain ⟨d, rfl, k⟩ := succ_of h
  exact test_or (fun st => he d st k) (fun st => hf d st k)
theorem zip3_ok {st : Sto} {m n o : Nat} {ds es fs : List VL.D} (h1 : listAt st m = some ds) (h2 : listAt st n = some es) (h3 : listAt st o = some fs) : ∃ ck, ChkOk ck st ∧ zip3D [.ref m, .ref n, .ref o] st = .ok (threes ds es fs, ck) st := by
  refine ⟨chkAt st m ++ (chkAt st n ++ chkAt st o), (chk_at st (Le.refl _)).app ((chk_at st (Le.refl _)).app (chk_at st (Le.refl _))), ?_⟩
  unfold zip3D
  simp only [h1, h2, h3]
theorem zip2_ok {st : Sto} {m n : Nat} {ds es : List VL.D} (h1 : listAt st m = some ds) (h2 : listAt st n = some es) : ∃ ck, ChkOk ck st ∧ zipD [.ref m, .ref n] st = .ok ((ds.zip es).map pairD, ck) st := by
  refine ⟨chkAt st m ++ chkAt st n, (chk_at st (Le.refl _)).app (chk_at st (Le.refl _)), ?_⟩
  unfold zipD
  simp only [h1, h2]
end Law

namespace Law
open PySem L2 VL
theorem sz {n : Nat} (h : n ≤ 100) : (n ≤ sizeLine) = True := eq_true (by rw [sizeLine_eq']; omega)
theorem gt_two : gt_2 "deed_plus" = some f_deed_plus ∧ gt_2 "deed_minus" = some f_deed_minus ∧ gt_2 "deed_times" = some f_deed_times ∧ gt_2 "deed_part" = some f_deed_part ∧ gt_2 "deed_rest" = some f_deed_rest := ⟨rfl, rfl, rfl, rfl, rfl⟩
theorem deed_plus_ok {i j : Int} {st : Sto} : f_deed_plus [.int i, .int j] st = .ok (.int (i + j)) st := rfl
theorem deed_minus_ok {i j : Int} {st : Sto} : f_deed_minus [.int i, .int j] st = .ok (.int (i - j)) st := rfl
theorem deed_times_ok {i j : Int} {st : Sto} (h : Sm 64 i) : f_deed_times [.int i, .int j] st = .ok (.int (i * j)) st := by
  simp -implicitDefEqProofs +decide only [varF_ap, cF_ap, opF_ap, opK_ap, bF_ap, boolK_ap, andT_ap, andK_ap, orT_ap, orK_ap, notT_ap, notK_ap, yesT_ap, andV_ap, andVK_ap, orV_ap, orVK_ap, notV_ap, notVK_ap, ifF_ap, ifFK_ap, nilA_ap, consA_ap, consK_ap, consJ_ap, tupA_ap, lstA_ap, newO_ap, dicF_ap, callF_ap, un1_ap, methF_ap, nonO_ap, someO_ap, someK_ap, slF_ap, slK_ap, slJ_ap, itF_ap, itA_ap, nilS_ap, bkS_ap, ctS_ap, seqS_ap, seqK_nx, seqK_rt, seqK_bk, seqK_ct, dropS_ap, dropK_ap, retS_ap, retK_ap, retN_ap, ifS_ap, ifK_ap, setS_ap, setK_ap, asgS_ap, asgK_ap, asgJ_ap, nameG_ap, nilG_ap, consG_ap, consGK_ap, fnF_ap, fnK_nx, fnK_rt, forS_ap, forK_ap, negD_ap, addI_ap, varK_ap, startE, yes2, isN, List.map_cons, List.map_nil, List.length_cons, List.length_nil, List.replicate, List.append_nil, List.cons_append, List.nil_append, List.getElem?_cons_zero, List.getElem?_cons_succ, List.set_cons_zero, List.set_cons_succ, R.bind_ok, R.bind_ex, R.bind_bad, R.noex_ok, if_true, if_false, Bool.false_eq_true, Bool.true_eq_false, ite_true, ite_false, reduceIte, Nat.reduceAdd, Nat.reduceSub, Nat.zero_add, Nat.sub_self, Nat.sub_zero, decide_true, decide_false, Bool.not_true, Bool.not_false, subD_ap, ltD_ap, leD_ap, gtD_ap, geD_ap, mulD_ap, modD_ap, divD_ap, powD_ap, tupK_ok, lstK_ok, methK_ok, tupG_ok, eqS_t, eqS_f, neS_t, neS_f, eqI_ap, neI_ap, inT_nil, inT_hit, inT_miss, ne_eq, not_false_eq_true, f_deed_times, b_deed_times, mulD_ap (of_decide_eq_true (mul_okL (b := j) h))]
theorem deed_part_ok {i j : Int} {st : Sto} (h : 0 < j) (h2 : j.natAbs.log2 < 9000) : f_deed_part [.int i, .int j] st = .ok (.int (i / j)) st := by
  simp -implicitDefEqProofs +decide only [varF_ap, cF_ap, opF_ap, opK_ap, bF_ap, boolK_ap, andT_ap, andK_ap, orT_ap, orK_ap, notT_ap, notK_ap, yesT_ap, andV_ap, andVK_ap, orV_ap, orVK_ap, notV_ap, notVK_ap, ifF_ap, ifFK_ap, nilA_ap, consA_ap, consK_ap, consJ_ap, tupA_ap, lstA_ap, newO_ap, dicF_ap, callF_ap, un1_ap, methF_ap, nonO_ap, someO_ap, someK_ap, slF_ap, slK_ap, slJ_ap, itF_ap, itA_ap, nilS_ap, bkS_ap, ctS_ap, seqS_ap, seqK_nx, seqK_rt, seqK_bk, seqK_ct, dropS_ap, dropK_ap, retS_ap, retK_ap, retN_ap, ifS_ap, ifK_ap, setS_ap, setK_ap, asgS_ap, asgK_ap, asgJ_ap, nameG_ap, nilG_ap, consG_ap, consGK_ap, fnF_ap, fnK_nx, fnK_rt, forS_ap, forK_ap, negD_ap, addI_ap, varK_ap, startE, yes2, isN, List.map_cons, List.map_nil, List.length_cons, List.length_nil, List.replicate, List.append_nil, List.cons_append, List.nil_append, List.getElem?_cons_zero, List.getElem?_cons_succ, List.set_cons_zero, List.set_cons_succ, R.bind_ok, R.bind_ex, R.bind_bad, R.noex_ok, if_true, if_false, Bool.false_eq_true, Bool.true_eq_false, ite_true, ite_false, reduceIte, Nat.reduceAdd, Nat.reduceSub, Nat.zero_add, Nat.sub_self, Nat.sub_zero, decide_true, decide_false, Bool.not_true, Bool.not_false, subD_ap, ltD_ap, leD_ap, gtD_ap, geD_ap, mulD_ap, modD_ap, divD_ap, powD_ap, tupK_ok, lstK_ok, methK_ok, tupG_ok, eqS_t, eqS_f, neS_t, neS_f, eqI_ap, neI_ap, inT_nil, inT_hit, inT_miss, ne_eq, not_false_eq_true, f_deed_part, b_deed_part, divD_ap h h2]
theorem deed_rest_ok {i j : Int} {st : Sto} (h : 0 < j) : f_deed_rest [.int i, .int j] st = .ok (.int (i % j)) st := by
  simp -implicitDefEqProofs +decide only [varF_ap, cF_ap, opF_ap, opK_ap, bF_ap, boolK_ap, andT_ap, andK_ap, orT_ap, orK_ap, notT_ap, notK_ap, yesT_ap, andV_ap, andVK_ap, orV_ap, orVK_ap, notV_ap, notVK_ap, ifF_ap, ifFK_ap, nilA_ap, consA_ap, consK_ap, consJ_ap, tupA_ap, lstA_ap, newO_ap, dicF_ap, callF_ap, un1_ap, methF_ap, nonO_ap, someO_ap, someK_ap, slF_ap, slK_ap, slJ_ap, itF_ap, itA_ap, nilS_ap, bkS_ap, ctS_ap, seqS_ap, seqK_nx, seqK_rt, seqK_bk, seqK_ct, dropS_ap, dropK_ap, retS_ap, retK_ap, retN_ap, ifS_ap, ifK_ap, setS_ap, setK_ap, asgS_ap, asgK_ap, asgJ_ap, nameG_ap, nilG_ap, consG_ap, consGK_ap, fnF_ap, fnK_nx, fnK_rt, forS_ap, forK_ap, negD_ap, addI_ap, varK_ap, startE, yes2, isN, List.map_cons, List.map_nil, List.length_cons, List.length_nil, List.replicate, List.append_nil, List.cons_append, List.nil_append, List.getElem?_cons_zero, List.getElem?_cons_succ, List.set_cons_zero, List.set_cons_succ, R.bind_ok, R.bind_ex, R.bind_bad, R.noex_ok, if_true, if_false, Bool.false_eq_true, Bool.true_eq_false, ite_true, ite_false, reduceIte, Nat.reduceAdd, Nat.reduceSub, Nat.zero_add, Nat.sub_self, Nat.sub_zero, decide_true, decide_false, Bool.not_true, Bool.not_false, subD_ap, ltD_ap, leD_ap, gtD_ap, geD_ap, mulD_ap, modD_ap, divD_ap, powD_ap, tupK_ok, lstK_ok, methK_ok, tupG_ok, eqS_t, eqS_f, neS_t, neS_f, eqI_ap, neI_ap, inT_nil, inT_hit, inT_miss, ne_eq, not_false_eq_true, f_deed_rest, b_deed_rest, modD_ap h]
theorem comes_ok {a b : VL.D} {st : Sto} (ha : cellB a = true) (hb : cellB b = true) : f__law_comes [a, b] st = .ok (.bl (belowC a b)) st := by
  rcases cellB_cases ha with rfl | ⟨i, rfl⟩ <;> rcases cellB_cases hb with rfl | ⟨j, rfl⟩ <;> simp -implicitDefEqProofs only [varF_ap, cF_ap, opF_ap, opK_ap, bF_ap, boolK_ap, andT_ap, andK_ap, orT_ap, orK_ap, notT_ap, notK_ap, yesT_ap, andV_ap, andVK_ap, orV_ap, orVK_ap, notV_ap, notVK_ap, ifF_ap, ifFK_ap, nilA_ap, consA_ap, consK_ap, consJ_ap, tupA_ap, tupK_ap, lstA_ap, lstK_ap, newO_ap, dicF_ap, callF_ap, un1_ap, methF_ap, methK_ap, nonO_ap, someO_ap, someK_ap, slF_ap, slK_ap, slJ_ap, itF_ap, itA_ap, nilS_ap, bkS_ap, ctS_ap, seqS_ap, seqK_nx, seqK_rt, seqK_bk, seqK_ct, dropS_ap, dropK_ap, retS_ap, retK_ap, retN_ap, ifS_ap, ifK_ap, setS_ap, setK_ap, asgS_ap, asgK_ap, asgJ_ap, nameG_ap, nilG_ap, consG_ap, consGK_ap, tupG_ap, fnF_ap, fnK_nx, fnK_rt, forS_ap, forK_ap, intD_ap, negD_ap, addI_ap, varK_ap, startE, yes2, isN, List.map_cons, List.map_nil, List.length_cons, List.length_nil, List.replicate, List.append_nil, List.cons_append, List.nil_append, List.getElem?_cons_zero, List.getElem?_cons_succ, List.set_cons_zero, List.set_cons_succ, R.bind_ok, R.bind_ex, R.bind_bad, R.noex_ok, if_true, if_false, Bool.false_eq_true, Bool.true_eq_false, ite_true, ite_false, reduceIte, Nat.reduceAdd, Nat.reduceSub, Nat.zero_add, Nat.sub_self, Nat.sub_zero, decide_true, decide_false, Bool.not_true, Bool.not_false, f__law_comes, b__law_comes] <;> rfl
theorem fits_ok {v : VL.D} {st : Sto} (h : cellB v = true ∨ ∃ b, v = .bl b) : f__law_fits [v, v] st = .ok (.bl true) st := by
  rcases h with h | ⟨b, rfl⟩
  · rcases cellB_cases h with rfl | ⟨i, rfl⟩
    · simp -implicitDefEqProofs +decide only [varF_ap, cF_ap, opF_ap, opK_ap, bF_ap, boolK_ap, andT_ap, andK_ap, orT_ap, orK_ap, notT_ap, notK_ap, yesT_ap, andV_ap, andVK_ap, orV_ap, orVK_ap, notV_ap, notVK_ap, ifF_ap, ifFK_ap, nilA_ap, consA_ap, consK_ap, consJ_ap, tupA_ap, lstA_ap, newO_ap, dicF_ap, callF_ap, un1_ap, methF_ap, nonO_ap, someO_ap, someK_ap, slF_ap, slK_ap, slJ_ap, itF_ap, itA_ap, nilS_ap, bkS_ap, ctS_ap, seqS_ap, seqK_nx, seqK_rt, seqK_bk, seqK_ct, dropS_ap, dropK_ap, retS_ap, retK_ap, retN_ap, ifS_ap, ifK_ap, setS_ap, setK_ap, asgS_ap, asgK_ap, asgJ_ap, nameG_ap, nilG_ap, consG_ap, consGK_ap, fnF_ap, fnK_nx, fnK_rt, forS_ap, forK_ap, negD_ap, addI_ap, varK_ap, startE, yes2, isN, List.map_cons, List.map_nil, List.length_cons, List.length_nil, List.replicate, List.append_nil, List.cons_append, List.nil_append, List.getElem?_cons_zero, List.getElem?_cons_succ, List.set_cons_zero, List.set_cons_succ, R.bind_ok, R.bind_ex, R.bind_bad, R.noex_ok, if_true, if_false, Bool.false_eq_true, Bool.true_eq_false, ite_true, ite_false, reduceIte, Nat.reduceAdd, Nat.reduceSub, Nat.zero_add, Nat.sub_self, Nat.sub_zero, decide_true, decide_false, Bool.not_true, Bool.not_false, subD_ap, ltD_ap, leD_ap, gtD_ap, geD_ap, mulD_ap, modD_ap, divD_ap, powD_ap, tupK_ok, lstK_ok, methK_ok, tupG_ok, eqS_t, eqS_f, neS_t, neS_f, eqI_ap, neI_ap, inT_nil, inT_hit, inT_miss, ne_eq, not_false_eq_true, f__law_fits, b__law_fits]
    · have g := isi_ok (d := .int i) (st := st) (T := "int") rfl (by decide)
      have g2 := isi_ok (d := .int i) (st := st) (T := "bool") rfl (by decide)
      have e1 : isT (.int i) st "int" = true := by simp [isT, tyOfD]
      have e2 : isT (.int i) st "bool" = false := by simp [isT, tyOfD]
      rw [e1] at g
      rw [e2] at g2
      have q : eqD (.int i) (.int i) st = .ok (.bl true) st := by rw [eqI_ap, decide_eq_true rfl]
      simp -implicitDefEqProofs +decide only [varF_ap, cF_ap, opF_ap, opK_ap, bF_ap, boolK_ap, andT_ap, andK_ap, orT_ap, orK_ap, notT_ap, notK_ap, yesT_ap, andV_ap, andVK_ap, orV_ap, orVK_ap, notV_ap, notVK_ap, ifF_ap, ifFK_ap, nilA_ap, consA_ap, consK_ap, consJ_ap, tupA_ap, lstA_ap, newO_ap, dicF_ap, callF_ap, un1_ap, methF_ap, nonO_ap, someO_ap, someK_ap, slF_ap, slK_ap, slJ_ap, itF_ap, itA_ap, nilS_ap, bkS_ap, ctS_ap, seqS_ap, seqK_nx, seqK_rt, seqK_bk, seqK_ct, dropS_ap, dropK_ap, retS_ap, retK_ap, retN_ap, ifS_ap, ifK_ap, setS_ap, setK_ap, asgS_ap, asgK_ap, asgJ_ap, nameG_ap, nilG_ap, consG_ap, consGK_ap, fnF_ap, fnK_nx, fnK_rt, forS_ap, forK_ap, negD_ap, addI_ap, varK_ap, startE, yes2, isN, List.map_cons, List.map_nil, List.length_cons, List.length_nil, List.replicate, List.append_nil, List.cons_append, List.nil_append, List.getElem?_cons_zero, List.getElem?_cons_succ, List.set_cons_zero, List.set_cons_succ, R.bind_ok, R.bind_ex, R.bind_bad, R.noex_ok, if_true, if_false, Bool.false_eq_true, Bool.true_eq_false, ite_true, ite_false, reduceIte, Nat.reduceAdd, Nat.reduceSub, Nat.zero_add, Nat.sub_self, Nat.sub_zero, decide_true, decide_false, Bool.not_true, Bool.not_false, subD_ap, ltD_ap, leD_ap, gtD_ap, geD_ap, mulD_ap, modD_ap, divD_ap, powD_ap, tupK_ok, lstK_ok, methK_ok, tupG_ok, eqS_t, eqS_f, neS_t, neS_f, eqI_ap, neI_ap, inT_nil, inT_hit, inT_miss, ne_eq, not_false_eq_true, f__law_fits, b__law_fits, f__law_whole, b__law_whole, g, g2, q]
  · have g2 := isi_ok (d := .bl b) (st := st) (T := "bool") rfl (by decide)
    have e2 : isT (.bl b) st "bool" = true := by simp [isT, tyOfD]
    rw [e2] at g2
    have q : eqD (.bl b) (.bl b) st = .ok (.bl true) st := by cases b <;> rfl
    simp -implicitDefEqProofs +decide only [varF_ap, cF_ap, opF_ap, opK_ap, bF_ap, boolK_ap, andT_ap, andK_ap, orT_ap, orK_ap, notT_ap, notK_ap, yesT_ap, andV_ap, andVK_ap, orV_ap, orVK_ap, notV_ap, notVK_ap, ifF_ap, ifFK_ap, nilA_ap, consA_ap, consK_ap, consJ_ap, tupA_ap, lstA_ap, newO_ap, dicF_ap, callF_ap, un1_ap, methF_ap, nonO_ap, someO_ap, someK_ap, slF_ap, slK_ap, slJ_ap, itF_ap, itA_ap, nilS_ap, bkS_ap, ctS_ap, seqS_ap, seqK_nx, seqK_rt, seqK_bk, seqK_ct, dropS_ap, dropK_ap, retS_ap, retK_ap, retN_ap, ifS_ap, ifK_ap, setS_ap, setK_ap, asgS_ap, asgK_ap, asgJ_ap, nameG_ap, nilG_ap, consG_ap, consGK_ap, fnF_ap, fnK_nx, fnK_rt, forS_ap, forK_ap, negD_ap, addI_ap, varK_ap, startE, yes2, isN, List.map_cons, List.map_nil, List.length_cons, List.length_nil, List.replicate, List.append_nil, List.cons_append, List.nil_append, List.getElem?_cons_zero, List.getElem?_cons_succ, List.set_cons_zero, List.set_cons_succ, R.bind_ok, R.bind_ex, R.bind_bad, R.noex_ok, if_true, if_false, Bool.false_eq_true, Bool.true_eq_false, ite_true, ite_false, reduceIte, Nat.reduceAdd, Nat.reduceSub, Nat.zero_add, Nat.sub_self, Nat.sub_zero, decide_true, decide_false, Bool.not_true, Bool.not_false, subD_ap, ltD_ap, leD_ap, gtD_ap, geD_ap, mulD_ap, modD_ap, divD_ap, powD_ap, tupK_ok, lstK_ok, methK_ok, tupG_ok, eqS_t, eqS_f, neS_t, neS_f, eqI_ap, neI_ap, inT_nil, inT_hit, inT_miss, ne_eq, not_false_eq_true, f__law_fits, b__law_fits, g2, q]
/-! ### entries -/
structure EC (x y z : VL.D) (st : Sto) (dm : Nat) (e : VL.D) : Prop where
  ex : ∃ ex tl r v0 v1 v2 sz dp, e = .tup [ex, .ref r, .int sz, .int (dp : Nat)] ∧ dp ≤ dm ∧ listAt st r = some [v0, v1, v2] ∧ cellB v0 = true ∧ cellB v1 = true ∧ cellB v2 = true ∧ Col (dp + 1) ex tl ∧ Tl (dp + 1) tl [x, y, z] v0 ∧ Tl (dp + 1) tl [y, z, x] v1 ∧ Tl (dp + 1) tl [.non, x, y] v2
structure ET (x y z : VL.D) (st : Sto) (dm : Nat) (e : VL.D) : Prop where
  ex : ∃ ex tl r b0 b1 b2 sz dp, e = .tup [ex, .ref r, .int sz, .int (dp : Nat)] ∧ dp ≤ dm ∧ listAt st r = some [.bl b0, .bl b1, .bl b2] ∧ Tst (dp + 1) ex tl ∧ Tl (dp + 1) tl [x, y, z] (.bl b0) ∧ Tl (dp + 1) tl [y, z, x] (.bl b1) ∧ Tl (dp + 1) tl [.non, x, y] (.bl b2)
section
variable {x y z : VL.D} {st st' : Sto} {dm dm' : Nat} {e : VL.D}
theorem EC.le (h : EC x y z st dm e) (l : Le st st') (d : dm ≤ dm') : EC x y z st' dm' e := by
  obtain ⟨ex, tl, r, v0, v1, v2, s, dp, h1, h2, h3, h4⟩ := h.ex
  exact ⟨ex, tl, r, v0, v1, v2, s, dp, h1, Nat.le_trans h2 d, l.listAt h3, h4⟩
theorem ET.le (h : ET x y z st dm e) (l : Le st st') (d : dm ≤ dm') : ET x y z st' dm' e := by
  obtain ⟨ex, tl, r, v0, v1, v2, s, dp, h1, h2, h3, h4⟩ := h.ex
  exact ⟨ex, tl, r, v0, v1, v2, s, dp, h1, Nat.le_trans h2 d, l.listAt h3, h4⟩
theorem rows_pds (hx : cellB x = true) (hy : cellB y = true) (hz : cellB z = true) : pds [x, y, z] = true ∧ pds [y, z, x] = true ∧ pds [.non, x, y] = true := by
  refine ⟨cells_pds ?_, cells_pds ?_, cells_pds ?_⟩ <;> intro d hd <;> simp only [List.mem_cons, List.not_mem_nil, or_false] at hd <;> rcases hd with rfl | rfl | rfl <;> first | assumption | rfl
def rowsT (x y z : VL.D) : List VL.D := [.tup [x, y, z], .tup [y, z, x], .tup [.non, x, y]]
theorem leaf_ok {c : Int} {rr : Nat} (hx : cellB x = true) (hy : cellB y = true) (hz : cellB z = true) (hr : listAt st rr = some (rowsT x y z)) : ∃ e j, f__law_leaf [.int c, .ref rr] st = .ok e (st ++ j) ∧ EC x y z (st ++ j) 0 e := by
  have v4 : decide ((0 : Int) < 4 ∧ (4 : Int).natAbs.log2 < 9000) = true := by decide +kernel
  have vv : (4 : Int).natAbs.log2 < 9000 := by decide +kernel
  obtain ⟨p, hp, hp3⟩ : ∃ p : Nat, c / 4 % 3 = p ∧ p < 3 := ⟨(c / 4 % 3).toNat, by omega, by omega⟩
  by_cases h1 : c % 4 > 1
  · obtain ⟨v0, v1, v2, g0, g1, g2, k0, k1, k2⟩ : ∃ v0 v1 v2, ([x, y, z] : List VL.D)[p]? = some v0 ∧ ([y, z, x] : List VL.D)[p]? = some v1 ∧ ([VL.D.non, x, y] : List VL.D)[p]? = some v2 ∧ cellB v0 = true ∧ cellB v1 = true ∧ cellB v2 = true := by
      match p, hp3 with
      | 0, _ => exact ⟨x, y, .non, rfl, rfl, rfl, hx, hy, rfl⟩
      | 1, _ => exact ⟨y, z, x, rfl, rfl, rfl, hy, hz, hx⟩
      | 2, _ => exact ⟨z, x, y, rfl, rfl, rfl, hz, hx, hy⟩
    have lc : ∃ j, q0__law_leaf [some (.int c), some (.ref rr), some (.int (p : Nat)), none, none] st = .ok (.ref st.length) (st ++ .lst [v0, v1, v2] :: j) := by
      unfold q0__law_leaf
      have hit : itF (varF 1) [some (.int c), some (.ref rr), some (.int (p : Nat)), none, none] st = .ok (rowsT x y z, chkAt st rr) st := by simp -implicitDefEqProofs only [varF_ap, cF_ap, opF_ap, opK_ap, bF_ap, boolK_ap, andT_ap, andK_ap, orT_ap, orK_ap, notT_ap, notK_ap, yesT_ap, andV_ap, andVK_ap, orV_ap, orVK_ap, notV_ap, notVK_ap, ifF_ap, ifFK_ap, nilA_ap, consA_ap, consK_ap, consJ_ap, tupA_ap, tupK_ap, lstA_ap, lstK_ap, newO_ap, dicF_ap, callF_ap, un1_ap, methF_ap, methK_ap, nonO_ap, someO_ap, someK_ap, slF_ap, slK_ap, slJ_ap, itF_ap, itA_ap, nilS_ap, bkS_ap, ctS_ap, seqS_ap, seqK_nx, seqK_rt, seqK_bk, seqK_ct, dropS_ap, dropK_ap, retS_ap, retK_ap, retN_ap, ifS_ap, ifK_ap, setS_ap, setK_ap, asgS_ap, asgK_ap, asgJ_ap, nameG_ap, nilG_ap, consG_ap, consGK_ap, tupG_ap, fnF_ap, fnK_nx, fnK_rt, forS_ap, forK_ap, intD_ap, negD_ap, addI_ap, varK_ap, startE, yes2, isN, List.map_cons, List.map_nil, List.length_cons, List.length_nil, List.replicate, List.append_nil, List.cons_append, List.nil_append, List.getElem?_cons_zero, List.getElem?_cons_succ, List.set_cons_zero, List.set_cons_succ, R.bind_ok, R.bind_ex, R.bind_bad, R.noex_ok, if_true, if_false, Bool.false_eq_true, Bool.true_eq_false, ite_true, ite_false, reduceIte, Nat.reduceAdd, Nat.reduceSub, Nat.zero_add, Nat.sub_self, Nat.sub_zero, decide_true, decide_false, Bool.not_true, Bool.not_false, itD_list hr]
      obtain ⟨j, e⟩ := lcF_all (vs := [3]) (gf := nameG 3) (te := opF ixD (varF 3) (varF 2)) (fun d => match d with | .tup xs => xs.getD p .non | _ => .non) hit chk_at (by show 3 ≤ sizeLine; decide) fun d hd S hS => by
        simp only [rowsT, List.mem_cons, List.not_mem_nil, or_false] at hd
        rcases hd with rfl | rfl | rfl
        · exact ⟨_, [], rfl, by rw [List.append_nil]; show ixD (.tup [x, y, z]) (.int (p : Nat)) S = _; rw [ixD_tup g0]; simp [List.getD_eq_getElem?_getD, g0]⟩
        · exact ⟨_, [], rfl, by rw [List.append_nil]; show ixD (.tup [y, z, x]) (.int (p : Nat)) S = _; rw [ixD_tup g1]; simp [List.getD_eq_getElem?_getD, g1]⟩
        · exact ⟨_, [], rfl, by rw [List.append_nil]; show ixD (.tup [.non, x, y]) (.int (p : Nat)) S = _; rw [ixD_tup g2]; simp [List.getD_eq_getElem?_getD, g2]⟩
      refine ⟨j, ?_⟩
      rw [e]
      simp [rowsT, List.getD_eq_getElem?_getD, g0, g1, g2]
    obtain ⟨j, lc⟩ := lc
    have t1 : decide (c % 4 > 1) = true := decide_eq_true h1
    refine ⟨.tup [.tup [.str "at", .int (p : Nat)], .ref st.length, .int 34, .int ((0 : Nat) : Nat)], .lst [v0, v1, v2] :: j, ?_, ⟨_, _, st.length, v0, v1, v2, 34, 0, rfl, Nat.le_refl _, listAt_at, k0, k1, k2, Col.at, tl_at g0, tl_at g1, tl_at g2⟩⟩
    simp -implicitDefEqProofs +decide only [varF_ap, cF_ap, opF_ap, opK_ap, bF_ap, boolK_ap, andT_ap, andK_ap, orT_ap, orK_ap, notT_ap, notK_ap, yesT_ap, andV_ap, andVK_ap, orV_ap, orVK_ap, notV_ap, notVK_ap, ifF_ap, ifFK_ap, nilA_ap, consA_ap, consK_ap, consJ_ap, tupA_ap, lstA_ap, newO_ap, dicF_ap, callF_ap, un1_ap, methF_ap, nonO_ap, someO_ap, someK_ap, slF_ap, slK_ap, slJ_ap, itF_ap, itA_ap, nilS_ap, bkS_ap, ctS_ap, seqS_ap, seqK_nx, seqK_rt, seqK_bk, seqK_ct, dropS_ap, dropK_ap, retS_ap, retK_ap, retN_ap, ifS_ap, ifK_ap, setS_ap, setK_ap, asgS_ap, asgK_ap, asgJ_ap, nameG_ap, nilG_ap, consG_ap, consGK_ap, fnF_ap, fnK_nx, fnK_rt, forS_ap, forK_ap, negD_ap, addI_ap, varK_ap, startE, yes2, isN, List.map_cons, List.map_nil, List.length_cons, List.length_nil, List.replicate, List.append_nil, List.cons_append, List.nil_append, List.getElem?_cons_zero, List.getElem?_cons_succ, List.set_cons_zero, List.set_cons_succ, R.bind_ok, R.bind_ex, R.bind_bad, R.noex_ok, if_true, if_false, Bool.false_eq_true, Bool.true_eq_false, ite_true, ite_false, reduceIte, Nat.reduceAdd, Nat.reduceSub, Nat.zero_add, Nat.sub_self, Nat.sub_zero, decide_true, decide_false, Bool.not_true, Bool.not_false, subD_ap, ltD_ap, leD_ap, gtD_ap, geD_ap, mulD_ap, modD_ap, divD_ap, powD_ap, tupK_ok, lstK_ok, methK_ok, tupG_ok, eqS_t, eqS_f, neS_t, neS_f, eqI_ap, neI_ap, inT_nil, inT_hit, inT_miss, ne_eq, not_false_eq_true, f__law_leaf, b__law_leaf, vv, hp, t1, lc, sz (by decide : 2 ≤ 100), sz (by decide : 4 ≤ 100)]
    rfl
  · have t1 : decide (c % 4 > 1) = false := decide_eq_false h1
    have p40 : (0 : Int) ≤ 40 ∧ (40 : Int) ≤ 1000000 ∧ (10 : Int).natAbs < 2 ^ 64 := by decide
    have m40 : (0 : Int) < 10 ^ (40 : Int).toNat := by decide +kernel
    obtain ⟨n, hn⟩ : ∃ n, n = 1 + c / 4 % 10 ^ (40 : Int).toNat := ⟨_, rfl⟩
    have nb' : f__law_number_by [.int n] st = .ok (nb n) st := number_by_ok
    have cn := nb_cell n
    generalize nb n = v at nb' cn
    have rp : ∀ v : VL.D, repD (.ref st.length) (.int 3) (st ++ [VL.O.lst [v]]) = .ok (.ref (st ++ [VL.O.lst [v]]).length) (st ++ [VL.O.lst [v]] ++ [.lst [v, v, v]]) := fun v => by
      unfold repD
      simp only [get_last]
      rw [if_pos ⟨by decide, by decide, by rw [sizeLine_eq']; simp⟩]
      rfl
    by_cases h0 : c % 4 = 0
    · have t0 : decide (c % 4 = 0) = true := decide_eq_true h0
      refine ⟨.tup [.tup [.str "gap"], .ref (st ++ [VL.O.lst [.non]]).length, .int 34, .int ((0 : Nat) : Nat)], [VL.O.lst [.non]] ++ [.lst [.non, .non, .non]], ?_, ⟨_, _, _, .non, .non, .non, 34, 0, rfl, Nat.le_refl _, by rw [← List.append_assoc]; exact listAt_last, rfl, rfl, rfl, Col.gap, tl_always rfl, tl_always rfl, tl_always rfl⟩⟩
      simp -implicitDefEqProofs +decide only [varF_ap, cF_ap, opF_ap, opK_ap, bF_ap, boolK_ap, andT_ap, andK_ap, orT_ap, orK_ap, notT_ap, notK_ap, yesT_ap, andV_ap, andVK_ap, orV_ap, orVK_ap, notV_ap, notVK_ap, ifF_ap, ifFK_ap, nilA_ap, consA_ap, consK_ap, consJ_ap, tupA_ap, lstA_ap, newO_ap, dicF_ap, callF_ap, un1_ap, methF_ap, nonO_ap, someO_ap, someK_ap, slF_ap, slK_ap, slJ_ap, itF_ap, itA_ap, nilS_ap, bkS_ap, ctS_ap, seqS_ap, seqK_nx, seqK_rt, seqK_bk, seqK_ct, dropS_ap, dropK_ap, retS_ap, retK_ap, retN_ap, ifS_ap, ifK_ap, setS_ap, setK_ap, asgS_ap, asgK_ap, asgJ_ap, nameG_ap, nilG_ap, consG_ap, consGK_ap, fnF_ap, fnK_nx, fnK_rt, forS_ap, forK_ap, negD_ap, addI_ap, varK_ap, startE, yes2, isN, List.map_cons, List.map_nil, List.length_cons, List.length_nil, List.replicate, List.append_nil, List.cons_append, List.nil_append, List.getElem?_cons_zero, List.getElem?_cons_succ, List.set_cons_zero, List.set_cons_succ, R.bind_ok, R.bind_ex, R.bind_bad, R.noex_ok, if_true, if_false, Bool.false_eq_true, Bool.true_eq_false, ite_true, ite_false, reduceIte, Nat.reduceAdd, Nat.reduceSub, Nat.zero_add, Nat.sub_self, Nat.sub_zero, decide_true, decide_false, Bool.not_true, Bool.not_false, subD_ap, ltD_ap, leD_ap, gtD_ap, geD_ap, mulD_ap, modD_ap, divD_ap, powD_ap, tupK_ok, lstK_ok, methK_ok, tupG_ok, eqS_t, eqS_f, neS_t, neS_f, eqI_ap, neI_ap, inT_nil, inT_hit, inT_miss, ne_eq, not_false_eq_true, f__law_leaf, b__law_leaf, vv, hp, t1, t0, p40, m40, addI_ap, ← hn, nb', rp, sz (by decide : 1 ≤ 100), sz (by decide : 4 ≤ 100)]
      simp only [List.append_assoc]
      rfl
    · have t0 : decide (c % 4 = 0) = false := decide_eq_false h0
      rcases cellB_cases cn with rfl | ⟨i, rfl⟩
      · refine ⟨.tup [.tup [.str "gap"], .ref (st ++ [VL.O.lst [.non]]).length, .int 34, .int ((0 : Nat) : Nat)], [VL.O.lst [.non]] ++ [.lst [.non, .non, .non]], ?_, ⟨_, _, _, .non, .non, .non, 34, 0, rfl, Nat.le_refl _, by rw [← List.append_assoc]; exact listAt_last, rfl, rfl, rfl, Col.gap, tl_always rfl, tl_always rfl, tl_always rfl⟩⟩
        simp -implicitDefEqProofs +decide only [varF_ap, cF_ap, opF_ap, opK_ap, bF_ap, boolK_ap, andT_ap, andK_ap, orT_ap, orK_ap, notT_ap, notK_ap, yesT_ap, andV_ap, andVK_ap, orV_ap, orVK_ap, notV_ap, notVK_ap, ifF_ap, ifFK_ap, nilA_ap, consA_ap, consK_ap, consJ_ap, tupA_ap, lstA_ap, newO_ap, dicF_ap, callF_ap, un1_ap, methF_ap, nonO_ap, someO_ap, someK_ap, slF_ap, slK_ap, slJ_ap, itF_ap, itA_ap, nilS_ap, bkS_ap, ctS_ap, seqS_ap, seqK_nx, seqK_rt, seqK_bk, seqK_ct, dropS_ap, dropK_ap, retS_ap, retK_ap, retN_ap, ifS_ap, ifK_ap, setS_ap, setK_ap, asgS_ap, asgK_ap, asgJ_ap, nameG_ap, nilG_ap, consG_ap, consGK_ap, fnF_ap, fnK_nx, fnK_rt, forS_ap, forK_ap, negD_ap, addI_ap, varK_ap, startE, yes2, isN, List.map_cons, List.map_nil, List.length_cons, List.length_nil, List.replicate, List.append_nil, List.cons_append, List.nil_append, List.getElem?_cons_zero, List.getElem?_cons_succ, List.set_cons_zero, List.set_cons_succ, R.bind_ok, R.bind_ex, R.bind_bad, R.noex_ok, if_true, if_false, Bool.false_eq_true, Bool.true_eq_false, ite_true, ite_false, reduceIte, Nat.reduceAdd, Nat.reduceSub, Nat.zero_add, Nat.sub_self, Nat.sub_zero, decide_true, decide_false, Bool.not_true, Bool.not_false, subD_ap, ltD_ap, leD_ap, gtD_ap, geD_ap, mulD_ap, modD_ap, divD_ap, powD_ap, tupK_ok, lstK_ok, methK_ok, tupG_ok, eqS_t, eqS_f, neS_t, neS_f, eqI_ap, neI_ap, inT_nil, inT_hit, inT_miss, ne_eq, not_false_eq_true, f__law_leaf, b__law_leaf, vv, hp, t1, t0, p40, m40, addI_ap, ← hn, nb', rp, sz (by decide : 1 ≤ 100), sz (by decide : 4 ≤ 100)]
        simp only [List.append_assoc]
        rfl
      · refine ⟨.tup [.tup [.str "num", .int i], .ref (st ++ [VL.O.lst [.int i]]).length, .int 34, .int ((0 : Nat) : Nat)], [VL.O.lst [.int i]] ++ [.lst [.int i, .int i, .int i]], ?_, ⟨_, _, _, .int i, .int i, .int i, 34, 0, rfl, Nat.le_refl _, by rw [← List.append_assoc]; exact listAt_last, rfl, rfl, rfl, Col.num, tl_always rfl, tl_always rfl, tl_always rfl⟩⟩
        simp -implicitDefEqProofs +decide only [varF_ap, cF_ap, opF_ap, opK_ap, bF_ap, boolK_ap, andT_ap, andK_ap, orT_ap, orK_ap, notT_ap, notK_ap, yesT_ap, andV_ap, andVK_ap, orV_ap, orVK_ap, notV_ap, notVK_ap, ifF_ap, ifFK_ap, nilA_ap, consA_ap, consK_ap, consJ_ap, tupA_ap, lstA_ap, newO_ap, dicF_ap, callF_ap, un1_ap, methF_ap, nonO_ap, someO_ap, someK_ap, slF_ap, slK_ap, slJ_ap, itF_ap, itA_ap, nilS_ap, bkS_ap, ctS_ap, seqS_ap, seqK_nx, seqK_rt, seqK_bk, seqK_ct, dropS_ap, dropK_ap, retS_ap, retK_ap, retN_ap, ifS_ap, ifK_ap, setS_ap, setK_ap, asgS_ap, asgK_ap, asgJ_ap, nameG_ap, nilG_ap, consG_ap, consGK_ap, fnF_ap, fnK_nx, fnK_rt, forS_ap, forK_ap, negD_ap, addI_ap, varK_ap, startE, yes2, isN, List.map_cons, List.map_nil, List.length_cons, List.length_nil, List.replicate, List.append_nil, List.cons_append, List.nil_append, List.getElem?_cons_zero, List.getElem?_cons_succ, List.set_cons_zero, List.set_cons_succ, R.bind_ok, R.bind_ex, R.bind_bad, R.noex_ok, if_true, if_false, Bool.false_eq_true, Bool.true_eq_false, ite_true, ite_false, reduceIte, Nat.reduceAdd, Nat.reduceSub, Nat.zero_add, Nat.sub_self, Nat.sub_zero, decide_true, decide_false, Bool.not_true, Bool.not_false, subD_ap, ltD_ap, leD_ap, gtD_ap, geD_ap, mulD_ap, modD_ap, divD_ap, powD_ap, tupK_ok, lstK_ok, methK_ok, tupG_ok, eqS_t, eqS_f, neS_t, neS_f, eqI_ap, neI_ap, inT_nil, inT_hit, inT_miss, ne_eq, not_false_eq_true, f__law_leaf, b__law_leaf, vv, hp, t1, t0, p40, m40, addI_ap, ← hn, nb', rp, sz (by decide : 1 ≤ 100), sz (by decide : 2 ≤ 100), sz (by decide : 4 ≤ 100)]
        simp only [List.append_assoc]
        rfl
end
end Law
namespace Law
open PySem L2 VL
section
variable {x y z : VL.D} {st st' : Sto} {dm dm' : Nat} {e : VL.D}
def madeD (w : Str) (n : Int) (a b : VL.D) : VL.D :=
  if w = "plus" then reck (fun a b => a + b) a b else if w = "minus" then reck (fun a b => a - b) a b else if w = "times" then reck (fun a b => a * b) (.int n) a
  else if w = "part" then reck (fun a b => a / b) a (.int n) else reck (fun a b => a % b) a (.int n)
def words5 : List Str := ["plus", "minus", "times", "part", "rest"]
theorem made_ok {w : Str} (hw : w ∈ words5) {n : Int} {a b : VL.D} {st : Sto} (hm : Sm 64 n) (hn : w = "part" ∨ w = "rest" → 0 < n) (ha : cellB a = true) (hb : cellB b = true) (hb2 : w ≠ "plus" → w ≠ "minus" → b = .int 0) :
    ∃ j, f__law_made [.str w, .int n, a, b] st = .ok (madeD w n a b) (st ++ j) := by
  have no : f__law_made [.str w, .int n, a, b] st = .ok (madeD w n a b) st → ∃ j, f__law_made [.str w, .int n, a, b] st = .ok (madeD w n a b) (st ++ j) := fun h => ⟨[], by rw [List.append_nil]; exact h⟩
  have mi : ∀ S, int1D [.bl true] S = .ok (.int 1) S := fun _ => rfl
  have pl : ∀ S, int1D [.bl false] S = .ok (.int 0) S := fun _ => rfl
  have q : ∀ x : Int, VL.MulOk n x := fun x => of_decide_eq_true (mul_okL hm)
  have pick : ∀ {p q : VL.D} {st : Sto}, ixD (.ref st.length) (.int 0) (st ++ [.lst [p, q]]) = .ok p (st ++ [.lst [p, q]]) := fun {p q st} => ixD_list (k := 0) listAt_last rfl
  have pick1 : ∀ {p q : VL.D} {st : Sto}, ixD (.ref st.length) (.int 1) (st ++ [.lst [p, q]]) = .ok q (st ++ [.lst [p, q]]) := fun {p q st} => ixD_list (k := 1) listAt_last rfl
  have mx : 0 < n → ∀ S, maxD [.int n, .int 1] S = .ok (.int n) S := fun h S => by
    show R.ok (VL.D.int (if (1 : Int) > n then 1 else n)) S = _
    rw [if_neg (by omega)]
  have nl : 0 < n → n.natAbs.log2 < 9000 := fun h => by
    have : n.natAbs.log2 < 64 := log2_lt hm (by decide)
    omega
  simp only [words5, List.mem_cons, List.not_mem_nil, or_false] at hw
  rcases cellB_cases ha with rfl | ⟨a, rfl⟩
  · rcases hw with rfl | rfl | rfl | rfl | rfl <;> refine no ?_ <;> simp -implicitDefEqProofs +decide only [varF_ap, cF_ap, opF_ap, opK_ap, bF_ap, boolK_ap, andT_ap, andK_ap, orT_ap, orK_ap, notT_ap, notK_ap, yesT_ap, andV_ap, andVK_ap, orV_ap, orVK_ap, notV_ap, notVK_ap, ifF_ap, ifFK_ap, nilA_ap, consA_ap, consK_ap, consJ_ap, tupA_ap, lstA_ap, newO_ap, dicF_ap, callF_ap, un1_ap, methF_ap, nonO_ap, someO_ap, someK_ap, slF_ap, slK_ap, slJ_ap, itF_ap, itA_ap, nilS_ap, bkS_ap, ctS_ap, seqS_ap, seqK_nx, seqK_rt, seqK_bk, seqK_ct, dropS_ap, dropK_ap, retS_ap, retK_ap, retN_ap, ifS_ap, ifK_ap, setS_ap, setK_ap, asgS_ap, asgK_ap, asgJ_ap, nameG_ap, nilG_ap, consG_ap, consGK_ap, fnF_ap, fnK_nx, fnK_rt, forS_ap, forK_ap, negD_ap, addI_ap, varK_ap, startE, yes2, isN, List.map_cons, List.map_nil, List.length_cons, List.length_nil, List.replicate, List.append_nil, List.cons_append, List.nil_append, List.getElem?_cons_zero, List.getElem?_cons_succ, List.set_cons_zero, List.set_cons_succ, R.bind_ok, R.bind_ex, R.bind_bad, R.noex_ok, if_true, if_false, Bool.false_eq_true, Bool.true_eq_false, ite_true, ite_false, reduceIte, Nat.reduceAdd, Nat.reduceSub, Nat.zero_add, Nat.sub_self, Nat.sub_zero, decide_true, decide_false, Bool.not_true, Bool.not_false, subD_ap, ltD_ap, leD_ap, gtD_ap, geD_ap, mulD_ap, modD_ap, divD_ap, powD_ap, tupK_ok, lstK_ok, methK_ok, tupG_ok, eqS_t, eqS_f, neS_t, neS_f, eqI_ap, neI_ap, inT_nil, inT_hit, inT_miss, ne_eq, not_false_eq_true, f__law_made, b__law_made, madeD, reck]
  · rcases hw with rfl | rfl | rfl | rfl | rfl
    · rcases cellB_cases hb with rfl | ⟨b, rfl⟩ <;> refine no ?_ <;> simp -implicitDefEqProofs +decide only [varF_ap, cF_ap, opF_ap, opK_ap, bF_ap, boolK_ap, andT_ap, andK_ap, orT_ap, orK_ap, notT_ap, notK_ap, yesT_ap, andV_ap, andVK_ap, orV_ap, orVK_ap, notV_ap, notVK_ap, ifF_ap, ifFK_ap, nilA_ap, consA_ap, consK_ap, consJ_ap, tupA_ap, lstA_ap, newO_ap, dicF_ap, callF_ap, un1_ap, methF_ap, nonO_ap, someO_ap, someK_ap, slF_ap, slK_ap, slJ_ap, itF_ap, itA_ap, nilS_ap, bkS_ap, ctS_ap, seqS_ap, seqK_nx, seqK_rt, seqK_bk, seqK_ct, dropS_ap, dropK_ap, retS_ap, retK_ap, retN_ap, ifS_ap, ifK_ap, setS_ap, setK_ap, asgS_ap, asgK_ap, asgJ_ap, nameG_ap, nilG_ap, consG_ap, consGK_ap, fnF_ap, fnK_nx, fnK_rt, forS_ap, forK_ap, negD_ap, addI_ap, varK_ap, startE, yes2, isN, List.map_cons, List.map_nil, List.length_cons, List.length_nil, List.replicate, List.append_nil, List.cons_append, List.nil_append, List.getElem?_cons_zero, List.getElem?_cons_succ, List.set_cons_zero, List.set_cons_succ, R.bind_ok, R.bind_ex, R.bind_bad, R.noex_ok, if_true, if_false, Bool.false_eq_true, Bool.true_eq_false, ite_true, ite_false, reduceIte, Nat.reduceAdd, Nat.reduceSub, Nat.zero_add, Nat.sub_self, Nat.sub_zero, decide_true, decide_false, Bool.not_true, Bool.not_false, subD_ap, ltD_ap, leD_ap, gtD_ap, geD_ap, mulD_ap, modD_ap, divD_ap, powD_ap, tupK_ok, lstK_ok, methK_ok, tupG_ok, eqS_t, eqS_f, neS_t, neS_f, eqI_ap, neI_ap, inT_nil, inT_hit, inT_miss, ne_eq, not_false_eq_true, f__law_made, b__law_made, madeD, reck, sz (by decide : 2 ≤ 100)]
    · rcases cellB_cases hb with rfl | ⟨b, rfl⟩ <;> refine no ?_ <;> simp -implicitDefEqProofs +decide only [varF_ap, cF_ap, opF_ap, opK_ap, bF_ap, boolK_ap, andT_ap, andK_ap, orT_ap, orK_ap, notT_ap, notK_ap, yesT_ap, andV_ap, andVK_ap, orV_ap, orVK_ap, notV_ap, notVK_ap, ifF_ap, ifFK_ap, nilA_ap, consA_ap, consK_ap, consJ_ap, tupA_ap, lstA_ap, newO_ap, dicF_ap, callF_ap, un1_ap, methF_ap, nonO_ap, someO_ap, someK_ap, slF_ap, slK_ap, slJ_ap, itF_ap, itA_ap, nilS_ap, bkS_ap, ctS_ap, seqS_ap, seqK_nx, seqK_rt, seqK_bk, seqK_ct, dropS_ap, dropK_ap, retS_ap, retK_ap, retN_ap, ifS_ap, ifK_ap, setS_ap, setK_ap, asgS_ap, asgK_ap, asgJ_ap, nameG_ap, nilG_ap, consG_ap, consGK_ap, fnF_ap, fnK_nx, fnK_rt, forS_ap, forK_ap, negD_ap, addI_ap, varK_ap, startE, yes2, isN, List.map_cons, List.map_nil, List.length_cons, List.length_nil, List.replicate, List.append_nil, List.cons_append, List.nil_append, List.getElem?_cons_zero, List.getElem?_cons_succ, List.set_cons_zero, List.set_cons_succ, R.bind_ok, R.bind_ex, R.bind_bad, R.noex_ok, if_true, if_false, Bool.false_eq_true, Bool.true_eq_false, ite_true, ite_false, reduceIte, Nat.reduceAdd, Nat.reduceSub, Nat.zero_add, Nat.sub_self, Nat.sub_zero, decide_true, decide_false, Bool.not_true, Bool.not_false, subD_ap, ltD_ap, leD_ap, gtD_ap, geD_ap, mulD_ap, modD_ap, divD_ap, powD_ap, tupK_ok, lstK_ok, methK_ok, tupG_ok, eqS_t, eqS_f, neS_t, neS_f, eqI_ap, neI_ap, inT_nil, inT_hit, inT_miss, ne_eq, not_false_eq_true, f__law_made, b__law_made, madeD, reck, sz (by decide : 2 ≤ 100)]
    · obtain rfl := hb2 (by decide) (by decide)
      refine no ?_; simp -implicitDefEqProofs +decide only [varF_ap, cF_ap, opF_ap, opK_ap, bF_ap, boolK_ap, andT_ap, andK_ap, orT_ap, orK_ap, notT_ap, notK_ap, yesT_ap, andV_ap, andVK_ap, orV_ap, orVK_ap, notV_ap, notVK_ap, ifF_ap, ifFK_ap, nilA_ap, consA_ap, consK_ap, consJ_ap, tupA_ap, lstA_ap, newO_ap, dicF_ap, callF_ap, un1_ap, methF_ap, nonO_ap, someO_ap, someK_ap, slF_ap, slK_ap, slJ_ap, itF_ap, itA_ap, nilS_ap, bkS_ap, ctS_ap, seqS_ap, seqK_nx, seqK_rt, seqK_bk, seqK_ct, dropS_ap, dropK_ap, retS_ap, retK_ap, retN_ap, ifS_ap, ifK_ap, setS_ap, setK_ap, asgS_ap, asgK_ap, asgJ_ap, nameG_ap, nilG_ap, consG_ap, consGK_ap, fnF_ap, fnK_nx, fnK_rt, forS_ap, forK_ap, negD_ap, addI_ap, varK_ap, startE, yes2, isN, List.map_cons, List.map_nil, List.length_cons, List.length_nil, List.replicate, List.append_nil, List.cons_append, List.nil_append, List.getElem?_cons_zero, List.getElem?_cons_succ, List.set_cons_zero, List.set_cons_succ, R.bind_ok, R.bind_ex, R.bind_bad, R.noex_ok, if_true, if_false, Bool.false_eq_true, Bool.true_eq_false, ite_true, ite_false, reduceIte, Nat.reduceAdd, Nat.reduceSub, Nat.zero_add, Nat.sub_self, Nat.sub_zero, decide_true, decide_false, Bool.not_true, Bool.not_false, subD_ap, ltD_ap, leD_ap, gtD_ap, geD_ap, mulD_ap, modD_ap, divD_ap, powD_ap, tupK_ok, lstK_ok, methK_ok, tupG_ok, eqS_t, eqS_f, neS_t, neS_f, eqI_ap, neI_ap, inT_nil, inT_hit, inT_miss, ne_eq, not_false_eq_true, f__law_made, b__law_made, madeD, reck, sz (by decide : 2 ≤ 100), q a]
    · have h0 := hn (.inl rfl)
      obtain rfl := hb2 (by decide) (by decide)
      exact ⟨_, by simp -implicitDefEqProofs +decide only [varF_ap, cF_ap, opF_ap, opK_ap, bF_ap, boolK_ap, andT_ap, andK_ap, orT_ap, orK_ap, notT_ap, notK_ap, yesT_ap, andV_ap, andVK_ap, orV_ap, orVK_ap, notV_ap, notVK_ap, ifF_ap, ifFK_ap, nilA_ap, consA_ap, consK_ap, consJ_ap, tupA_ap, lstA_ap, newO_ap, dicF_ap, callF_ap, un1_ap, methF_ap, nonO_ap, someO_ap, someK_ap, slF_ap, slK_ap, slJ_ap, itF_ap, itA_ap, nilS_ap, bkS_ap, ctS_ap, seqS_ap, seqK_nx, seqK_rt, seqK_bk, seqK_ct, dropS_ap, dropK_ap, retS_ap, retK_ap, retN_ap, ifS_ap, ifK_ap, setS_ap, setK_ap, asgS_ap, asgK_ap, asgJ_ap, nameG_ap, nilG_ap, consG_ap, consGK_ap, fnF_ap, fnK_nx, fnK_rt, forS_ap, forK_ap, negD_ap, addI_ap, varK_ap, startE, yes2, isN, List.map_cons, List.map_nil, List.length_cons, List.length_nil, List.replicate, List.append_nil, List.cons_append, List.nil_append, List.getElem?_cons_zero, List.getElem?_cons_succ, List.set_cons_zero, List.set_cons_succ, R.bind_ok, R.bind_ex, R.bind_bad, R.noex_ok, if_true, if_false, Bool.false_eq_true, Bool.true_eq_false, ite_true, ite_false, reduceIte, Nat.reduceAdd, Nat.reduceSub, Nat.zero_add, Nat.sub_self, Nat.sub_zero, decide_true, decide_false, Bool.not_true, Bool.not_false, subD_ap, ltD_ap, leD_ap, gtD_ap, geD_ap, mulD_ap, modD_ap, divD_ap, powD_ap, tupK_ok, lstK_ok, methK_ok, tupG_ok, eqS_t, eqS_f, neS_t, neS_f, eqI_ap, neI_ap, inT_nil, inT_hit, inT_miss, ne_eq, not_false_eq_true, f__law_made, b__law_made, madeD, reck, sz (by decide : 2 ≤ 100), pl, pick, mx h0, h0, nl h0]; rfl⟩
    · have h0 := hn (.inr rfl)
      obtain rfl := hb2 (by decide) (by decide)
      exact ⟨_, by simp -implicitDefEqProofs +decide only [varF_ap, cF_ap, opF_ap, opK_ap, bF_ap, boolK_ap, andT_ap, andK_ap, orT_ap, orK_ap, notT_ap, notK_ap, yesT_ap, andV_ap, andVK_ap, orV_ap, orVK_ap, notV_ap, notVK_ap, ifF_ap, ifFK_ap, nilA_ap, consA_ap, consK_ap, consJ_ap, tupA_ap, lstA_ap, newO_ap, dicF_ap, callF_ap, un1_ap, methF_ap, nonO_ap, someO_ap, someK_ap, slF_ap, slK_ap, slJ_ap, itF_ap, itA_ap, nilS_ap, bkS_ap, ctS_ap, seqS_ap, seqK_nx, seqK_rt, seqK_bk, seqK_ct, dropS_ap, dropK_ap, retS_ap, retK_ap, retN_ap, ifS_ap, ifK_ap, setS_ap, setK_ap, asgS_ap, asgK_ap, asgJ_ap, nameG_ap, nilG_ap, consG_ap, consGK_ap, fnF_ap, fnK_nx, fnK_rt, forS_ap, forK_ap, negD_ap, addI_ap, varK_ap, startE, yes2, isN, List.map_cons, List.map_nil, List.length_cons, List.length_nil, List.replicate, List.append_nil, List.cons_append, List.nil_append, List.getElem?_cons_zero, List.getElem?_cons_succ, List.set_cons_zero, List.set_cons_succ, R.bind_ok, R.bind_ex, R.bind_bad, R.noex_ok, if_true, if_false, Bool.false_eq_true, Bool.true_eq_false, ite_true, ite_false, reduceIte, Nat.reduceAdd, Nat.reduceSub, Nat.zero_add, Nat.sub_self, Nat.sub_zero, decide_true, decide_false, Bool.not_true, Bool.not_false, subD_ap, ltD_ap, leD_ap, gtD_ap, geD_ap, mulD_ap, modD_ap, divD_ap, powD_ap, tupK_ok, lstK_ok, methK_ok, tupG_ok, eqS_t, eqS_f, neS_t, neS_f, eqI_ap, neI_ap, inT_nil, inT_hit, inT_miss, ne_eq, not_false_eq_true, f__law_made, b__law_made, madeD, reck, sz (by decide : 2 ≤ 100), mi, pick1, mx h0, h0, nl h0]; rfl⟩
theorem made_cell {w : Str} {n : Int} {a b : VL.D} : cellB (madeD w n a b) = true := by
  have r : ∀ (f : Int → Int → Int) (a b : VL.D), cellB (reck f a b) = true := fun f a b => by unfold reck; split <;> rfl
  unfold madeD
  repeat' split
  all_goals exact r _ _ _
/-- a pair's, a triple's cells put together -/
def on2 (f : VL.D → VL.D → VL.D) : VL.D → VL.D
  | .tup [a, b] => f a b
  | _ => .non
def on3 (f : VL.D → VL.D → VL.D → VL.D) : VL.D → VL.D
  | .tup [a, b, c] => f a b c
  | _ => .non
theorem ix_last {p q : VL.D} {b : Bool} {S : Sto} : ixD (.ref S.length) (.int (if b = true then 1 else 0)) (S ++ [.lst [p, q]]) = .ok (if b = true then q else p) (S ++ [.lst [p, q]]) := by
  cases b
  · exact ixD_list (k := 0) listAt_last rfl
  · exact ixD_list (k := 1) listAt_last rfl
theorem mx2 {a b : Nat} {st : Sto} : maxD [.int (a : Nat), .int (b : Nat)] st = .ok (.int ((max a b : Nat) : Int)) st := by
  show R.ok (VL.D.int (if (b : Int) > (a : Int) then (b : Int) else a)) st = _
  by_cases h : (b : Int) > a
  · rw [if_pos h, Nat.max_eq_right (by omega)]
  · rw [if_neg h, Nat.max_eq_left (by omega)]
theorem mx3 {a b c : Nat} {st : Sto} : max3D [.int (a : Nat), .int (b : Nat), .int (c : Nat)] st = .ok (.int ((max (max a b) c : Nat) : Int)) st := by
  show R.ok (VL.D.int (if (if (a : Int) < b then (b : Int) else a) < c then (c : Int) else if (a : Int) < b then (b : Int) else a)) st = _
  have e : (if (if (a : Int) < b then (b : Int) else a) < c then (c : Int) else if (a : Int) < b then (b : Int) else a) = ((max (max a b) c : Nat) : Int) := by
    by_cases h : (a : Int) < b
    · rw [if_pos h, Nat.max_eq_right (by omega : a ≤ b)]
      by_cases h2 : (b : Int) < c
      · rw [if_pos h2, Nat.max_eq_right (by omega : b ≤ c)]
      · rw [if_neg h2, Nat.max_eq_left (by omega : c ≤ b)]
    · rw [if_neg h, Nat.max_eq_left (by omega : b ≤ a)]
      by_cases h2 : (a : Int) < c
      · rw [if_pos h2, Nat.max_eq_right (by omega : a ≤ c)]
      · rw [if_neg h2, Nat.max_eq_left (by omega : c ≤ a)]
  rw [e]
theorem chk_two {s S0 : Sto} {c : Chk} (h : ChkOk c s) : ∀ S, Le s S → ChkOk c S := fun S l p hp => l.get (h p hp)
theorem q0_column_ok {a : Option VL.D} {e1 e2 e3 s1 s2 s3 d1 d2 d3 : VL.D} {r1 r2 r3 : Nat} {b0 b1 b2 : Bool} {u0 u1 u2 v0 v1 v2 : VL.D} {f4 f5 f6 f7 f8 f9 f10 : Option VL.D}
    (hb : listAt st r3 = some [.bl b0, .bl b1, .bl b2]) (hu : listAt st r1 = some [u0, u1, u2]) (hv : listAt st r2 = some [v0, v1, v2]) :
    ∃ j, q0__law_column [a, some (.tup [e1, .ref r1, s1, d1]), some (.tup [e2, .ref r2, s2, d2]), some (.tup [e3, .ref r3, s3, d3]), f4, f5, f6, f7, f8, f9, f10] st
      = .ok (.ref st.length) (st ++ .lst [if b0 = true then u0 else v0, if b1 = true then u1 else v1, if b2 = true then u2 else v2] :: j) := by
  obtain ⟨ck, hck, zp⟩ := zip3_ok hb hu hv
  unfold q0__law_column
  obtain ⟨j, e⟩ := lcF_all (st := st) (ds := threes [.bl b0, .bl b1, .bl b2] [u0, u1, u2] [v0, v1, v2]) (vs := [7, 8, 9]) (gf := tupG 3 (consG (nameG 7) (consG (nameG 8) (consG (nameG 9) nilG)))) (te := opF ixD (lstA (consA (varF 9) (consA (varF 8) nilA))) (callF int1D (consA (varF 7) nilA)))
    (it := itA zip3D (consA (opF ixD (varF 3) (cF (.int 1))) (consA (opF ixD (varF 1) (cF (.int 1))) (consA (opF ixD (varF 2) (cF (.int 1))) nilA))))
    (env := [a, some (.tup [e1, .ref r1, s1, d1]), some (.tup [e2, .ref r2, s2, d2]), some (.tup [e3, .ref r3, s3, d3]), f4, f5, f6, f7, f8, f9, f10])
    (on3 fun b u v => match b with | .bl b => if b = true then u else v | _ => .non) (by simp -implicitDefEqProofs only [varF_ap, cF_ap, opF_ap, opK_ap, bF_ap, boolK_ap, andT_ap, andK_ap, orT_ap, orK_ap, notT_ap, notK_ap, yesT_ap, andV_ap, andVK_ap, orV_ap, orVK_ap, notV_ap, notVK_ap, ifF_ap, ifFK_ap, nilA_ap, consA_ap, consK_ap, consJ_ap, tupA_ap, tupK_ap, lstA_ap, lstK_ap, newO_ap, dicF_ap, callF_ap, un1_ap, methF_ap, methK_ap, nonO_ap, someO_ap, someK_ap, slF_ap, slK_ap, slJ_ap, itF_ap, itA_ap, nilS_ap, bkS_ap, ctS_ap, seqS_ap, seqK_nx, seqK_rt, seqK_bk, seqK_ct, dropS_ap, dropK_ap, retS_ap, retK_ap, retN_ap, ifS_ap, ifK_ap, setS_ap, setK_ap, asgS_ap, asgK_ap, asgJ_ap, nameG_ap, nilG_ap, consG_ap, consGK_ap, tupG_ap, fnF_ap, fnK_nx, fnK_rt, forS_ap, forK_ap, intD_ap, negD_ap, addI_ap, varK_ap, startE, yes2, isN, List.map_cons, List.map_nil, List.length_cons, List.length_nil, List.replicate, List.append_nil, List.cons_append, List.nil_append, List.getElem?_cons_zero, List.getElem?_cons_succ, List.set_cons_zero, List.set_cons_succ, R.bind_ok, R.bind_ex, R.bind_bad, R.noex_ok, if_true, if_false, Bool.false_eq_true, Bool.true_eq_false, ite_true, ite_false, reduceIte, Nat.reduceAdd, Nat.reduceSub, Nat.zero_add, Nat.sub_self, Nat.sub_zero, decide_true, decide_false, Bool.not_true, Bool.not_false, jx1, zp]) (chk_two (S0 := st) hck) (by rw [threes_len]; show 3 ≤ sizeLine; decide) fun d hd S hS => by
    have one : ∀ (b : Bool) (u v : VL.D), ∃ e j, tupG 3 (consG (nameG 7) (consG (nameG 8) (consG (nameG 9) nilG))) (.tup [.bl b, u, v]) (wipeE [a, some (.tup [e1, .ref r1, s1, d1]), some (.tup [e2, .ref r2, s2, d2]), some (.tup [e3, .ref r3, s3, d3]), f4, f5, f6, f7, f8, f9, f10] [7, 8, 9]) S = .ok e S ∧ opF ixD (lstA (consA (varF 9) (consA (varF 8) nilA))) (callF int1D (consA (varF 7) nilA)) e S = .ok (if b = true then u else v) (S ++ j) := fun b u v => by
      refine ⟨_, [.lst [v, u]], rfl, ?_⟩
      have i1 : int1D [.bl b] (S ++ [.lst [v, u]]) = .ok (.int (if b = true then 1 else 0)) (S ++ [.lst [v, u]]) := rfl
      have i2 := ix_last (p := v) (q := u) (b := b) (S := S)
      generalize (if b = true then u else v) = k at *
      generalize (if b = true then (1 : Int) else 0) = l at *
      simp -implicitDefEqProofs +decide only [varF_ap, cF_ap, opF_ap, opK_ap, bF_ap, boolK_ap, andT_ap, andK_ap, orT_ap, orK_ap, notT_ap, notK_ap, yesT_ap, andV_ap, andVK_ap, orV_ap, orVK_ap, notV_ap, notVK_ap, ifF_ap, ifFK_ap, nilA_ap, consA_ap, consK_ap, consJ_ap, tupA_ap, lstA_ap, newO_ap, dicF_ap, callF_ap, un1_ap, methF_ap, nonO_ap, someO_ap, someK_ap, slF_ap, slK_ap, slJ_ap, itF_ap, itA_ap, nilS_ap, bkS_ap, ctS_ap, seqS_ap, seqK_nx, seqK_rt, seqK_bk, seqK_ct, dropS_ap, dropK_ap, retS_ap, retK_ap, retN_ap, ifS_ap, ifK_ap, setS_ap, setK_ap, asgS_ap, asgK_ap, asgJ_ap, nameG_ap, nilG_ap, consG_ap, consGK_ap, fnF_ap, fnK_nx, fnK_rt, forS_ap, forK_ap, negD_ap, addI_ap, varK_ap, startE, yes2, isN, List.map_cons, List.map_nil, List.length_cons, List.length_nil, List.replicate, List.append_nil, List.cons_append, List.nil_append, List.getElem?_cons_zero, List.getElem?_cons_succ, List.set_cons_zero, List.set_cons_succ, R.bind_ok, R.bind_ex, R.bind_bad, R.noex_ok, if_true, if_false, Bool.false_eq_true, Bool.true_eq_false, ite_true, ite_false, reduceIte, Nat.reduceAdd, Nat.reduceSub, Nat.zero_add, Nat.sub_self, Nat.sub_zero, decide_true, decide_false, Bool.not_true, Bool.not_false, subD_ap, ltD_ap, leD_ap, gtD_ap, geD_ap, mulD_ap, modD_ap, divD_ap, powD_ap, tupK_ok, lstK_ok, methK_ok, tupG_ok, eqS_t, eqS_f, neS_t, neS_f, eqI_ap, neI_ap, inT_nil, inT_hit, inT_miss, ne_eq, not_false_eq_true, wipeE, sz (by decide : 2 ≤ 100), i1, i2]
    simp only [threes, List.mem_cons, List.not_mem_nil, or_false] at hd
    rcases hd with rfl | rfl | rfl
    · exact one _ _ _
    · exact one _ _ _
    · exact one _ _ _
  exact ⟨j, e⟩
theorem q1_column_ok {w : Str} (hw : w = "plus" ∨ w = "minus") {a f3 f5 f6 f7 f8 f9 f10 : Option VL.D} {e1 e2 s1 s2 d1 d2 : VL.D} {r1 r2 : Nat} {u0 u1 u2 v0 v1 v2 : VL.D} 
    (hu : listAt st r1 = some [u0, u1, u2]) (hv : listAt st r2 = some [v0, v1, v2]) (cu0 : cellB u0 = true) (cu1 : cellB u1 = true) (cu2 : cellB u2 = true) (cv0 : cellB v0 = true) (cv1 : cellB v1 = true) (cv2 : cellB v2 = true) :
    ∃ j, q1__law_column [a, some (.tup [e1, .ref r1, s1, d1]), some (.tup [e2, .ref r2, s2, d2]), f3, some (.str w), f5, f6, f7, f8, f9, f10] st
      = .ok (.ref st.length) (st ++ .lst [madeD w 0 u0 v0, madeD w 0 u1 v1, madeD w 0 u2 v2] :: j) := by
  obtain ⟨ck, hck, zp⟩ := zip2_ok hu hv
  unfold q1__law_column
  obtain ⟨j, e⟩ := lcF_all (st := st) (ds := List.map pairD ([u0, u1, u2].zip [v0, v1, v2])) (vs := [8, 9]) (gf := tupG 2 (consG (nameG 8) (consG (nameG 9) nilG))) (te := callF f__law_made (consA (varF 4) (consA (cF (.int 0)) (consA (varF 8) (consA (varF 9) nilA)))))
    (it := itA zipD (consA (opF ixD (varF 1) (cF (.int 1))) (consA (opF ixD (varF 2) (cF (.int 1))) nilA)))
    (env := [a, some (.tup [e1, .ref r1, s1, d1]), some (.tup [e2, .ref r2, s2, d2]), f3, some (.str w), f5, f6, f7, f8, f9, f10])
    (on2 (madeD w 0)) (by simp -implicitDefEqProofs only [varF_ap, cF_ap, opF_ap, opK_ap, bF_ap, boolK_ap, andT_ap, andK_ap, orT_ap, orK_ap, notT_ap, notK_ap, yesT_ap, andV_ap, andVK_ap, orV_ap, orVK_ap, notV_ap, notVK_ap, ifF_ap, ifFK_ap, nilA_ap, consA_ap, consK_ap, consJ_ap, tupA_ap, tupK_ap, lstA_ap, lstK_ap, newO_ap, dicF_ap, callF_ap, un1_ap, methF_ap, methK_ap, nonO_ap, someO_ap, someK_ap, slF_ap, slK_ap, slJ_ap, itF_ap, itA_ap, nilS_ap, bkS_ap, ctS_ap, seqS_ap, seqK_nx, seqK_rt, seqK_bk, seqK_ct, dropS_ap, dropK_ap, retS_ap, retK_ap, retN_ap, ifS_ap, ifK_ap, setS_ap, setK_ap, asgS_ap, asgK_ap, asgJ_ap, nameG_ap, nilG_ap, consG_ap, consGK_ap, tupG_ap, fnF_ap, fnK_nx, fnK_rt, forS_ap, forK_ap, intD_ap, negD_ap, addI_ap, varK_ap, startE, yes2, isN, List.map_cons, List.map_nil, List.length_cons, List.length_nil, List.replicate, List.append_nil, List.cons_append, List.nil_append, List.getElem?_cons_zero, List.getElem?_cons_succ, List.set_cons_zero, List.set_cons_succ, R.bind_ok, R.bind_ex, R.bind_bad, R.noex_ok, if_true, if_false, Bool.false_eq_true, Bool.true_eq_false, ite_true, ite_false, reduceIte, Nat.reduceAdd, Nat.reduceSub, Nat.zero_add, Nat.sub_self, Nat.sub_zero, decide_true, decide_false, Bool.not_true, Bool.not_false, jx1, zp]) (chk_two (S0 := st) hck) (by show 3 ≤ sizeLine; decide) fun d hd S hS => by
    have one : ∀ (u v : VL.D), cellB u = true → cellB v = true → ∃ e j, tupG 2 (consG (nameG 8) (consG (nameG 9) nilG)) (.tup [u, v]) (wipeE [a, some (.tup [e1, .ref r1, s1, d1]), some (.tup [e2, .ref r2, s2, d2]), f3, some (.str w), f5, f6, f7, f8, f9, f10] [8, 9]) S = .ok e S ∧ callF f__law_made (consA (varF 4) (consA (cF (.int 0)) (consA (varF 8) (consA (varF 9) nilA)))) e S = .ok (madeD w 0 u v) (S ++ j) := fun u v hu hv => by
      obtain ⟨j, h⟩ := made_ok (w := w) (n := 0) (st := S) (by rcases hw with rfl | rfl <;> decide) (by decide) (fun h => by rcases hw with rfl | rfl <;> rcases h with h | h <;> exact absurd h (by decide)) hu hv (fun h1 h2 => by rcases hw with rfl | rfl; exact absurd rfl h1; exact absurd rfl h2)
      refine ⟨_, j, rfl, ?_⟩
      simp -implicitDefEqProofs only [varF_ap, cF_ap, opF_ap, opK_ap, bF_ap, boolK_ap, andT_ap, andK_ap, orT_ap, orK_ap, notT_ap, notK_ap, yesT_ap, andV_ap, andVK_ap, orV_ap, orVK_ap, notV_ap, notVK_ap, ifF_ap, ifFK_ap, nilA_ap, consA_ap, consK_ap, consJ_ap, tupA_ap, tupK_ap, lstA_ap, lstK_ap, newO_ap, dicF_ap, callF_ap, un1_ap, methF_ap, methK_ap, nonO_ap, someO_ap, someK_ap, slF_ap, slK_ap, slJ_ap, itF_ap, itA_ap, nilS_ap, bkS_ap, ctS_ap, seqS_ap, seqK_nx, seqK_rt, seqK_bk, seqK_ct, dropS_ap, dropK_ap, retS_ap, retK_ap, retN_ap, ifS_ap, ifK_ap, setS_ap, setK_ap, asgS_ap, asgK_ap, asgJ_ap, nameG_ap, nilG_ap, consG_ap, consGK_ap, tupG_ap, fnF_ap, fnK_nx, fnK_rt, forS_ap, forK_ap, intD_ap, negD_ap, addI_ap, varK_ap, startE, yes2, isN, List.map_cons, List.map_nil, List.length_cons, List.length_nil, List.replicate, List.append_nil, List.cons_append, List.nil_append, List.getElem?_cons_zero, List.getElem?_cons_succ, List.set_cons_zero, List.set_cons_succ, R.bind_ok, R.bind_ex, R.bind_bad, R.noex_ok, if_true, if_false, Bool.false_eq_true, Bool.true_eq_false, ite_true, ite_false, reduceIte, Nat.reduceAdd, Nat.reduceSub, Nat.zero_add, Nat.sub_self, Nat.sub_zero, decide_true, decide_false, Bool.not_true, Bool.not_false, wipeE, h]
    simp only [List.zip_cons_cons, List.zip_nil_right, List.map_cons, List.map_nil, List.mem_cons, List.not_mem_nil, or_false, pairD] at hd
    rcases hd with rfl | rfl | rfl
    · exact one _ _ cu0 cv0
    · exact one _ _ cu1 cv1
    · exact one _ _ cu2 cv2
  exact ⟨j, e⟩
theorem q2_column_ok {w : Str} (hw : w = "times" ∨ w = "part" ∨ w = "rest") {n : Int} (hm : Sm 64 n) (hn : w = "part" ∨ w = "rest" → 0 < n) {a f2 f3 f6 f7 f8 f9 f10 : Option VL.D} {e1 s1 d1 : VL.D} {r1 : Nat} {u0 u1 u2 : VL.D}
    (hu : listAt st r1 = some [u0, u1, u2]) (cu0 : cellB u0 = true) (cu1 : cellB u1 = true) (cu2 : cellB u2 = true) :
    ∃ j, q2__law_column [a, some (.tup [e1, .ref r1, s1, d1]), f2, f3, some (.str w), some (.int n), f6, f7, f8, f9, f10] st
      = .ok (.ref st.length) (st ++ .lst [madeD w n u0 (.int 0), madeD w n u1 (.int 0), madeD w n u2 (.int 0)] :: j) := by
  unfold q2__law_column
  have it := itD_list hu
  obtain ⟨j, e⟩ := lcF_all (st := st) (s := st) (c := chkAt st r1) (ds := [u0, u1, u2]) (vs := [8]) (gf := nameG 8) (te := callF f__law_made (consA (varF 4) (consA (varF 5) (consA (varF 8) (consA (cF (.int 0)) nilA)))))
    (it := itF (opF ixD (varF 1) (cF (.int 1))))
    (env := [a, some (.tup [e1, .ref r1, s1, d1]), f2, f3, some (.str w), some (.int n), f6, f7, f8, f9, f10])
    (fun u => madeD w n u (.int 0)) (by simp -implicitDefEqProofs only [varF_ap, cF_ap, opF_ap, opK_ap, bF_ap, boolK_ap, andT_ap, andK_ap, orT_ap, orK_ap, notT_ap, notK_ap, yesT_ap, andV_ap, andVK_ap, orV_ap, orVK_ap, notV_ap, notVK_ap, ifF_ap, ifFK_ap, nilA_ap, consA_ap, consK_ap, consJ_ap, tupA_ap, tupK_ap, lstA_ap, lstK_ap, newO_ap, dicF_ap, callF_ap, un1_ap, methF_ap, methK_ap, nonO_ap, someO_ap, someK_ap, slF_ap, slK_ap, slJ_ap, itF_ap, itA_ap, nilS_ap, bkS_ap, ctS_ap, seqS_ap, seqK_nx, seqK_rt, seqK_bk, seqK_ct, dropS_ap, dropK_ap, retS_ap, retK_ap, retN_ap, ifS_ap, ifK_ap, setS_ap, setK_ap, asgS_ap, asgK_ap, asgJ_ap, nameG_ap, nilG_ap, consG_ap, consGK_ap, tupG_ap, fnF_ap, fnK_nx, fnK_rt, forS_ap, forK_ap, intD_ap, negD_ap, addI_ap, varK_ap, startE, yes2, isN, List.map_cons, List.map_nil, List.length_cons, List.length_nil, List.replicate, List.append_nil, List.cons_append, List.nil_append, List.getElem?_cons_zero, List.getElem?_cons_succ, List.set_cons_zero, List.set_cons_succ, R.bind_ok, R.bind_ex, R.bind_bad, R.noex_ok, if_true, if_false, Bool.false_eq_true, Bool.true_eq_false, ite_true, ite_false, reduceIte, Nat.reduceAdd, Nat.reduceSub, Nat.zero_add, Nat.sub_self, Nat.sub_zero, decide_true, decide_false, Bool.not_true, Bool.not_false, jx1, it]) chk_at (by show 3 ≤ sizeLine; decide) fun d hd S hS => by
    have one : ∀ (u : VL.D), cellB u = true → ∃ e j, nameG 8 u (wipeE [a, some (.tup [e1, .ref r1, s1, d1]), f2, f3, some (.str w), some (.int n), f6, f7, f8, f9, f10] [8]) S = .ok e S ∧ callF f__law_made (consA (varF 4) (consA (varF 5) (consA (varF 8) (consA (cF (.int 0)) nilA)))) e S = .ok (madeD w n u (.int 0)) (S ++ j) := fun u hu => by
      obtain ⟨j, h⟩ := made_ok (w := w) (n := n) (b := .int 0) (st := S) (by rcases hw with rfl | rfl | rfl <;> decide) hm hn hu rfl (fun _ _ => rfl)
      refine ⟨_, j, rfl, ?_⟩
      simp -implicitDefEqProofs only [varF_ap, cF_ap, opF_ap, opK_ap, bF_ap, boolK_ap, andT_ap, andK_ap, orT_ap, orK_ap, notT_ap, notK_ap, yesT_ap, andV_ap, andVK_ap, orV_ap, orVK_ap, notV_ap, notVK_ap, ifF_ap, ifFK_ap, nilA_ap, consA_ap, consK_ap, consJ_ap, tupA_ap, tupK_ap, lstA_ap, lstK_ap, newO_ap, dicF_ap, callF_ap, un1_ap, methF_ap, methK_ap, nonO_ap, someO_ap, someK_ap, slF_ap, slK_ap, slJ_ap, itF_ap, itA_ap, nilS_ap, bkS_ap, ctS_ap, seqS_ap, seqK_nx, seqK_rt, seqK_bk, seqK_ct, dropS_ap, dropK_ap, retS_ap, retK_ap, retN_ap, ifS_ap, ifK_ap, setS_ap, setK_ap, asgS_ap, asgK_ap, asgJ_ap, nameG_ap, nilG_ap, consG_ap, consGK_ap, tupG_ap, fnF_ap, fnK_nx, fnK_rt, forS_ap, forK_ap, intD_ap, negD_ap, addI_ap, varK_ap, startE, yes2, isN, List.map_cons, List.map_nil, List.length_cons, List.length_nil, List.replicate, List.append_nil, List.cons_append, List.nil_append, List.getElem?_cons_zero, List.getElem?_cons_succ, List.set_cons_zero, List.set_cons_succ, R.bind_ok, R.bind_ex, R.bind_bad, R.noex_ok, if_true, if_false, Bool.false_eq_true, Bool.true_eq_false, ite_true, ite_false, reduceIte, Nat.reduceAdd, Nat.reduceSub, Nat.zero_add, Nat.sub_self, Nat.sub_zero, decide_true, decide_false, Bool.not_true, Bool.not_false, wipeE, h]
    simp only [List.mem_cons, List.not_mem_nil, or_false] at hd
    rcases hd with rfl | rfl | rfl
    · exact one _ cu0
    · exact one _ cu1
    · exact one _ cu2
  exact ⟨j, e⟩
end
end Law
namespace Law
open PySem L2 VL
section
variable {x y z : VL.D} {st st' : Sto} {dm dm' : Nat} {e : VL.D}
theorem wordAt {k : Int} {r : Nat} {S : Sto} {ws : List VL.D} {w : VL.D} {n : Nat} (h : k = (n : Nat)) (hr : listAt S r = some ws) (hw : ws[n]? = some w) : ixD (.ref r) (.int k) S = .ok w S := by subst h; exact ixD_list hr hw
theorem column_ok {c : Int} {now kept asked : VL.D} (hx : cellB x = true) (hy : cellB y = true) (hz : cellB z = true) (h1 : EC x y z st dm now) (h2 : EC x y z st dm kept) (h3 : ET x y z st dm asked) :
    ∃ e j, f__law_column [.int c, now, kept, asked] st = .ok e (st ++ j) ∧ EC x y z (st ++ j) (dm + 1) e := by
  obtain ⟨g1, g2, g3, g4, g5⟩ := gt_two
  obtain ⟨p1, p2, p3⟩ := rows_pds hx hy hz
  obtain ⟨e1, t1, r1, u0, u1, u2, s1, d1, rfl, l1, a1, cu0, cu1, cu2, k1, m1, m2, m3⟩ := h1.ex
  obtain ⟨e2, t2, r2, v0, v1, v2, s2, d2, rfl, l2, a2, cv0, cv1, cv2, k2, n1, n2, n3⟩ := h2.ex
  obtain ⟨e3, t3, r3, b0, b1, b2, s3, d3, rfl, l3, a3, k3, o1, o2, o3⟩ := h3.ex
  obtain ⟨WS, hWS⟩ : ∃ WS : List VL.D, WS = [.str "plus", .str "minus", .str "times", .str "part", .str "rest", .str "if"] := ⟨_, rfl⟩
  have v6 : (6 : Int).natAbs.log2 < 9000 := by decide +kernel
  have v12 : (12 : Int).natAbs.log2 < 9000 := by decide +kernel
  have a1' := listAt_app (j := [.lst WS]) a1
  have a2' := listAt_app (j := [.lst WS]) a2
  have a3' := listAt_app (j := [.lst WS]) a3
  generalize hn : c / 6 % 1999999999 - 999999999 = n
  have hm : Sm 64 n := by unfold Sm; omega
  obtain ⟨w, hw6, hwk⟩ : ∃ w, ixD (.ref st.length) (.int (c % 6)) (st ++ [.lst WS]) = .ok (.str w) (st ++ [.lst WS]) ∧ (w = "if" ∨ (w = "plus" ∨ w = "minus") ∨ (w = "times" ∨ w = "part" ∨ w = "rest")) := by
    rw [hWS]
    rcases (by omega : c % 6 = (0 : Nat) ∨ c % 6 = (1 : Nat) ∨ c % 6 = (2 : Nat) ∨ c % 6 = (3 : Nat) ∨ c % 6 = (4 : Nat) ∨ c % 6 = (5 : Nat)) with h | h | h | h | h | h
    · exact ⟨"plus", wordAt h listAt_last rfl, .inr (.inl (.inl rfl))⟩
    · exact ⟨"minus", wordAt h listAt_last rfl, .inr (.inl (.inr rfl))⟩
    · exact ⟨"times", wordAt h listAt_last rfl, .inr (.inr (.inl rfl))⟩
    · exact ⟨"part", wordAt h listAt_last rfl, .inr (.inr (.inr (.inl rfl)))⟩
    · exact ⟨"rest", wordAt h listAt_last rfl, .inr (.inr (.inr (.inr rfl)))⟩
    · exact ⟨"if", wordAt h listAt_last rfl, .inl rfl⟩
  rcases hwk with rfl | hwk | hwk
  · obtain ⟨j, q⟩ := q0_column_ok (st := st ++ [.lst WS]) (a := some (.int c)) (e1 := e1) (s1 := .int s1) (d1 := .int (d1 : Nat)) (e2 := e2) (s2 := .int s2) (d2 := .int (d2 : Nat)) (e3 := e3) (s3 := .int s3) (d3 := .int (d3 : Nat)) (f4 := some (.str "if")) (f5 := some (.int n)) (f6 := none) (f7 := none) (f8 := none) (f9 := none) (f10 := none) a3' a1' a2'
    have hv : ∀ (b : Bool) (u v : VL.D), cellB u = true → cellB v = true → cellB (if b = true then u else v) = true := fun b u v h1 h2 => by split <;> assumption
    refine ⟨.tup [.tup [.str "if", e3, e1, e2], .ref (st ++ [VL.O.lst WS]).length, .int (20 + s3 + s1 + s2), .int ((1 + max (max d3 d1) d2 : Nat) : Int)], [.lst WS] ++ .lst [if b0 = true then u0 else v0, if b1 = true then u1 else v1, if b2 = true then u2 else v2] :: j, ?_, ⟨_, .clo 3 [t3, t1, t2], (st ++ [VL.O.lst WS]).length, _, _, _, _, 1 + max (max d3 d1) d2, rfl, by omega, by rw [← List.append_assoc]; exact listAt_at, hv _ _ _ cu0 cv0, hv _ _ _ cu1 cv1, hv _ _ _ cu2 cv2, ?_, ?_, ?_, ?_⟩⟩
    · subst hWS
      have mx := fun S => mx3 (a := d3) (b := d1) (c := d2) (st := S)
      have ea : (1 : Int) + ((max (max d3 d1) d2 : Nat) : Int) = ((1 + max (max d3 d1) d2 : Nat) : Int) := by omega
      generalize (if b0 = true then u0 else v0) = i0 at *
      generalize (if b1 = true then u1 else v1) = i1 at *
      generalize (if b2 = true then u2 else v2) = i2 at *
      generalize max (max d3 d1) d2 = M at *
      simp -implicitDefEqProofs +decide only [varF_ap, cF_ap, opF_ap, opK_ap, bF_ap, boolK_ap, andT_ap, andK_ap, orT_ap, orK_ap, notT_ap, notK_ap, yesT_ap, andV_ap, andVK_ap, orV_ap, orVK_ap, notV_ap, notVK_ap, ifF_ap, ifFK_ap, nilA_ap, consA_ap, consK_ap, consJ_ap, tupA_ap, lstA_ap, newO_ap, dicF_ap, callF_ap, un1_ap, methF_ap, nonO_ap, someO_ap, someK_ap, slF_ap, slK_ap, slJ_ap, itF_ap, itA_ap, nilS_ap, bkS_ap, ctS_ap, seqS_ap, seqK_nx, seqK_rt, seqK_bk, seqK_ct, dropS_ap, dropK_ap, retS_ap, retK_ap, retN_ap, ifS_ap, ifK_ap, setS_ap, setK_ap, asgS_ap, asgK_ap, asgJ_ap, nameG_ap, nilG_ap, consG_ap, consGK_ap, fnF_ap, fnK_nx, fnK_rt, forS_ap, forK_ap, negD_ap, addI_ap, varK_ap, startE, yes2, isN, List.map_cons, List.map_nil, List.length_cons, List.length_nil, List.replicate, List.append_nil, List.cons_append, List.nil_append, List.getElem?_cons_zero, List.getElem?_cons_succ, List.set_cons_zero, List.set_cons_succ, R.bind_ok, R.bind_ex, R.bind_bad, R.noex_ok, if_true, if_false, Bool.false_eq_true, Bool.true_eq_false, ite_true, ite_false, reduceIte, Nat.reduceAdd, Nat.reduceSub, Nat.zero_add, Nat.sub_self, Nat.sub_zero, decide_true, decide_false, Bool.not_true, Bool.not_false, subD_ap, ltD_ap, leD_ap, gtD_ap, geD_ap, mulD_ap, modD_ap, divD_ap, powD_ap, tupK_ok, lstK_ok, methK_ok, tupG_ok, eqS_t, eqS_f, neS_t, neS_f, eqI_ap, neI_ap, inT_nil, inT_hit, inT_miss, ne_eq, not_false_eq_true, f__law_column, b__law_column, sz (by decide : 4 ≤ 100), sz (by decide : 6 ≤ 100), hw6, v6, hn, q, jx0, jx1, jx2, jx3, addI_ap, mx, ea]
      simp only [List.append_assoc, List.cons_append, List.nil_append]
    · exact (Col.if_ (n := max (max d3 d1) d2 + 1) (k3.mono (by omega)) (k1.mono (by omega)) (k2.mono (by omega))).mono (by omega)
    · exact (tl_chosen (d := max (max d3 d1) d2 + 1) (o1.mono (by omega)) (fun h => by rw [h, if_pos rfl]; exact m1.mono (by omega)) (fun h => by rw [h, if_neg Bool.false_ne_true]; exact n1.mono (by omega)) m1.nr n1.nr p1 (hv _ _ _ cu0 cv0)).mono (by omega)
    · exact (tl_chosen (d := max (max d3 d1) d2 + 1) (o2.mono (by omega)) (fun h => by rw [h, if_pos rfl]; exact m2.mono (by omega)) (fun h => by rw [h, if_neg Bool.false_ne_true]; exact n2.mono (by omega)) m1.nr n1.nr p2 (hv _ _ _ cu1 cv1)).mono (by omega)
    · exact (tl_chosen (d := max (max d3 d1) d2 + 1) (o3.mono (by omega)) (fun h => by rw [h, if_pos rfl]; exact m3.mono (by omega)) (fun h => by rw [h, if_neg Bool.false_ne_true]; exact n3.mono (by omega)) m1.nr n1.nr p3 (hv _ _ _ cu2 cv2)).mono (by omega)
  · obtain ⟨j, q⟩ := q1_column_ok hwk (st := st ++ [.lst WS]) (a := some (.int c)) (e1 := e1) (s1 := .int s1) (d1 := .int (d1 : Nat)) (e2 := e2) (s2 := .int s2) (d2 := .int (d2 : Nat)) (f3 := some (.tup [e3, .ref r3, .int s3, .int (d3 : Nat)])) (f5 := some (.int n)) (f6 := none) (f7 := none) (f8 := none) (f9 := none) (f10 := none) a1' a2' cu0 cu1 cu2 cv0 cv1 cv2
    obtain ⟨tl, kc, kt⟩ : ∃ tl, Col (max d1 d2 + 1 + 1) (.tup [.str w, e1, e2]) tl ∧ ∀ (xs : List VL.D) (a b : VL.D), pds xs = true → cellB a = true → cellB b = true → Tl (d1 + 1) t1 xs a → Tl (d2 + 1) t2 xs b → Tl (max d1 d2 + 1 + 1) tl xs (madeD w 0 a b) := by
      rcases hwk with rfl | rfl
      · exact ⟨_, Col.plus (k1.mono (by omega)) (k2.mono (by omega)), fun xs a b p ca cb ta tb => tl_reck (ta.mono (by omega)) (tb.mono (by omega)) p ca cb g1 (fun i j _ _ => deed_plus_ok)⟩
      · exact ⟨_, Col.minus (k1.mono (by omega)) (k2.mono (by omega)), fun xs a b p ca cb ta tb => tl_reck (ta.mono (by omega)) (tb.mono (by omega)) p ca cb g2 (fun i j _ _ => deed_minus_ok)⟩
    have me : max d1 d2 + 1 + 1 ≤ 1 + max d1 d2 + 1 := by omega
    refine ⟨.tup [.tup [.str w, e1, e2], .ref (st ++ [VL.O.lst WS]).length, .int (20 + s1 + s2), .int ((1 + max d1 d2 : Nat) : Int)], [.lst WS] ++ .lst [madeD w 0 u0 v0, madeD w 0 u1 v1, madeD w 0 u2 v2] :: j, ?_, ⟨_, tl, (st ++ [VL.O.lst WS]).length, _, _, _, _, 1 + max d1 d2, rfl, by omega, by rw [← List.append_assoc]; exact listAt_at, made_cell, made_cell, made_cell, kc.mono me, (kt _ _ _ p1 cu0 cv0 m1 n1).mono me, (kt _ _ _ p2 cu1 cv1 m2 n2).mono me, (kt _ _ _ p3 cu2 cv2 m3 n3).mono me⟩⟩
    subst hWS
    have mx := fun S => mx2 (a := d1) (b := d2) (st := S)
    have ea : (1 : Int) + ((max d1 d2 : Nat) : Int) = ((1 + max d1 d2 : Nat) : Int) := by omega
    generalize madeD w 0 u0 v0 = i0 at *
    generalize madeD w 0 u1 v1 = i1 at *
    generalize madeD w 0 u2 v2 = i2 at *
    generalize max d1 d2 = M at *
    rcases hwk with rfl | rfl <;>
      simp -implicitDefEqProofs +decide only [varF_ap, cF_ap, opF_ap, opK_ap, bF_ap, boolK_ap, andT_ap, andK_ap, orT_ap, orK_ap, notT_ap, notK_ap, yesT_ap, andV_ap, andVK_ap, orV_ap, orVK_ap, notV_ap, notVK_ap, ifF_ap, ifFK_ap, nilA_ap, consA_ap, consK_ap, consJ_ap, tupA_ap, lstA_ap, newO_ap, dicF_ap, callF_ap, un1_ap, methF_ap, nonO_ap, someO_ap, someK_ap, slF_ap, slK_ap, slJ_ap, itF_ap, itA_ap, nilS_ap, bkS_ap, ctS_ap, seqS_ap, seqK_nx, seqK_rt, seqK_bk, seqK_ct, dropS_ap, dropK_ap, retS_ap, retK_ap, retN_ap, ifS_ap, ifK_ap, setS_ap, setK_ap, asgS_ap, asgK_ap, asgJ_ap, nameG_ap, nilG_ap, consG_ap, consGK_ap, fnF_ap, fnK_nx, fnK_rt, forS_ap, forK_ap, negD_ap, addI_ap, varK_ap, startE, yes2, isN, List.map_cons, List.map_nil, List.length_cons, List.length_nil, List.replicate, List.append_nil, List.cons_append, List.nil_append, List.getElem?_cons_zero, List.getElem?_cons_succ, List.set_cons_zero, List.set_cons_succ, R.bind_ok, R.bind_ex, R.bind_bad, R.noex_ok, if_true, if_false, Bool.false_eq_true, Bool.true_eq_false, ite_true, ite_false, reduceIte, Nat.reduceAdd, Nat.reduceSub, Nat.zero_add, Nat.sub_self, Nat.sub_zero, decide_true, decide_false, Bool.not_true, Bool.not_false, subD_ap, ltD_ap, leD_ap, gtD_ap, geD_ap, mulD_ap, modD_ap, divD_ap, powD_ap, tupK_ok, lstK_ok, methK_ok, tupG_ok, eqS_t, eqS_f, neS_t, neS_f, eqI_ap, neI_ap, inT_nil, inT_hit, inT_miss, ne_eq, not_false_eq_true, f__law_column, b__law_column, sz (by decide : 3 ≤ 100), sz (by decide : 4 ≤ 100), sz (by decide : 6 ≤ 100), hw6, v6, hn, q, jx0, jx1, jx2, jx3, addI_ap, mx, ea] <;>
      simp only [List.append_assoc, List.cons_append, List.nil_append]
  · obtain ⟨L, hL⟩ : ∃ L : Int, L = if c / 6 % 2 = 0 then 9 else 999999999 := ⟨_, rfl⟩
    have pk : ∀ st, ixD (.ref st.length) (.int (c / 6 % 2)) (st ++ [VL.O.lst [.int 9, .int 999999999]]) = .ok (.int L) (st ++ [.lst [.int 9, .int 999999999]]) := fun st => by
      rcases (by omega : c / 6 % 2 = 0 ∨ c / 6 % 2 = 1) with e | e
      · rw [e] at hL ⊢; rw [hL]; exact ixD_list (k := 0) listAt_last rfl
      · rw [e] at hL ⊢; rw [hL]; exact ixD_list (k := 1) listAt_last rfl
    have L0 : 0 < L := by rw [hL]; split <;> decide
    have L1 : L < 1000000000 := by rw [hL]; split <;> decide
    generalize hb : 1 + c / 12 % L = bb
    have n1' := Int.emod_nonneg (c / 12) (show L ≠ 0 by omega)
    have n2' := Int.emod_lt_of_pos (c / 12) L0
    have hb0 : 0 < bb := by omega
    have hb1 : Sm 64 bb := by unfold Sm; omega
    have bl : bb.natAbs.log2 < 9000 := by
      have : bb.natAbs.log2 < 64 := log2_lt hb1 (by decide)
      omega
    have me : d1 + 1 + 1 ≤ 1 + d1 + 1 := by omega
    have ea : (1 : Int) + (d1 : Int) = ((1 + d1 : Nat) : Int) := by omega
    have fin : ∀ (w : Str) (k : Int) (tl : VL.D) (S : Sto), (w = "times" ∨ w = "part" ∨ w = "rest") → Le st S → Col (d1 + 1 + 1) (.tup [.str w, .int k, e1]) tl →
        (∀ (xs : List VL.D) (a : VL.D), pds xs = true → cellB a = true → Tl (d1 + 1) t1 xs a → Tl (d1 + 1 + 1) tl xs (madeD w k a (.int 0))) →
        (∃ j, f__law_column [.int c, .tup [e1, .ref r1, .int s1, .int (d1 : Nat)], .tup [e2, .ref r2, .int s2, .int (d2 : Nat)], .tup [e3, .ref r3, .int s3, .int (d3 : Nat)]] st = .ok (.tup [.tup [.str w, .int k, e1], .ref S.length, .int (20 + s1), .int ((1 + d1 : Nat) : Int)]) (S ++ .lst [madeD w k u0 (.int 0), madeD w k u1 (.int 0), madeD w k u2 (.int 0)] :: j)) →
        ∃ e j, f__law_column [.int c, .tup [e1, .ref r1, .int s1, .int (d1 : Nat)], .tup [e2, .ref r2, .int s2, .int (d2 : Nat)], .tup [e3, .ref r3, .int s3, .int (d3 : Nat)]] st = .ok e (st ++ j) ∧ EC x y z (st ++ j) (dm + 1) e := by
      intro w k tl S hw ⟨i, hS⟩ kc kt ⟨j, q⟩
      subst hS
      refine ⟨_, i ++ _, by rw [← List.append_assoc]; exact q, ⟨_, tl, (st ++ i).length, _, _, _, _, 1 + d1, rfl, by omega, by rw [← List.append_assoc]; exact listAt_at, made_cell, made_cell, made_cell, kc.mono me, (kt _ _ p1 cu0 m1).mono me, (kt _ _ p2 cu1 m2).mono me, (kt _ _ p3 cu2 m3).mono me⟩⟩
    have a1'' := listAt_app (j := [VL.O.lst [.int 9, .int 999999999]]) a1'
    rcases hwk with rfl | hwk
    · obtain ⟨j, q⟩ := q2_column_ok (.inl rfl) hm (fun h => by rcases h with h | h <;> exact absurd h (by decide)) (st := st ++ [.lst WS]) (a := some (.int c)) (e1 := e1) (s1 := .int s1) (d1 := .int (d1 : Nat)) (f2 := some (.tup [e2, .ref r2, .int s2, .int (d2 : Nat)])) (f3 := some (.tup [e3, .ref r3, .int s3, .int (d3 : Nat)])) (f6 := none) (f7 := none) (f8 := none) (f9 := none) (f10 := none) a1' cu0 cu1 cu2
      refine fin "times" n _ (st ++ [.lst WS]) (.inl rfl) (Le.app _ _) (Col.times k1) (fun xs a p ca ta => tl_reck (op := fun a b => a * b) ((tl_always rfl).mono (by omega)) ta p rfl ca g3 (fun i j e _ => by cases e; exact deed_times_ok hm)) ⟨j, ?_⟩
      subst hWS
      simp -implicitDefEqProofs +decide only [varF_ap, cF_ap, opF_ap, opK_ap, bF_ap, boolK_ap, andT_ap, andK_ap, orT_ap, orK_ap, notT_ap, notK_ap, yesT_ap, andV_ap, andVK_ap, orV_ap, orVK_ap, notV_ap, notVK_ap, ifF_ap, ifFK_ap, nilA_ap, consA_ap, consK_ap, consJ_ap, tupA_ap, lstA_ap, newO_ap, dicF_ap, callF_ap, un1_ap, methF_ap, nonO_ap, someO_ap, someK_ap, slF_ap, slK_ap, slJ_ap, itF_ap, itA_ap, nilS_ap, bkS_ap, ctS_ap, seqS_ap, seqK_nx, seqK_rt, seqK_bk, seqK_ct, dropS_ap, dropK_ap, retS_ap, retK_ap, retN_ap, ifS_ap, ifK_ap, setS_ap, setK_ap, asgS_ap, asgK_ap, asgJ_ap, nameG_ap, nilG_ap, consG_ap, consGK_ap, fnF_ap, fnK_nx, fnK_rt, forS_ap, forK_ap, negD_ap, addI_ap, varK_ap, startE, yes2, isN, List.map_cons, List.map_nil, List.length_cons, List.length_nil, List.replicate, List.append_nil, List.cons_append, List.nil_append, List.getElem?_cons_zero, List.getElem?_cons_succ, List.set_cons_zero, List.set_cons_succ, R.bind_ok, R.bind_ex, R.bind_bad, R.noex_ok, if_true, if_false, Bool.false_eq_true, Bool.true_eq_false, ite_true, ite_false, reduceIte, Nat.reduceAdd, Nat.reduceSub, Nat.zero_add, Nat.sub_self, Nat.sub_zero, decide_true, decide_false, Bool.not_true, Bool.not_false, subD_ap, ltD_ap, leD_ap, gtD_ap, geD_ap, mulD_ap, modD_ap, divD_ap, powD_ap, tupK_ok, lstK_ok, methK_ok, tupG_ok, eqS_t, eqS_f, neS_t, neS_f, eqI_ap, neI_ap, inT_nil, inT_hit, inT_miss, ne_eq, not_false_eq_true, f__law_column, b__law_column, sz (by decide : 3 ≤ 100), sz (by decide : 4 ≤ 100), sz (by decide : 6 ≤ 100), hw6, v6, hn, q, jx0, jx1, jx2, jx3, addI_ap, ea]
    · obtain ⟨j, q⟩ := q2_column_ok (w := w) (.inr hwk) hb1 (fun _ => hb0) (st := st ++ [.lst WS] ++ [VL.O.lst [.int 9, .int 999999999]]) (a := some (.int c)) (e1 := e1) (s1 := .int s1) (d1 := .int (d1 : Nat)) (f2 := some (.tup [e2, .ref r2, .int s2, .int (d2 : Nat)])) (f3 := some (.tup [e3, .ref r3, .int s3, .int (d3 : Nat)])) (f6 := none) (f7 := none) (f8 := none) (f9 := none) (f10 := none) a1'' cu0 cu1 cu2
      rcases hwk with rfl | rfl
      · refine fin "part" bb _ (st ++ [.lst WS] ++ [VL.O.lst [.int 9, .int 999999999]]) (.inr (.inl rfl)) ((Le.app _ _).trans (Le.app _ _)) (Col.part k1) (fun xs a p ca ta => tl_reck (op := fun a b => a / b) ta ((tl_always rfl).mono (by omega)) p ca rfl g4 (fun i j _ e => by cases e; exact deed_part_ok hb0 bl)) ⟨j, ?_⟩
        subst hWS
        simp -implicitDefEqProofs +decide only [varF_ap, cF_ap, opF_ap, opK_ap, bF_ap, boolK_ap, andT_ap, andK_ap, orT_ap, orK_ap, notT_ap, notK_ap, yesT_ap, andV_ap, andVK_ap, orV_ap, orVK_ap, notV_ap, notVK_ap, ifF_ap, ifFK_ap, nilA_ap, consA_ap, consK_ap, consJ_ap, tupA_ap, lstA_ap, newO_ap, dicF_ap, callF_ap, un1_ap, methF_ap, nonO_ap, someO_ap, someK_ap, slF_ap, slK_ap, slJ_ap, itF_ap, itA_ap, nilS_ap, bkS_ap, ctS_ap, seqS_ap, seqK_nx, seqK_rt, seqK_bk, seqK_ct, dropS_ap, dropK_ap, retS_ap, retK_ap, retN_ap, ifS_ap, ifK_ap, setS_ap, setK_ap, asgS_ap, asgK_ap, asgJ_ap, nameG_ap, nilG_ap, consG_ap, consGK_ap, fnF_ap, fnK_nx, fnK_rt, forS_ap, forK_ap, negD_ap, addI_ap, varK_ap, startE, yes2, isN, List.map_cons, List.map_nil, List.length_cons, List.length_nil, List.replicate, List.append_nil, List.cons_append, List.nil_append, List.getElem?_cons_zero, List.getElem?_cons_succ, List.set_cons_zero, List.set_cons_succ, R.bind_ok, R.bind_ex, R.bind_bad, R.noex_ok, if_true, if_false, Bool.false_eq_true, Bool.true_eq_false, ite_true, ite_false, reduceIte, Nat.reduceAdd, Nat.reduceSub, Nat.zero_add, Nat.sub_self, Nat.sub_zero, decide_true, decide_false, Bool.not_true, Bool.not_false, subD_ap, ltD_ap, leD_ap, gtD_ap, geD_ap, mulD_ap, modD_ap, divD_ap, powD_ap, tupK_ok, lstK_ok, methK_ok, tupG_ok, eqS_t, eqS_f, neS_t, neS_f, eqI_ap, neI_ap, inT_nil, inT_hit, inT_miss, ne_eq, not_false_eq_true, f__law_column, b__law_column, sz (by decide : 2 ≤ 100), sz (by decide : 3 ≤ 100), sz (by decide : 4 ≤ 100), sz (by decide : 6 ≤ 100), hw6, v6, v12, hn, q, jx0, jx1, jx2, jx3, addI_ap, ea, pk, L0, hb]
      · refine fin "rest" bb _ (st ++ [.lst WS] ++ [VL.O.lst [.int 9, .int 999999999]]) (.inr (.inr rfl)) ((Le.app _ _).trans (Le.app _ _)) (Col.rest k1) (fun xs a p ca ta => tl_reck (op := fun a b => a % b) ta ((tl_always rfl).mono (by omega)) p ca rfl g5 (fun i j _ e => by cases e; exact deed_rest_ok hb0)) ⟨j, ?_⟩
        subst hWS
        simp -implicitDefEqProofs +decide only [varF_ap, cF_ap, opF_ap, opK_ap, bF_ap, boolK_ap, andT_ap, andK_ap, orT_ap, orK_ap, notT_ap, notK_ap, yesT_ap, andV_ap, andVK_ap, orV_ap, orVK_ap, notV_ap, notVK_ap, ifF_ap, ifFK_ap, nilA_ap, consA_ap, consK_ap, consJ_ap, tupA_ap, lstA_ap, newO_ap, dicF_ap, callF_ap, un1_ap, methF_ap, nonO_ap, someO_ap, someK_ap, slF_ap, slK_ap, slJ_ap, itF_ap, itA_ap, nilS_ap, bkS_ap, ctS_ap, seqS_ap, seqK_nx, seqK_rt, seqK_bk, seqK_ct, dropS_ap, dropK_ap, retS_ap, retK_ap, retN_ap, ifS_ap, ifK_ap, setS_ap, setK_ap, asgS_ap, asgK_ap, asgJ_ap, nameG_ap, nilG_ap, consG_ap, consGK_ap, fnF_ap, fnK_nx, fnK_rt, forS_ap, forK_ap, negD_ap, addI_ap, varK_ap, startE, yes2, isN, List.map_cons, List.map_nil, List.length_cons, List.length_nil, List.replicate, List.append_nil, List.cons_append, List.nil_append, List.getElem?_cons_zero, List.getElem?_cons_succ, List.set_cons_zero, List.set_cons_succ, R.bind_ok, R.bind_ex, R.bind_bad, R.noex_ok, if_true, if_false, Bool.false_eq_true, Bool.true_eq_false, ite_true, ite_false, reduceIte, Nat.reduceAdd, Nat.reduceSub, Nat.zero_add, Nat.sub_self, Nat.sub_zero, decide_true, decide_false, Bool.not_true, Bool.not_false, subD_ap, ltD_ap, leD_ap, gtD_ap, geD_ap, mulD_ap, modD_ap, divD_ap, powD_ap, tupK_ok, lstK_ok, methK_ok, tupG_ok, eqS_t, eqS_f, neS_t, neS_f, eqI_ap, neI_ap, inT_nil, inT_hit, inT_miss, ne_eq, not_false_eq_true, f__law_column, b__law_column, sz (by decide : 2 ≤ 100), sz (by decide : 3 ≤ 100), sz (by decide : 4 ≤ 100), sz (by decide : 6 ≤ 100), hw6, v6, v12, hn, q, jx0, jx1, jx2, jx3, addI_ap, ea, pk, L0, hb]
end
end Law
namespace Law
open PySem L2 VL
section
variable {x y z : VL.D} {st st' : Sto} {dm dm' : Nat} {e : VL.D}
theorem qc_ok {w : Str} {f3 f4 f5 : Option VL.D} {e1 e2 s1 s2 d1 d2 : VL.D} {r1 r2 : Nat} {u0 u1 u2 v0 v1 v2 : VL.D}
    (hu : listAt st r1 = some [u0, u1, u2]) (hv : listAt st r2 = some [v0, v1, v2]) (cu0 : cellB u0 = true) (cu1 : cellB u1 = true) (cu2 : cellB u2 = true) (cv0 : cellB v0 = true) (cv1 : cellB v1 = true) (cv2 : cellB v2 = true) :
    (∃ j, q0__law_compared [some (.str w), some (.tup [e1, .ref r1, s1, d1]), some (.tup [e2, .ref r2, s2, d2]), f3, f4, f5] st = .ok (.ref st.length) (st ++ .lst [.bl (sameC u0 v0), .bl (sameC u1 v1), .bl (sameC u2 v2)] :: j)) ∧
    ∃ j, q1__law_compared [some (.str w), some (.tup [e1, .ref r1, s1, d1]), some (.tup [e2, .ref r2, s2, d2]), f3, f4, f5] st = .ok (.ref st.length) (st ++ .lst [.bl (belowC u0 v0), .bl (belowC u1 v1), .bl (belowC u2 v2)] :: j) := by
  obtain ⟨ck, hck, zp⟩ := zip2_ok hu hv
  constructor
  · unfold q0__law_compared
    obtain ⟨j, e⟩ := lcF_all (st := st) (ds := List.map pairD ([u0, u1, u2].zip [v0, v1, v2])) (vs := [4, 5]) (gf := tupG 2 (consG (nameG 4) (consG (nameG 5) nilG))) (te := opF eqD (varF 4) (varF 5))
      (it := itA zipD (consA (opF ixD (varF 1) (cF (.int 1))) (consA (opF ixD (varF 2) (cF (.int 1))) nilA)))
      (env := [some (.str w), some (.tup [e1, .ref r1, s1, d1]), some (.tup [e2, .ref r2, s2, d2]), f3, f4, f5])
      (on2 fun a b => .bl (sameC a b)) (by simp -implicitDefEqProofs only [varF_ap, cF_ap, opF_ap, opK_ap, bF_ap, boolK_ap, andT_ap, andK_ap, orT_ap, orK_ap, notT_ap, notK_ap, yesT_ap, andV_ap, andVK_ap, orV_ap, orVK_ap, notV_ap, notVK_ap, ifF_ap, ifFK_ap, nilA_ap, consA_ap, consK_ap, consJ_ap, tupA_ap, tupK_ap, lstA_ap, lstK_ap, newO_ap, dicF_ap, callF_ap, un1_ap, methF_ap, methK_ap, nonO_ap, someO_ap, someK_ap, slF_ap, slK_ap, slJ_ap, itF_ap, itA_ap, nilS_ap, bkS_ap, ctS_ap, seqS_ap, seqK_nx, seqK_rt, seqK_bk, seqK_ct, dropS_ap, dropK_ap, retS_ap, retK_ap, retN_ap, ifS_ap, ifK_ap, setS_ap, setK_ap, asgS_ap, asgK_ap, asgJ_ap, nameG_ap, nilG_ap, consG_ap, consGK_ap, tupG_ap, fnF_ap, fnK_nx, fnK_rt, forS_ap, forK_ap, intD_ap, negD_ap, addI_ap, varK_ap, startE, yes2, isN, List.map_cons, List.map_nil, List.length_cons, List.length_nil, List.replicate, List.append_nil, List.cons_append, List.nil_append, List.getElem?_cons_zero, List.getElem?_cons_succ, List.set_cons_zero, List.set_cons_succ, R.bind_ok, R.bind_ex, R.bind_bad, R.noex_ok, if_true, if_false, Bool.false_eq_true, Bool.true_eq_false, ite_true, ite_false, reduceIte, Nat.reduceAdd, Nat.reduceSub, Nat.zero_add, Nat.sub_self, Nat.sub_zero, decide_true, decide_false, Bool.not_true, Bool.not_false, jx1, zp]) (chk_two (S0 := st) hck) (by show 3 ≤ sizeLine; decide) fun d hd S hS => by
      have one : ∀ (u v : VL.D), cellB u = true → cellB v = true → ∃ e j, tupG 2 (consG (nameG 4) (consG (nameG 5) nilG)) (.tup [u, v]) (wipeE [some (.str w), some (.tup [e1, .ref r1, s1, d1]), some (.tup [e2, .ref r2, s2, d2]), f3, f4, f5] [4, 5]) S = .ok e S ∧ opF eqD (varF 4) (varF 5) e S = .ok (.bl (sameC u v)) (S ++ j) := fun u v hu hv => by
        have h := eqD_cells (st := S) hu hv
        refine ⟨_, [], rfl, ?_⟩
        simp -implicitDefEqProofs only [varF_ap, cF_ap, opF_ap, opK_ap, bF_ap, boolK_ap, andT_ap, andK_ap, orT_ap, orK_ap, notT_ap, notK_ap, yesT_ap, andV_ap, andVK_ap, orV_ap, orVK_ap, notV_ap, notVK_ap, ifF_ap, ifFK_ap, nilA_ap, consA_ap, consK_ap, consJ_ap, tupA_ap, tupK_ap, lstA_ap, lstK_ap, newO_ap, dicF_ap, callF_ap, un1_ap, methF_ap, methK_ap, nonO_ap, someO_ap, someK_ap, slF_ap, slK_ap, slJ_ap, itF_ap, itA_ap, nilS_ap, bkS_ap, ctS_ap, seqS_ap, seqK_nx, seqK_rt, seqK_bk, seqK_ct, dropS_ap, dropK_ap, retS_ap, retK_ap, retN_ap, ifS_ap, ifK_ap, setS_ap, setK_ap, asgS_ap, asgK_ap, asgJ_ap, nameG_ap, nilG_ap, consG_ap, consGK_ap, tupG_ap, fnF_ap, fnK_nx, fnK_rt, forS_ap, forK_ap, intD_ap, negD_ap, addI_ap, varK_ap, startE, yes2, isN, List.map_cons, List.map_nil, List.length_cons, List.length_nil, List.replicate, List.append_nil, List.cons_append, List.nil_append, List.getElem?_cons_zero, List.getElem?_cons_succ, List.set_cons_zero, List.set_cons_succ, R.bind_ok, R.bind_ex, R.bind_bad, R.noex_ok, if_true, if_false, Bool.false_eq_true, Bool.true_eq_false, ite_true, ite_false, reduceIte, Nat.reduceAdd, Nat.reduceSub, Nat.zero_add, Nat.sub_self, Nat.sub_zero, decide_true, decide_false, Bool.not_true, Bool.not_false, wipeE, h]
      simp only [List.zip_cons_cons, List.zip_nil_right, List.map_cons, List.map_nil, List.mem_cons, List.not_mem_nil, or_false, pairD] at hd
      rcases hd with rfl | rfl | rfl
      · exact one _ _ cu0 cv0
      · exact one _ _ cu1 cv1
      · exact one _ _ cu2 cv2
    exact ⟨j, e⟩
  · unfold q1__law_compared
    obtain ⟨j, e⟩ := lcF_all (st := st) (ds := List.map pairD ([u0, u1, u2].zip [v0, v1, v2])) (vs := [4, 5]) (gf := tupG 2 (consG (nameG 4) (consG (nameG 5) nilG))) (te := callF f__law_comes (consA (varF 4) (consA (varF 5) nilA)))
      (it := itA zipD (consA (opF ixD (varF 1) (cF (.int 1))) (consA (opF ixD (varF 2) (cF (.int 1))) nilA)))
      (env := [some (.str w), some (.tup [e1, .ref r1, s1, d1]), some (.tup [e2, .ref r2, s2, d2]), f3, f4, f5])
      (on2 fun a b => .bl (belowC a b)) (by simp -implicitDefEqProofs only [varF_ap, cF_ap, opF_ap, opK_ap, bF_ap, boolK_ap, andT_ap, andK_ap, orT_ap, orK_ap, notT_ap, notK_ap, yesT_ap, andV_ap, andVK_ap, orV_ap, orVK_ap, notV_ap, notVK_ap, ifF_ap, ifFK_ap, nilA_ap, consA_ap, consK_ap, consJ_ap, tupA_ap, tupK_ap, lstA_ap, lstK_ap, newO_ap, dicF_ap, callF_ap, un1_ap, methF_ap, methK_ap, nonO_ap, someO_ap, someK_ap, slF_ap, slK_ap, slJ_ap, itF_ap, itA_ap, nilS_ap, bkS_ap, ctS_ap, seqS_ap, seqK_nx, seqK_rt, seqK_bk, seqK_ct, dropS_ap, dropK_ap, retS_ap, retK_ap, retN_ap, ifS_ap, ifK_ap, setS_ap, setK_ap, asgS_ap, asgK_ap, asgJ_ap, nameG_ap, nilG_ap, consG_ap, consGK_ap, tupG_ap, fnF_ap, fnK_nx, fnK_rt, forS_ap, forK_ap, intD_ap, negD_ap, addI_ap, varK_ap, startE, yes2, isN, List.map_cons, List.map_nil, List.length_cons, List.length_nil, List.replicate, List.append_nil, List.cons_append, List.nil_append, List.getElem?_cons_zero, List.getElem?_cons_succ, List.set_cons_zero, List.set_cons_succ, R.bind_ok, R.bind_ex, R.bind_bad, R.noex_ok, if_true, if_false, Bool.false_eq_true, Bool.true_eq_false, ite_true, ite_false, reduceIte, Nat.reduceAdd, Nat.reduceSub, Nat.zero_add, Nat.sub_self, Nat.sub_zero, decide_true, decide_false, Bool.not_true, Bool.not_false, jx1, zp]) (chk_two (S0 := st) hck) (by show 3 ≤ sizeLine; decide) fun d hd S hS => by
      have one : ∀ (u v : VL.D), cellB u = true → cellB v = true → ∃ e j, tupG 2 (consG (nameG 4) (consG (nameG 5) nilG)) (.tup [u, v]) (wipeE [some (.str w), some (.tup [e1, .ref r1, s1, d1]), some (.tup [e2, .ref r2, s2, d2]), f3, f4, f5] [4, 5]) S = .ok e S ∧ callF f__law_comes (consA (varF 4) (consA (varF 5) nilA)) e S = .ok (.bl (belowC u v)) (S ++ j) := fun u v hu hv => by
        have h := comes_ok (st := S) hu hv
        refine ⟨_, [], rfl, ?_⟩
        simp -implicitDefEqProofs only [varF_ap, cF_ap, opF_ap, opK_ap, bF_ap, boolK_ap, andT_ap, andK_ap, orT_ap, orK_ap, notT_ap, notK_ap, yesT_ap, andV_ap, andVK_ap, orV_ap, orVK_ap, notV_ap, notVK_ap, ifF_ap, ifFK_ap, nilA_ap, consA_ap, consK_ap, consJ_ap, tupA_ap, tupK_ap, lstA_ap, lstK_ap, newO_ap, dicF_ap, callF_ap, un1_ap, methF_ap, methK_ap, nonO_ap, someO_ap, someK_ap, slF_ap, slK_ap, slJ_ap, itF_ap, itA_ap, nilS_ap, bkS_ap, ctS_ap, seqS_ap, seqK_nx, seqK_rt, seqK_bk, seqK_ct, dropS_ap, dropK_ap, retS_ap, retK_ap, retN_ap, ifS_ap, ifK_ap, setS_ap, setK_ap, asgS_ap, asgK_ap, asgJ_ap, nameG_ap, nilG_ap, consG_ap, consGK_ap, tupG_ap, fnF_ap, fnK_nx, fnK_rt, forS_ap, forK_ap, intD_ap, negD_ap, addI_ap, varK_ap, startE, yes2, isN, List.map_cons, List.map_nil, List.length_cons, List.length_nil, List.replicate, List.append_nil, List.cons_append, List.nil_append, List.getElem?_cons_zero, List.getElem?_cons_succ, List.set_cons_zero, List.set_cons_succ, R.bind_ok, R.bind_ex, R.bind_bad, R.noex_ok, if_true, if_false, Bool.false_eq_true, Bool.true_eq_false, ite_true, ite_false, reduceIte, Nat.reduceAdd, Nat.reduceSub, Nat.zero_add, Nat.sub_self, Nat.sub_zero, decide_true, decide_false, Bool.not_true, Bool.not_false, wipeE, h]
      simp only [List.zip_cons_cons, List.zip_nil_right, List.map_cons, List.map_nil, List.mem_cons, List.not_mem_nil, or_false, pairD] at hd
      rcases hd with rfl | rfl | rfl
      · exact one _ _ cu0 cv0
      · exact one _ _ cu1 cv1
      · exact one _ _ cu2 cv2
    exact ⟨j, e⟩
theorem compared_ok' {w : Str} {one two : VL.D} (hw : w = "below" ∨ w = "same") (hx : cellB x = true) (hy : cellB y = true) (hz : cellB z = true) (h1 : EC x y z st dm one) (h2 : EC x y z st dm two) :
    ∃ e j, f__law_compared [.str w, one, two] st = .ok e (st ++ j) ∧ ET x y z (st ++ j) (dm + 1) e := by
  obtain ⟨p1, p2, p3⟩ := rows_pds hx hy hz
  obtain ⟨e1, t1, r1, u0, u1, u2, s1, d1, rfl, l1, a1, cu0, cu1, cu2, k1, m1, m2, m3⟩ := h1.ex
  obtain ⟨e2, t2, r2, v0, v1, v2, s2, d2, rfl, l2, a2, cv0, cv1, cv2, k2, n1, n2, n3⟩ := h2.ex
  obtain ⟨⟨j1, q1⟩, j2, q2⟩ := qc_ok (w := w) (f3 := none) (f4 := none) (f5 := none) (e1 := e1) (s1 := .int s1) (d1 := .int (d1 : Nat)) (e2 := e2) (s2 := .int s2) (d2 := .int (d2 : Nat)) a1 a2 cu0 cu1 cu2 cv0 cv1 cv2
  have kc : Tst (max d1 d2 + 1 + 1) (.tup [.str w, e1, e2]) (.clo 4 [.str w, t1, t2]) := Tst.cmp hw (k1.mono (by omega)) (k2.mono (by omega))
  have b1 := tl_compared (w := w) (d := max d1 d2 + 1) (m1.mono (by omega)) (n1.mono (by omega)) p1 cu0 cv0
  have b2 := tl_compared (w := w) (d := max d1 d2 + 1) (m2.mono (by omega)) (n2.mono (by omega)) p2 cu1 cv1
  have b3 := tl_compared (w := w) (d := max d1 d2 + 1) (m3.mono (by omega)) (n3.mono (by omega)) p3 cu2 cv2
  have me : max d1 d2 + 1 + 1 ≤ 1 + max d1 d2 + 1 := by omega
  have mx := fun S => mx2 (a := d1) (b := d2) (st := S)
  have ea : (1 : Int) + ((max d1 d2 : Nat) : Int) = ((1 + max d1 d2 : Nat) : Int) := by omega
  have lq : ∃ j, f__law_compared [.str w, .tup [e1, .ref r1, .int s1, .int (d1 : Nat)], .tup [e2, .ref r2, .int s2, .int (d2 : Nat)]] st = .ok (.tup [.tup [.str w, e1, e2], .ref st.length, .int (20 + s1 + s2), .int ((1 + max d1 d2 : Nat) : Int)]) (st ++ .lst [.bl (cmpC w u0 v0), .bl (cmpC w u1 v1), .bl (cmpC w u2 v2)] :: j) := by
    generalize max d1 d2 = M at *
    rcases hw with rfl | rfl
    · have r : ∀ a b : VL.D, cmpC "below" a b = belowC a b := fun a b => if_neg (by decide)
      refine ⟨j2, ?_⟩
      rw [r, r, r]
      simp -implicitDefEqProofs +decide only [varF_ap, cF_ap, opF_ap, opK_ap, bF_ap, boolK_ap, andT_ap, andK_ap, orT_ap, orK_ap, notT_ap, notK_ap, yesT_ap, andV_ap, andVK_ap, orV_ap, orVK_ap, notV_ap, notVK_ap, ifF_ap, ifFK_ap, nilA_ap, consA_ap, consK_ap, consJ_ap, tupA_ap, lstA_ap, newO_ap, dicF_ap, callF_ap, un1_ap, methF_ap, nonO_ap, someO_ap, someK_ap, slF_ap, slK_ap, slJ_ap, itF_ap, itA_ap, nilS_ap, bkS_ap, ctS_ap, seqS_ap, seqK_nx, seqK_rt, seqK_bk, seqK_ct, dropS_ap, dropK_ap, retS_ap, retK_ap, retN_ap, ifS_ap, ifK_ap, setS_ap, setK_ap, asgS_ap, asgK_ap, asgJ_ap, nameG_ap, nilG_ap, consG_ap, consGK_ap, fnF_ap, fnK_nx, fnK_rt, forS_ap, forK_ap, negD_ap, addI_ap, varK_ap, startE, yes2, isN, List.map_cons, List.map_nil, List.length_cons, List.length_nil, List.replicate, List.append_nil, List.cons_append, List.nil_append, List.getElem?_cons_zero, List.getElem?_cons_succ, List.set_cons_zero, List.set_cons_succ, R.bind_ok, R.bind_ex, R.bind_bad, R.noex_ok, if_true, if_false, Bool.false_eq_true, Bool.true_eq_false, ite_true, ite_false, reduceIte, Nat.reduceAdd, Nat.reduceSub, Nat.zero_add, Nat.sub_self, Nat.sub_zero, decide_true, decide_false, Bool.not_true, Bool.not_false, subD_ap, ltD_ap, leD_ap, gtD_ap, geD_ap, mulD_ap, modD_ap, divD_ap, powD_ap, tupK_ok, lstK_ok, methK_ok, tupG_ok, eqS_t, eqS_f, neS_t, neS_f, eqI_ap, neI_ap, inT_nil, inT_hit, inT_miss, ne_eq, not_false_eq_true, f__law_compared, b__law_compared, sz (by decide : 3 ≤ 100), sz (by decide : 4 ≤ 100), q2, jx0, jx2, jx3, addI_ap, mx, ea]
    · have r : ∀ a b : VL.D, cmpC "same" a b = sameC a b := fun a b => if_pos rfl
      refine ⟨j1, ?_⟩
      rw [r, r, r]
      simp -implicitDefEqProofs +decide only [varF_ap, cF_ap, opF_ap, opK_ap, bF_ap, boolK_ap, andT_ap, andK_ap, orT_ap, orK_ap, notT_ap, notK_ap, yesT_ap, andV_ap, andVK_ap, orV_ap, orVK_ap, notV_ap, notVK_ap, ifF_ap, ifFK_ap, nilA_ap, consA_ap, consK_ap, consJ_ap, tupA_ap, lstA_ap, newO_ap, dicF_ap, callF_ap, un1_ap, methF_ap, nonO_ap, someO_ap, someK_ap, slF_ap, slK_ap, slJ_ap, itF_ap, itA_ap, nilS_ap, bkS_ap, ctS_ap, seqS_ap, seqK_nx, seqK_rt, seqK_bk, seqK_ct, dropS_ap, dropK_ap, retS_ap, retK_ap, retN_ap, ifS_ap, ifK_ap, setS_ap, setK_ap, asgS_ap, asgK_ap, asgJ_ap, nameG_ap, nilG_ap, consG_ap, consGK_ap, fnF_ap, fnK_nx, fnK_rt, forS_ap, forK_ap, negD_ap, addI_ap, varK_ap, startE, yes2, isN, List.map_cons, List.map_nil, List.length_cons, List.length_nil, List.replicate, List.append_nil, List.cons_append, List.nil_append, List.getElem?_cons_zero, List.getElem?_cons_succ, List.set_cons_zero, List.set_cons_succ, R.bind_ok, R.bind_ex, R.bind_bad, R.noex_ok, if_true, if_false, Bool.false_eq_true, Bool.true_eq_false, ite_true, ite_false, reduceIte, Nat.reduceAdd, Nat.reduceSub, Nat.zero_add, Nat.sub_self, Nat.sub_zero, decide_true, decide_false, Bool.not_true, Bool.not_false, subD_ap, ltD_ap, leD_ap, gtD_ap, geD_ap, mulD_ap, modD_ap, divD_ap, powD_ap, tupK_ok, lstK_ok, methK_ok, tupG_ok, eqS_t, eqS_f, neS_t, neS_f, eqI_ap, neI_ap, inT_nil, inT_hit, inT_miss, ne_eq, not_false_eq_true, f__law_compared, b__law_compared, sz (by decide : 3 ≤ 100), sz (by decide : 4 ≤ 100), q1, jx0, jx2, jx3, addI_ap, mx, ea]
  obtain ⟨j, lq⟩ := lq
  exact ⟨_, _, lq, ⟨_, _, _, _, _, _, _, 1 + max d1 d2, rfl, by omega, listAt_at, kc.mono me, b1.mono me, b2.mono me, b3.mono me⟩⟩
theorem qt0_ok {a f1 f2 f4 f5 f6 f7 f8 f9 : Option VL.D} {e3 s3 d3 : VL.D} {r3 : Nat} {b0 b1 b2 : Bool} (hb : listAt st r3 = some [.bl b0, .bl b1, .bl b2]) :
    ∃ j, q0__law_test [a, f1, f2, some (.tup [e3, .ref r3, s3, d3]), f4, f5, f6, f7, f8, f9] st = .ok (.ref st.length) (st ++ .lst [.bl (!b0), .bl (!b1), .bl (!b2)] :: j) := by
  unfold q0__law_test
  have it := itD_list hb
  obtain ⟨j, e⟩ := lcF_all (st := st) (s := st) (c := chkAt st r3) (ds := [.bl b0, .bl b1, .bl b2]) (vs := [4]) (gf := nameG 4) (te := notV (varF 4)) (it := itF (opF ixD (varF 3) (cF (.int 1))))
    (env := [a, f1, f2, some (.tup [e3, .ref r3, s3, d3]), f4, f5, f6, f7, f8, f9]) (fun d => match d with | .bl b => .bl (!b) | _ => .non) (by simp -implicitDefEqProofs only [varF_ap, cF_ap, opF_ap, opK_ap, bF_ap, boolK_ap, andT_ap, andK_ap, orT_ap, orK_ap, notT_ap, notK_ap, yesT_ap, andV_ap, andVK_ap, orV_ap, orVK_ap, notV_ap, notVK_ap, ifF_ap, ifFK_ap, nilA_ap, consA_ap, consK_ap, consJ_ap, tupA_ap, tupK_ap, lstA_ap, lstK_ap, newO_ap, dicF_ap, callF_ap, un1_ap, methF_ap, methK_ap, nonO_ap, someO_ap, someK_ap, slF_ap, slK_ap, slJ_ap, itF_ap, itA_ap, nilS_ap, bkS_ap, ctS_ap, seqS_ap, seqK_nx, seqK_rt, seqK_bk, seqK_ct, dropS_ap, dropK_ap, retS_ap, retK_ap, retN_ap, ifS_ap, ifK_ap, setS_ap, setK_ap, asgS_ap, asgK_ap, asgJ_ap, nameG_ap, nilG_ap, consG_ap, consGK_ap, tupG_ap, fnF_ap, fnK_nx, fnK_rt, forS_ap, forK_ap, intD_ap, negD_ap, addI_ap, varK_ap, startE, yes2, isN, List.map_cons, List.map_nil, List.length_cons, List.length_nil, List.replicate, List.append_nil, List.cons_append, List.nil_append, List.getElem?_cons_zero, List.getElem?_cons_succ, List.set_cons_zero, List.set_cons_succ, R.bind_ok, R.bind_ex, R.bind_bad, R.noex_ok, if_true, if_false, Bool.false_eq_true, Bool.true_eq_false, ite_true, ite_false, reduceIte, Nat.reduceAdd, Nat.reduceSub, Nat.zero_add, Nat.sub_self, Nat.sub_zero, decide_true, decide_false, Bool.not_true, Bool.not_false, jx1, it]) chk_at (by show 3 ≤ sizeLine; decide) fun d hd S hS => by
    have one : ∀ (b : Bool), ∃ e j, nameG 4 (.bl b) (wipeE [a, f1, f2, some (.tup [e3, .ref r3, s3, d3]), f4, f5, f6, f7, f8, f9] [4]) S = .ok e S ∧ notV (varF 4) e S = .ok (.bl (!b)) (S ++ j) := fun b => ⟨_, [], rfl, by simp -implicitDefEqProofs only [varF_ap, cF_ap, opF_ap, opK_ap, bF_ap, boolK_ap, andT_ap, andK_ap, orT_ap, orK_ap, notT_ap, notK_ap, yesT_ap, andV_ap, andVK_ap, orV_ap, orVK_ap, notV_ap, notVK_ap, ifF_ap, ifFK_ap, nilA_ap, consA_ap, consK_ap, consJ_ap, tupA_ap, tupK_ap, lstA_ap, lstK_ap, newO_ap, dicF_ap, callF_ap, un1_ap, methF_ap, methK_ap, nonO_ap, someO_ap, someK_ap, slF_ap, slK_ap, slJ_ap, itF_ap, itA_ap, nilS_ap, bkS_ap, ctS_ap, seqS_ap, seqK_nx, seqK_rt, seqK_bk, seqK_ct, dropS_ap, dropK_ap, retS_ap, retK_ap, retN_ap, ifS_ap, ifK_ap, setS_ap, setK_ap, asgS_ap, asgK_ap, asgJ_ap, nameG_ap, nilG_ap, consG_ap, consGK_ap, tupG_ap, fnF_ap, fnK_nx, fnK_rt, forS_ap, forK_ap, intD_ap, negD_ap, addI_ap, varK_ap, startE, yes2, isN, List.map_cons, List.map_nil, List.length_cons, List.length_nil, List.replicate, List.append_nil, List.cons_append, List.nil_append, List.getElem?_cons_zero, List.getElem?_cons_succ, List.set_cons_zero, List.set_cons_succ, R.bind_ok, R.bind_ex, R.bind_bad, R.noex_ok, if_true, if_false, Bool.false_eq_true, Bool.true_eq_false, ite_true, ite_false, reduceIte, Nat.reduceAdd, Nat.reduceSub, Nat.zero_add, Nat.sub_self, Nat.sub_zero, decide_true, decide_false, Bool.not_true, Bool.not_false, wipeE]⟩
    simp only [List.mem_cons, List.not_mem_nil, or_false] at hd
    rcases hd with rfl | rfl | rfl
    · exact one _
    · exact one _
    · exact one _
  exact ⟨j, e⟩
theorem qt12_ok {a f1 f2 f4 f6 f7 f8 f9 : Option VL.D} {e3 s3 d3 e5 s5 d5 : VL.D} {r3 r5 : Nat} {b0 b1 b2 c0 c1 c2 : Bool} (hb : listAt st r3 = some [.bl b0, .bl b1, .bl b2]) (hc : listAt st r5 = some [.bl c0, .bl c1, .bl c2]) :
    (∃ j, q1__law_test [a, f1, f2, some (.tup [e3, .ref r3, s3, d3]), f4, some (.tup [e5, .ref r5, s5, d5]), f6, f7, f8, f9] st = .ok (.ref st.length) (st ++ .lst [.bl (b0 && c0), .bl (b1 && c1), .bl (b2 && c2)] :: j)) ∧
    ∃ j, q2__law_test [a, f1, f2, some (.tup [e3, .ref r3, s3, d3]), f4, some (.tup [e5, .ref r5, s5, d5]), f6, f7, f8, f9] st = .ok (.ref st.length) (st ++ .lst [.bl (b0 || c0), .bl (b1 || c1), .bl (b2 || c2)] :: j) := by
  obtain ⟨ck, hck, zp⟩ := zip2_ok hb hc
  constructor
  · unfold q1__law_test
    obtain ⟨j, e⟩ := lcF_all (st := st) (ds := List.map pairD ([.bl b0, .bl b1, .bl b2].zip [.bl c0, .bl c1, .bl c2])) (vs := [7, 8]) (gf := tupG 2 (consG (nameG 7) (consG (nameG 8) nilG))) (te := andV (varF 7) (varF 8))
      (it := itA zipD (consA (opF ixD (varF 3) (cF (.int 1))) (consA (opF ixD (varF 5) (cF (.int 1))) nilA)))
      (env := [a, f1, f2, some (.tup [e3, .ref r3, s3, d3]), f4, some (.tup [e5, .ref r5, s5, d5]), f6, f7, f8, f9])
      (on2 fun a b => match a, b with | .bl a, .bl b => .bl (a && b) | _, _ => .non) (by simp -implicitDefEqProofs only [varF_ap, cF_ap, opF_ap, opK_ap, bF_ap, boolK_ap, andT_ap, andK_ap, orT_ap, orK_ap, notT_ap, notK_ap, yesT_ap, andV_ap, andVK_ap, orV_ap, orVK_ap, notV_ap, notVK_ap, ifF_ap, ifFK_ap, nilA_ap, consA_ap, consK_ap, consJ_ap, tupA_ap, tupK_ap, lstA_ap, lstK_ap, newO_ap, dicF_ap, callF_ap, un1_ap, methF_ap, methK_ap, nonO_ap, someO_ap, someK_ap, slF_ap, slK_ap, slJ_ap, itF_ap, itA_ap, nilS_ap, bkS_ap, ctS_ap, seqS_ap, seqK_nx, seqK_rt, seqK_bk, seqK_ct, dropS_ap, dropK_ap, retS_ap, retK_ap, retN_ap, ifS_ap, ifK_ap, setS_ap, setK_ap, asgS_ap, asgK_ap, asgJ_ap, nameG_ap, nilG_ap, consG_ap, consGK_ap, tupG_ap, fnF_ap, fnK_nx, fnK_rt, forS_ap, forK_ap, intD_ap, negD_ap, addI_ap, varK_ap, startE, yes2, isN, List.map_cons, List.map_nil, List.length_cons, List.length_nil, List.replicate, List.append_nil, List.cons_append, List.nil_append, List.getElem?_cons_zero, List.getElem?_cons_succ, List.set_cons_zero, List.set_cons_succ, R.bind_ok, R.bind_ex, R.bind_bad, R.noex_ok, if_true, if_false, Bool.false_eq_true, Bool.true_eq_false, ite_true, ite_false, reduceIte, Nat.reduceAdd, Nat.reduceSub, Nat.zero_add, Nat.sub_self, Nat.sub_zero, decide_true, decide_false, Bool.not_true, Bool.not_false, jx1, zp]) (chk_two (S0 := st) hck) (by show 3 ≤ sizeLine; decide) fun d hd S hS => by
      have one : ∀ (u v : Bool), ∃ e j, tupG 2 (consG (nameG 7) (consG (nameG 8) nilG)) (.tup [.bl u, .bl v]) (wipeE [a, f1, f2, some (.tup [e3, .ref r3, s3, d3]), f4, some (.tup [e5, .ref r5, s5, d5]), f6, f7, f8, f9] [7, 8]) S = .ok e S ∧ andV (varF 7) (varF 8) e S = .ok (.bl (u && v)) (S ++ j) := fun u v =>
        ⟨_, [], rfl, by cases u <;> simp -implicitDefEqProofs only [varF_ap, cF_ap, opF_ap, opK_ap, bF_ap, boolK_ap, andT_ap, andK_ap, orT_ap, orK_ap, notT_ap, notK_ap, yesT_ap, andV_ap, andVK_ap, orV_ap, orVK_ap, notV_ap, notVK_ap, ifF_ap, ifFK_ap, nilA_ap, consA_ap, consK_ap, consJ_ap, tupA_ap, tupK_ap, lstA_ap, lstK_ap, newO_ap, dicF_ap, callF_ap, un1_ap, methF_ap, methK_ap, nonO_ap, someO_ap, someK_ap, slF_ap, slK_ap, slJ_ap, itF_ap, itA_ap, nilS_ap, bkS_ap, ctS_ap, seqS_ap, seqK_nx, seqK_rt, seqK_bk, seqK_ct, dropS_ap, dropK_ap, retS_ap, retK_ap, retN_ap, ifS_ap, ifK_ap, setS_ap, setK_ap, asgS_ap, asgK_ap, asgJ_ap, nameG_ap, nilG_ap, consG_ap, consGK_ap, tupG_ap, fnF_ap, fnK_nx, fnK_rt, forS_ap, forK_ap, intD_ap, negD_ap, addI_ap, varK_ap, startE, yes2, isN, List.map_cons, List.map_nil, List.length_cons, List.length_nil, List.replicate, List.append_nil, List.cons_append, List.nil_append, List.getElem?_cons_zero, List.getElem?_cons_succ, List.set_cons_zero, List.set_cons_succ, R.bind_ok, R.bind_ex, R.bind_bad, R.noex_ok, if_true, if_false, Bool.false_eq_true, Bool.true_eq_false, ite_true, ite_false, reduceIte, Nat.reduceAdd, Nat.reduceSub, Nat.zero_add, Nat.sub_self, Nat.sub_zero, decide_true, decide_false, Bool.not_true, Bool.not_false, wipeE] <;> rfl⟩
      simp only [List.zip_cons_cons, List.zip_nil_right, List.map_cons, List.map_nil, List.mem_cons, List.not_mem_nil, or_false, pairD] at hd
      rcases hd with rfl | rfl | rfl
      · exact one _ _
      · exact one _ _
      · exact one _ _
    exact ⟨j, e⟩
  · unfold q2__law_test
    obtain ⟨j, e⟩ := lcF_all (st := st) (ds := List.map pairD ([.bl b0, .bl b1, .bl b2].zip [.bl c0, .bl c1, .bl c2])) (vs := [7, 8]) (gf := tupG 2 (consG (nameG 7) (consG (nameG 8) nilG))) (te := orV (varF 7) (varF 8))
      (it := itA zipD (consA (opF ixD (varF 3) (cF (.int 1))) (consA (opF ixD (varF 5) (cF (.int 1))) nilA)))
      (env := [a, f1, f2, some (.tup [e3, .ref r3, s3, d3]), f4, some (.tup [e5, .ref r5, s5, d5]), f6, f7, f8, f9])
      (on2 fun a b => match a, b with | .bl a, .bl b => .bl (a || b) | _, _ => .non) (by simp -implicitDefEqProofs only [varF_ap, cF_ap, opF_ap, opK_ap, bF_ap, boolK_ap, andT_ap, andK_ap, orT_ap, orK_ap, notT_ap, notK_ap, yesT_ap, andV_ap, andVK_ap, orV_ap, orVK_ap, notV_ap, notVK_ap, ifF_ap, ifFK_ap, nilA_ap, consA_ap, consK_ap, consJ_ap, tupA_ap, tupK_ap, lstA_ap, lstK_ap, newO_ap, dicF_ap, callF_ap, un1_ap, methF_ap, methK_ap, nonO_ap, someO_ap, someK_ap, slF_ap, slK_ap, slJ_ap, itF_ap, itA_ap, nilS_ap, bkS_ap, ctS_ap, seqS_ap, seqK_nx, seqK_rt, seqK_bk, seqK_ct, dropS_ap, dropK_ap, retS_ap, retK_ap, retN_ap, ifS_ap, ifK_ap, setS_ap, setK_ap, asgS_ap, asgK_ap, asgJ_ap, nameG_ap, nilG_ap, consG_ap, consGK_ap, tupG_ap, fnF_ap, fnK_nx, fnK_rt, forS_ap, forK_ap, intD_ap, negD_ap, addI_ap, varK_ap, startE, yes2, isN, List.map_cons, List.map_nil, List.length_cons, List.length_nil, List.replicate, List.append_nil, List.cons_append, List.nil_append, List.getElem?_cons_zero, List.getElem?_cons_succ, List.set_cons_zero, List.set_cons_succ, R.bind_ok, R.bind_ex, R.bind_bad, R.noex_ok, if_true, if_false, Bool.false_eq_true, Bool.true_eq_false, ite_true, ite_false, reduceIte, Nat.reduceAdd, Nat.reduceSub, Nat.zero_add, Nat.sub_self, Nat.sub_zero, decide_true, decide_false, Bool.not_true, Bool.not_false, jx1, zp]) (chk_two (S0 := st) hck) (by show 3 ≤ sizeLine; decide) fun d hd S hS => by
      have one : ∀ (u v : Bool), ∃ e j, tupG 2 (consG (nameG 7) (consG (nameG 8) nilG)) (.tup [.bl u, .bl v]) (wipeE [a, f1, f2, some (.tup [e3, .ref r3, s3, d3]), f4, some (.tup [e5, .ref r5, s5, d5]), f6, f7, f8, f9] [7, 8]) S = .ok e S ∧ orV (varF 7) (varF 8) e S = .ok (.bl (u || v)) (S ++ j) := fun u v =>
        ⟨_, [], rfl, by cases u <;> simp -implicitDefEqProofs only [varF_ap, cF_ap, opF_ap, opK_ap, bF_ap, boolK_ap, andT_ap, andK_ap, orT_ap, orK_ap, notT_ap, notK_ap, yesT_ap, andV_ap, andVK_ap, orV_ap, orVK_ap, notV_ap, notVK_ap, ifF_ap, ifFK_ap, nilA_ap, consA_ap, consK_ap, consJ_ap, tupA_ap, tupK_ap, lstA_ap, lstK_ap, newO_ap, dicF_ap, callF_ap, un1_ap, methF_ap, methK_ap, nonO_ap, someO_ap, someK_ap, slF_ap, slK_ap, slJ_ap, itF_ap, itA_ap, nilS_ap, bkS_ap, ctS_ap, seqS_ap, seqK_nx, seqK_rt, seqK_bk, seqK_ct, dropS_ap, dropK_ap, retS_ap, retK_ap, retN_ap, ifS_ap, ifK_ap, setS_ap, setK_ap, asgS_ap, asgK_ap, asgJ_ap, nameG_ap, nilG_ap, consG_ap, consGK_ap, tupG_ap, fnF_ap, fnK_nx, fnK_rt, forS_ap, forK_ap, intD_ap, negD_ap, addI_ap, varK_ap, startE, yes2, isN, List.map_cons, List.map_nil, List.length_cons, List.length_nil, List.replicate, List.append_nil, List.cons_append, List.nil_append, List.getElem?_cons_zero, List.getElem?_cons_succ, List.set_cons_zero, List.set_cons_succ, R.bind_ok, R.bind_ex, R.bind_bad, R.noex_ok, if_true, if_false, Bool.false_eq_true, Bool.true_eq_false, ite_true, ite_false, reduceIte, Nat.reduceAdd, Nat.reduceSub, Nat.zero_add, Nat.sub_self, Nat.sub_zero, decide_true, decide_false, Bool.not_true, Bool.not_false, wipeE] <;> rfl⟩
      simp only [List.zip_cons_cons, List.zip_nil_right, List.map_cons, List.map_nil, List.mem_cons, List.not_mem_nil, or_false, pairD] at hd
      rcases hd with rfl | rfl | rfl
      · exact one _ _
      · exact one _ _
      · exact one _ _
    exact ⟨j, e⟩
def belsam : List VL.D := [.str "below", .str "same"]
theorem belsam_at {k : Int} {S : Sto} (h : k = 0 ∨ k = 1) : ∃ w : Str, (w = "below" ∨ w = "same") ∧ ixD (.ref S.length) (.int k) (S ++ [.lst belsam]) = .ok (.str w) (S ++ [.lst belsam]) := by
  rcases h with rfl | rfl
  · exact ⟨"below", .inl rfl, ixD_list (k := 0) listAt_last rfl⟩
  · exact ⟨"same", .inr rfl, ixD_list (k := 1) listAt_last rfl⟩
theorem test_ok {c : Int} {now kept asked : VL.D} (hx : cellB x = true) (hy : cellB y = true) (hz : cellB z = true) (h1 : EC x y z st dm now) (h2 : EC x y z st dm kept) (h3 : ET x y z st dm asked) :
    ∃ e j, f__law_test [.int c, now, kept, asked] st = .ok e (st ++ j) ∧ ET x y z (st ++ j) (dm + 2) e := by
  obtain ⟨p1, p2, p3⟩ := rows_pds hx hy hz
  obtain ⟨e3, t3, r3, b0, b1, b2, s3, d3, he3, l3, a3, k3, o1, o2, o3⟩ := h3.ex
  have hB : [VL.D.str "below", .str "same"] = belsam := rfl
  have v5 : (5 : Int).natAbs.log2 < 9000 := by decide +kernel
  by_cases c1 : c % 5 < 2
  · have t1 : decide (c % 5 < 2) = true := decide_eq_true c1
    obtain ⟨w, hw, ix⟩ := belsam_at (k := c % 5) (S := st) (by omega)
    obtain ⟨e, j, q, k⟩ := compared_ok' (st := st ++ [.lst belsam]) hw hx hy hz (h1.le (Le.app _ _) (Nat.le_refl _)) (h2.le (Le.app _ _) (Nat.le_refl _))
    refine ⟨e, [.lst belsam] ++ j, ?_, (by rw [← List.append_assoc]; exact k.le (Le.refl _) (by omega))⟩
    simp -implicitDefEqProofs +decide only [varF_ap, cF_ap, opF_ap, opK_ap, bF_ap, boolK_ap, andT_ap, andK_ap, orT_ap, orK_ap, notT_ap, notK_ap, yesT_ap, andV_ap, andVK_ap, orV_ap, orVK_ap, notV_ap, notVK_ap, ifF_ap, ifFK_ap, nilA_ap, consA_ap, consK_ap, consJ_ap, tupA_ap, lstA_ap, newO_ap, dicF_ap, callF_ap, un1_ap, methF_ap, nonO_ap, someO_ap, someK_ap, slF_ap, slK_ap, slJ_ap, itF_ap, itA_ap, nilS_ap, bkS_ap, ctS_ap, seqS_ap, seqK_nx, seqK_rt, seqK_bk, seqK_ct, dropS_ap, dropK_ap, retS_ap, retK_ap, retN_ap, ifS_ap, ifK_ap, setS_ap, setK_ap, asgS_ap, asgK_ap, asgJ_ap, nameG_ap, nilG_ap, consG_ap, consGK_ap, fnF_ap, fnK_nx, fnK_rt, forS_ap, forK_ap, negD_ap, addI_ap, varK_ap, startE, yes2, isN, List.map_cons, List.map_nil, List.length_cons, List.length_nil, List.replicate, List.append_nil, List.cons_append, List.nil_append, List.getElem?_cons_zero, List.getElem?_cons_succ, List.set_cons_zero, List.set_cons_succ, R.bind_ok, R.bind_ex, R.bind_bad, R.noex_ok, if_true, if_false, Bool.false_eq_true, Bool.true_eq_false, ite_true, ite_false, reduceIte, Nat.reduceAdd, Nat.reduceSub, Nat.zero_add, Nat.sub_self, Nat.sub_zero, decide_true, decide_false, Bool.not_true, Bool.not_false, subD_ap, ltD_ap, leD_ap, gtD_ap, geD_ap, mulD_ap, modD_ap, divD_ap, powD_ap, tupK_ok, lstK_ok, methK_ok, tupG_ok, eqS_t, eqS_f, neS_t, neS_f, eqI_ap, neI_ap, inT_nil, inT_hit, inT_miss, ne_eq, not_false_eq_true, f__law_test, b__law_test, t1, hB, sz (by decide : 2 ≤ 100), ix, q]
    simp only [List.append_assoc, List.cons_append, List.nil_append]
  · have t1 : decide (c % 5 < 2) = false := decide_eq_false c1
    by_cases c2 : c % 5 = 2
    · have t2 : decide (c % 5 = 2) = true := decide_eq_true c2
      obtain ⟨j, q⟩ := qt0_ok (a := some (.int c)) (f1 := some now) (f2 := some kept) (e3 := e3) (s3 := .int s3) (d3 := .int (d3 : Nat)) (f4 := none) (f5 := none) (f6 := none) (f7 := none) (f8 := none) (f9 := none) a3
      have ea : (1 : Int) + (d3 : Int) = ((1 + d3 : Nat) : Int) := by omega
      subst he3
      refine ⟨.tup [.tup [.str "not", e3], .ref st.length, .int (20 + s3), .int ((1 + d3 : Nat) : Int)], .lst [.bl (!b0), .bl (!b1), .bl (!b2)] :: j, ?_, ⟨_, .clo 5 [t3], _, _, _, _, _, 1 + d3, rfl, by omega, listAt_at, k3.not_.mono (by omega), (tl_not o1 p1).mono (by omega), (tl_not o2 p2).mono (by omega), (tl_not o3 p3).mono (by omega)⟩⟩
      simp -implicitDefEqProofs +decide only [varF_ap, cF_ap, opF_ap, opK_ap, bF_ap, boolK_ap, andT_ap, andK_ap, orT_ap, orK_ap, notT_ap, notK_ap, yesT_ap, andV_ap, andVK_ap, orV_ap, orVK_ap, notV_ap, notVK_ap, ifF_ap, ifFK_ap, nilA_ap, consA_ap, consK_ap, consJ_ap, tupA_ap, lstA_ap, newO_ap, dicF_ap, callF_ap, un1_ap, methF_ap, nonO_ap, someO_ap, someK_ap, slF_ap, slK_ap, slJ_ap, itF_ap, itA_ap, nilS_ap, bkS_ap, ctS_ap, seqS_ap, seqK_nx, seqK_rt, seqK_bk, seqK_ct, dropS_ap, dropK_ap, retS_ap, retK_ap, retN_ap, ifS_ap, ifK_ap, setS_ap, setK_ap, asgS_ap, asgK_ap, asgJ_ap, nameG_ap, nilG_ap, consG_ap, consGK_ap, fnF_ap, fnK_nx, fnK_rt, forS_ap, forK_ap, negD_ap, addI_ap, varK_ap, startE, yes2, isN, List.map_cons, List.map_nil, List.length_cons, List.length_nil, List.replicate, List.append_nil, List.cons_append, List.nil_append, List.getElem?_cons_zero, List.getElem?_cons_succ, List.set_cons_zero, List.set_cons_succ, R.bind_ok, R.bind_ex, R.bind_bad, R.noex_ok, if_true, if_false, Bool.false_eq_true, Bool.true_eq_false, ite_true, ite_false, reduceIte, Nat.reduceAdd, Nat.reduceSub, Nat.zero_add, Nat.sub_self, Nat.sub_zero, decide_true, decide_false, Bool.not_true, Bool.not_false, subD_ap, ltD_ap, leD_ap, gtD_ap, geD_ap, mulD_ap, modD_ap, divD_ap, powD_ap, tupK_ok, lstK_ok, methK_ok, tupG_ok, eqS_t, eqS_f, neS_t, neS_f, eqI_ap, neI_ap, inT_nil, inT_hit, inT_miss, ne_eq, not_false_eq_true, f__law_test, b__law_test, t1, t2, sz (by decide : 2 ≤ 100), sz (by decide : 4 ≤ 100), q, jx0, jx2, jx3, addI_ap, ea]
    · have t2 : decide (c % 5 = 2) = false := decide_eq_false c2
      obtain ⟨w, hw, ix⟩ := belsam_at (k := c / 5 % 2) (S := st) (by omega)
      obtain ⟨e, j, q, k⟩ := compared_ok' (st := st ++ [.lst belsam]) hw hx hy hz (h2.le (Le.app _ _) (Nat.le_refl _)) (h1.le (Le.app _ _) (Nat.le_refl _))
      obtain ⟨e5, t5, r5, c0, c1', c2', s5, d5, rfl, l5, a5, k5, i1, i2, i3⟩ := k.ex
      obtain ⟨S, hS⟩ : ∃ S, S = st ++ [.lst belsam] ++ j := ⟨_, rfl⟩
      rw [← hS] at q a5
      have LS : Le st S := by rw [hS]; exact (Le.app _ _).trans (Le.app _ _)
      have a3' := LS.listAt a3
      obtain ⟨⟨j1, q1⟩, j2, q2⟩ := qt12_ok (a := some (.int c)) (f1 := some now) (f2 := some kept) (e3 := e3) (s3 := .int s3) (d3 := .int (d3 : Nat)) (f4 := none) (e5 := e5) (s5 := .int s5) (d5 := .int (d5 : Nat)) (f6 := none) (f7 := none) (f8 := none) (f9 := none) a3' a5
      have mx := fun S => mx2 (a := d3) (b := d5) (st := S)
      have ea : (1 : Int) + ((max d3 d5 : Nat) : Int) = ((1 + max d3 d5 : Nat) : Int) := by omega
      have me : max d3 d5 + 1 + 1 ≤ 1 + max d3 d5 + 1 := by omega
      subst he3
      obtain ⟨i, hi⟩ := LS
      rcases (by omega : c % 5 = 3 ∨ c % 5 = 4) with c3 | c3
      · have t3' : decide (c % 5 = 3) = true := decide_eq_true c3
        have i0 : ∀ S, ixD (.ref S.length) (.int (c % 5 - 3)) (S ++ [VL.O.lst [.str "and", .str "or"]]) = .ok (.str "and") (S ++ [.lst [.str "and", .str "or"]]) := fun S => by rw [c3]; exact ixD_list (k := 0) listAt_last rfl
        refine ⟨.tup [.tup [.str "and", e3, e5], .ref S.length, .int (20 + s3 + s5), .int ((1 + max d3 d5 : Nat) : Int)], i ++ (.lst [.bl (b0 && c0), .bl (b1 && c1'), .bl (b2 && c2')] :: j1 ++ [.lst [.str "and", .str "or"]]), ?_, ⟨_, .clo 6 [t3, t5], S.length, b0 && c0, b1 && c1', b2 && c2', _, 1 + max d3 d5, rfl, by omega, ?_, ((k3.mono (by omega)).and_ (k5.mono (by omega))).mono me, (tl_and (d := max d3 d5 + 1) (o1.mono (by omega)) (i1.mono (by omega)) p1).mono me, (tl_and (d := max d3 d5 + 1) (o2.mono (by omega)) (i2.mono (by omega)) p2).mono me, (tl_and (d := max d3 d5 + 1) (o3.mono (by omega)) (i3.mono (by omega)) p3).mono me⟩⟩
        · rw [← List.append_assoc, ← hi, ← List.append_assoc]
          generalize max d3 d5 = M at *
          simp -implicitDefEqProofs +decide only [varF_ap, cF_ap, opF_ap, opK_ap, bF_ap, boolK_ap, andT_ap, andK_ap, orT_ap, orK_ap, notT_ap, notK_ap, yesT_ap, andV_ap, andVK_ap, orV_ap, orVK_ap, notV_ap, notVK_ap, ifF_ap, ifFK_ap, nilA_ap, consA_ap, consK_ap, consJ_ap, tupA_ap, lstA_ap, newO_ap, dicF_ap, callF_ap, un1_ap, methF_ap, nonO_ap, someO_ap, someK_ap, slF_ap, slK_ap, slJ_ap, itF_ap, itA_ap, nilS_ap, bkS_ap, ctS_ap, seqS_ap, seqK_nx, seqK_rt, seqK_bk, seqK_ct, dropS_ap, dropK_ap, retS_ap, retK_ap, retN_ap, ifS_ap, ifK_ap, setS_ap, setK_ap, asgS_ap, asgK_ap, asgJ_ap, nameG_ap, nilG_ap, consG_ap, consGK_ap, fnF_ap, fnK_nx, fnK_rt, forS_ap, forK_ap, negD_ap, addI_ap, varK_ap, startE, yes2, isN, List.map_cons, List.map_nil, List.length_cons, List.length_nil, List.replicate, List.append_nil, List.cons_append, List.nil_append, List.getElem?_cons_zero, List.getElem?_cons_succ, List.set_cons_zero, List.set_cons_succ, R.bind_ok, R.bind_ex, R.bind_bad, R.noex_ok, if_true, if_false, Bool.false_eq_true, Bool.true_eq_false, ite_true, ite_false, reduceIte, Nat.reduceAdd, Nat.reduceSub, Nat.zero_add, Nat.sub_self, Nat.sub_zero, decide_true, decide_false, Bool.not_true, Bool.not_false, subD_ap, ltD_ap, leD_ap, gtD_ap, geD_ap, mulD_ap, modD_ap, divD_ap, powD_ap, tupK_ok, lstK_ok, methK_ok, tupG_ok, eqS_t, eqS_f, neS_t, neS_f, eqI_ap, neI_ap, inT_nil, inT_hit, inT_miss, ne_eq, not_false_eq_true, f__law_test, b__law_test, t1, t2, t3', hB, v5, sz (by decide : 2 ≤ 100), sz (by decide : 3 ≤ 100), sz (by decide : 4 ≤ 100), ix, q, q1, i0, jx0, jx2, jx3, addI_ap, ea, mx]
        · rw [← List.append_assoc, ← hi, List.cons_append]; exact listAt_at
      · have t3' : decide (c % 5 = 3) = false := decide_eq_false (by omega)
        have i0 : ∀ S, ixD (.ref S.length) (.int (c % 5 - 3)) (S ++ [VL.O.lst [.str "and", .str "or"]]) = .ok (.str "or") (S ++ [.lst [.str "and", .str "or"]]) := fun S => by rw [c3]; exact ixD_list (k := 1) listAt_last rfl
        refine ⟨.tup [.tup [.str "or", e3, e5], .ref S.length, .int (20 + s3 + s5), .int ((1 + max d3 d5 : Nat) : Int)], i ++ (.lst [.bl (b0 || c0), .bl (b1 || c1'), .bl (b2 || c2')] :: j2 ++ [.lst [.str "and", .str "or"]]), ?_, ⟨_, .clo 7 [t3, t5], S.length, b0 || c0, b1 || c1', b2 || c2', _, 1 + max d3 d5, rfl, by omega, ?_, ((k3.mono (by omega)).or_ (k5.mono (by omega))).mono me, (tl_or (d := max d3 d5 + 1) (o1.mono (by omega)) (i1.mono (by omega)) p1).mono me, (tl_or (d := max d3 d5 + 1) (o2.mono (by omega)) (i2.mono (by omega)) p2).mono me, (tl_or (d := max d3 d5 + 1) (o3.mono (by omega)) (i3.mono (by omega)) p3).mono me⟩⟩
        · rw [← List.append_assoc, ← hi, ← List.append_assoc]
          generalize max d3 d5 = M at *
          simp -implicitDefEqProofs +decide only [varF_ap, cF_ap, opF_ap, opK_ap, bF_ap, boolK_ap, andT_ap, andK_ap, orT_ap, orK_ap, notT_ap, notK_ap, yesT_ap, andV_ap, andVK_ap, orV_ap, orVK_ap, notV_ap, notVK_ap, ifF_ap, ifFK_ap, nilA_ap, consA_ap, consK_ap, consJ_ap, tupA_ap, lstA_ap, newO_ap, dicF_ap, callF_ap, un1_ap, methF_ap, nonO_ap, someO_ap, someK_ap, slF_ap, slK_ap, slJ_ap, itF_ap, itA_ap, nilS_ap, bkS_ap, ctS_ap, seqS_ap, seqK_nx, seqK_rt, seqK_bk, seqK_ct, dropS_ap, dropK_ap, retS_ap, retK_ap, retN_ap, ifS_ap, ifK_ap, setS_ap, setK_ap, asgS_ap, asgK_ap, asgJ_ap, nameG_ap, nilG_ap, consG_ap, consGK_ap, fnF_ap, fnK_nx, fnK_rt, forS_ap, forK_ap, negD_ap, addI_ap, varK_ap, startE, yes2, isN, List.map_cons, List.map_nil, List.length_cons, List.length_nil, List.replicate, List.append_nil, List.cons_append, List.nil_append, List.getElem?_cons_zero, List.getElem?_cons_succ, List.set_cons_zero, List.set_cons_succ, R.bind_ok, R.bind_ex, R.bind_bad, R.noex_ok, if_true, if_false, Bool.false_eq_true, Bool.true_eq_false, ite_true, ite_false, reduceIte, Nat.reduceAdd, Nat.reduceSub, Nat.zero_add, Nat.sub_self, Nat.sub_zero, decide_true, decide_false, Bool.not_true, Bool.not_false, subD_ap, ltD_ap, leD_ap, gtD_ap, geD_ap, mulD_ap, modD_ap, divD_ap, powD_ap, tupK_ok, lstK_ok, methK_ok, tupG_ok, eqS_t, eqS_f, neS_t, neS_f, eqI_ap, neI_ap, inT_nil, inT_hit, inT_miss, ne_eq, not_false_eq_true, f__law_test, b__law_test, t1, t2, t3', hB, v5, sz (by decide : 2 ≤ 100), sz (by decide : 3 ≤ 100), sz (by decide : 4 ≤ 100), ix, q, q2, i0, jx0, jx2, jx3, addI_ap, ea, mx]
        · rw [← List.append_assoc, ← hi, List.cons_append]; exact listAt_at
end
end Law
namespace Law
open PySem L2 VL
section
variable {x y z : VL.D} {st st' : Sto}
theorem law_turn {c : Int} {rr : Nat} {now kept asked : VL.D} {a1 a2 a3 a4 a10 a11 a12 a13 a14 a15 : Option VL.D} (hx : cellB x = true) (hy : cellB y = true) (hz : cellB z = true) (hr : listAt st rr = some (rowsT x y z)) (h1 : EC x y z st 26 now) (h2 : EC x y z st 26 kept) (h3 : ET x y z st 26 asked) :
    ∃ now' kept' asked' b10 S, l0_law [some (.ref 0), a1, a2, a3, a4, some (.ref rr), some now, some kept, some asked, some (.int c), a10, a11, a12, a13, a14, a15] st = .ok (.nx [some (.ref 0), a1, a2, a3, a4, some (.ref rr), some now', some kept', some asked', some (.int c), b10, a11, a12, a13, a14, a15]) S
      ∧ Le st S ∧ EC x y z S 26 now' ∧ EC x y z S 26 kept' ∧ ET x y z S 26 asked' := by
  have v4 : (4 : Int).natAbs.log2 < 9000 := by decide +kernel
  obtain ⟨n, hn⟩ : ∃ n, n = c / 4 := ⟨_, rfl⟩
  obtain ⟨F2, hF2⟩ : ∃ F2, F2 = seqS (ifS (orT (bF (opF gtD (opF ixD (varF 6) (cF (.int 2))) (cF (.int 1800)))) (bF (opF gtD (opF ixD (varF 6) (cF (.int 3))) (cF (.int 26))))) (setS 6 (callF f__law_leaf (consA (cF (.int 2)) (consA (varF 5) nilA)))) nilS)
    (ifS (orT (bF (opF gtD (opF ixD (varF 8) (cF (.int 2))) (cF (.int 1800)))) (bF (opF gtD (opF ixD (varF 8) (cF (.int 3))) (cF (.int 26))))) (setS 8 (callF f__law_compared (consA (cF (.str "same")) (consA (callF f__law_leaf (consA (varF 10) (consA (varF 5) nilA))) (consA (callF f__law_leaf (consA (cF (.int 6)) (consA (varF 5) nilA))) nilA))))) nilS) := ⟨_, rfl⟩
  -- the last two steps
  have tail : ∀ (now kept asked : VL.D) (S : Sto), Le st S → EC x y z S 28 now → EC x y z S 26 kept → ET x y z S 28 asked →
      ∃ now' asked' S', F2 [some (.ref 0), a1, a2, a3, a4, some (.ref rr), some now, some kept, some asked, some (.int c), some (.int n), a11, a12, a13, a14, a15] S = .ok (.nx [some (.ref 0), a1, a2, a3, a4, some (.ref rr), some now', some kept, some asked', some (.int c), some (.int n), a11, a12, a13, a14, a15]) S'
        ∧ Le st S' ∧ EC x y z S' 26 now' ∧ EC x y z S' 26 kept ∧ ET x y z S' 26 asked' := by
    intro now kept asked S hS k1 k2 k3
    have hr1 := hS.listAt hr
    obtain ⟨G1, hG1⟩ : ∃ G1, G1 = ifS (orT (bF (opF gtD (opF ixD (varF 6) (cF (.int 2))) (cF (.int 1800)))) (bF (opF gtD (opF ixD (varF 6) (cF (.int 3))) (cF (.int 26))))) (setS 6 (callF f__law_leaf (consA (cF (.int 2)) (consA (varF 5) nilA)))) nilS := ⟨_, rfl⟩
    obtain ⟨G2, hG2⟩ : ∃ G2, G2 = ifS (orT (bF (opF gtD (opF ixD (varF 8) (cF (.int 2))) (cF (.int 1800)))) (bF (opF gtD (opF ixD (varF 8) (cF (.int 3))) (cF (.int 26))))) (setS 8 (callF f__law_compared (consA (cF (.str "same")) (consA (callF f__law_leaf (consA (varF 10) (consA (varF 5) nilA))) (consA (callF f__law_leaf (consA (cF (.int 6)) (consA (varF 5) nilA))) nilA))))) nilS := ⟨_, rfl⟩
    rw [← hG1, ← hG2] at hF2
    have step1 : ∃ now' S', G1 [some (.ref 0), a1, a2, a3, a4, some (.ref rr), some now, some kept, some asked, some (.int c), some (.int n), a11, a12, a13, a14, a15] S = .ok (.nx [some (.ref 0), a1, a2, a3, a4, some (.ref rr), some now', some kept, some asked, some (.int c), some (.int n), a11, a12, a13, a14, a15]) S' ∧ Le S S' ∧ EC x y z S' 26 now' := by
      obtain ⟨e1, t1, r1, u0, u1, u2, s1, d1, rfl, l1, rest⟩ := k1.ex
      obtain ⟨e, j, q, k⟩ := leaf_ok (c := 2) hx hy hz hr1
      by_cases g1 : s1 > 1800
      · have g1' : decide (s1 > 1800) = true := decide_eq_true g1
        exact ⟨e, S ++ j, by rw [hG1]; simp -implicitDefEqProofs +decide only [varF_ap, cF_ap, opF_ap, opK_ap, bF_ap, boolK_ap, andT_ap, andK_ap, orT_ap, orK_ap, notT_ap, notK_ap, yesT_ap, andV_ap, andVK_ap, orV_ap, orVK_ap, notV_ap, notVK_ap, ifF_ap, ifFK_ap, nilA_ap, consA_ap, consK_ap, consJ_ap, tupA_ap, lstA_ap, newO_ap, dicF_ap, callF_ap, un1_ap, methF_ap, nonO_ap, someO_ap, someK_ap, slF_ap, slK_ap, slJ_ap, itF_ap, itA_ap, nilS_ap, bkS_ap, ctS_ap, seqS_ap, seqK_nx, seqK_rt, seqK_bk, seqK_ct, dropS_ap, dropK_ap, retS_ap, retK_ap, retN_ap, ifS_ap, ifK_ap, setS_ap, setK_ap, asgS_ap, asgK_ap, asgJ_ap, nameG_ap, nilG_ap, consG_ap, consGK_ap, fnF_ap, fnK_nx, fnK_rt, forS_ap, forK_ap, negD_ap, addI_ap, varK_ap, startE, yes2, isN, List.map_cons, List.map_nil, List.length_cons, List.length_nil, List.replicate, List.append_nil, List.cons_append, List.nil_append, List.getElem?_cons_zero, List.getElem?_cons_succ, List.set_cons_zero, List.set_cons_succ, R.bind_ok, R.bind_ex, R.bind_bad, R.noex_ok, if_true, if_false, Bool.false_eq_true, Bool.true_eq_false, ite_true, ite_false, reduceIte, Nat.reduceAdd, Nat.reduceSub, Nat.zero_add, Nat.sub_self, Nat.sub_zero, decide_true, decide_false, Bool.not_true, Bool.not_false, subD_ap, ltD_ap, leD_ap, gtD_ap, geD_ap, mulD_ap, modD_ap, divD_ap, powD_ap, tupK_ok, lstK_ok, methK_ok, tupG_ok, eqS_t, eqS_f, neS_t, neS_f, eqI_ap, neI_ap, inT_nil, inT_hit, inT_miss, ne_eq, not_false_eq_true, jx2, g1', q], Le.app _ _, k.le (Le.refl _) (by decide)⟩
      · have g1' : decide (s1 > 1800) = false := decide_eq_false g1
        by_cases g2 : (d1 : Int) > 26
        · have g2' : decide ((d1 : Int) > 26) = true := decide_eq_true g2
          exact ⟨e, S ++ j, by rw [hG1]; simp -implicitDefEqProofs +decide only [varF_ap, cF_ap, opF_ap, opK_ap, bF_ap, boolK_ap, andT_ap, andK_ap, orT_ap, orK_ap, notT_ap, notK_ap, yesT_ap, andV_ap, andVK_ap, orV_ap, orVK_ap, notV_ap, notVK_ap, ifF_ap, ifFK_ap, nilA_ap, consA_ap, consK_ap, consJ_ap, tupA_ap, lstA_ap, newO_ap, dicF_ap, callF_ap, un1_ap, methF_ap, nonO_ap, someO_ap, someK_ap, slF_ap, slK_ap, slJ_ap, itF_ap, itA_ap, nilS_ap, bkS_ap, ctS_ap, seqS_ap, seqK_nx, seqK_rt, seqK_bk, seqK_ct, dropS_ap, dropK_ap, retS_ap, retK_ap, retN_ap, ifS_ap, ifK_ap, setS_ap, setK_ap, asgS_ap, asgK_ap, asgJ_ap, nameG_ap, nilG_ap, consG_ap, consGK_ap, fnF_ap, fnK_nx, fnK_rt, forS_ap, forK_ap, negD_ap, addI_ap, varK_ap, startE, yes2, isN, List.map_cons, List.map_nil, List.length_cons, List.length_nil, List.replicate, List.append_nil, List.cons_append, List.nil_append, List.getElem?_cons_zero, List.getElem?_cons_succ, List.set_cons_zero, List.set_cons_succ, R.bind_ok, R.bind_ex, R.bind_bad, R.noex_ok, if_true, if_false, Bool.false_eq_true, Bool.true_eq_false, ite_true, ite_false, reduceIte, Nat.reduceAdd, Nat.reduceSub, Nat.zero_add, Nat.sub_self, Nat.sub_zero, decide_true, decide_false, Bool.not_true, Bool.not_false, subD_ap, ltD_ap, leD_ap, gtD_ap, geD_ap, mulD_ap, modD_ap, divD_ap, powD_ap, tupK_ok, lstK_ok, methK_ok, tupG_ok, eqS_t, eqS_f, neS_t, neS_f, eqI_ap, neI_ap, inT_nil, inT_hit, inT_miss, ne_eq, not_false_eq_true, jx2, jx3, g1', g2', q], Le.app _ _, k.le (Le.refl _) (by decide)⟩
        · have g2' : decide ((d1 : Int) > 26) = false := decide_eq_false g2
          exact ⟨_, S, by rw [hG1]; simp -implicitDefEqProofs +decide only [varF_ap, cF_ap, opF_ap, opK_ap, bF_ap, boolK_ap, andT_ap, andK_ap, orT_ap, orK_ap, notT_ap, notK_ap, yesT_ap, andV_ap, andVK_ap, orV_ap, orVK_ap, notV_ap, notVK_ap, ifF_ap, ifFK_ap, nilA_ap, consA_ap, consK_ap, consJ_ap, tupA_ap, lstA_ap, newO_ap, dicF_ap, callF_ap, un1_ap, methF_ap, nonO_ap, someO_ap, someK_ap, slF_ap, slK_ap, slJ_ap, itF_ap, itA_ap, nilS_ap, bkS_ap, ctS_ap, seqS_ap, seqK_nx, seqK_rt, seqK_bk, seqK_ct, dropS_ap, dropK_ap, retS_ap, retK_ap, retN_ap, ifS_ap, ifK_ap, setS_ap, setK_ap, asgS_ap, asgK_ap, asgJ_ap, nameG_ap, nilG_ap, consG_ap, consGK_ap, fnF_ap, fnK_nx, fnK_rt, forS_ap, forK_ap, negD_ap, addI_ap, varK_ap, startE, yes2, isN, List.map_cons, List.map_nil, List.length_cons, List.length_nil, List.replicate, List.append_nil, List.cons_append, List.nil_append, List.getElem?_cons_zero, List.getElem?_cons_succ, List.set_cons_zero, List.set_cons_succ, R.bind_ok, R.bind_ex, R.bind_bad, R.noex_ok, if_true, if_false, Bool.false_eq_true, Bool.true_eq_false, ite_true, ite_false, reduceIte, Nat.reduceAdd, Nat.reduceSub, Nat.zero_add, Nat.sub_self, Nat.sub_zero, decide_true, decide_false, Bool.not_true, Bool.not_false, subD_ap, ltD_ap, leD_ap, gtD_ap, geD_ap, mulD_ap, modD_ap, divD_ap, powD_ap, tupK_ok, lstK_ok, methK_ok, tupG_ok, eqS_t, eqS_f, neS_t, neS_f, eqI_ap, neI_ap, inT_nil, inT_hit, inT_miss, ne_eq, not_false_eq_true, jx2, jx3, g1', g2'], Le.refl _, ⟨e1, t1, r1, u0, u1, u2, s1, d1, rfl, by omega, rest⟩⟩
    obtain ⟨now', S1, q1, L1, k1'⟩ := step1
    have hr2 := L1.listAt hr1
    have k3' := k3.le L1 (Nat.le_refl _)
    have step2 : ∃ asked' S', G2 [some (.ref 0), a1, a2, a3, a4, some (.ref rr), some now', some kept, some asked, some (.int c), some (.int n), a11, a12, a13, a14, a15] S1 = .ok (.nx [some (.ref 0), a1, a2, a3, a4, some (.ref rr), some now', some kept, some asked', some (.int c), some (.int n), a11, a12, a13, a14, a15]) S' ∧ Le S1 S' ∧ ET x y z S' 26 asked' := by
      obtain ⟨e1, t1, r1, b0, b1, b2, s1, d1, rfl, l1, rest⟩ := k3'.ex
      obtain ⟨e, j, q, k⟩ := leaf_ok (c := n) hx hy hz hr2
      obtain ⟨e', j', q', k'⟩ := leaf_ok (st := S1 ++ j) (c := 6) hx hy hz (listAt_app hr2)
      obtain ⟨e'', j'', q'', k''⟩ := compared_ok' (.inr rfl) hx hy hz (k.le (Le.app _ j') (Nat.le_refl _)) k'
      by_cases g1 : s1 > 1800
      · have g1' : decide (s1 > 1800) = true := decide_eq_true g1
        exact ⟨e'', _, by rw [hG2]; simp -implicitDefEqProofs +decide only [varF_ap, cF_ap, opF_ap, opK_ap, bF_ap, boolK_ap, andT_ap, andK_ap, orT_ap, orK_ap, notT_ap, notK_ap, yesT_ap, andV_ap, andVK_ap, orV_ap, orVK_ap, notV_ap, notVK_ap, ifF_ap, ifFK_ap, nilA_ap, consA_ap, consK_ap, consJ_ap, tupA_ap, lstA_ap, newO_ap, dicF_ap, callF_ap, un1_ap, methF_ap, nonO_ap, someO_ap, someK_ap, slF_ap, slK_ap, slJ_ap, itF_ap, itA_ap, nilS_ap, bkS_ap, ctS_ap, seqS_ap, seqK_nx, seqK_rt, seqK_bk, seqK_ct, dropS_ap, dropK_ap, retS_ap, retK_ap, retN_ap, ifS_ap, ifK_ap, setS_ap, setK_ap, asgS_ap, asgK_ap, asgJ_ap, nameG_ap, nilG_ap, consG_ap, consGK_ap, fnF_ap, fnK_nx, fnK_rt, forS_ap, forK_ap, negD_ap, addI_ap, varK_ap, startE, yes2, isN, List.map_cons, List.map_nil, List.length_cons, List.length_nil, List.replicate, List.append_nil, List.cons_append, List.nil_append, List.getElem?_cons_zero, List.getElem?_cons_succ, List.set_cons_zero, List.set_cons_succ, R.bind_ok, R.bind_ex, R.bind_bad, R.noex_ok, if_true, if_false, Bool.false_eq_true, Bool.true_eq_false, ite_true, ite_false, reduceIte, Nat.reduceAdd, Nat.reduceSub, Nat.zero_add, Nat.sub_self, Nat.sub_zero, decide_true, decide_false, Bool.not_true, Bool.not_false, subD_ap, ltD_ap, leD_ap, gtD_ap, geD_ap, mulD_ap, modD_ap, divD_ap, powD_ap, tupK_ok, lstK_ok, methK_ok, tupG_ok, eqS_t, eqS_f, neS_t, neS_f, eqI_ap, neI_ap, inT_nil, inT_hit, inT_miss, ne_eq, not_false_eq_true, jx2, g1', q, q', q''], ((Le.app _ _).trans (Le.app _ _)).trans (Le.app _ _), k''.le (Le.refl _) (by decide)⟩
      · have g1' : decide (s1 > 1800) = false := decide_eq_false g1
        by_cases g2 : (d1 : Int) > 26
        · have g2' : decide ((d1 : Int) > 26) = true := decide_eq_true g2
          exact ⟨e'', _, by rw [hG2]; simp -implicitDefEqProofs +decide only [varF_ap, cF_ap, opF_ap, opK_ap, bF_ap, boolK_ap, andT_ap, andK_ap, orT_ap, orK_ap, notT_ap, notK_ap, yesT_ap, andV_ap, andVK_ap, orV_ap, orVK_ap, notV_ap, notVK_ap, ifF_ap, ifFK_ap, nilA_ap, consA_ap, consK_ap, consJ_ap, tupA_ap, lstA_ap, newO_ap, dicF_ap, callF_ap, un1_ap, methF_ap, nonO_ap, someO_ap, someK_ap, slF_ap, slK_ap, slJ_ap, itF_ap, itA_ap, nilS_ap, bkS_ap, ctS_ap, seqS_ap, seqK_nx, seqK_rt, seqK_bk, seqK_ct, dropS_ap, dropK_ap, retS_ap, retK_ap, retN_ap, ifS_ap, ifK_ap, setS_ap, setK_ap, asgS_ap, asgK_ap, asgJ_ap, nameG_ap, nilG_ap, consG_ap, consGK_ap, fnF_ap, fnK_nx, fnK_rt, forS_ap, forK_ap, negD_ap, addI_ap, varK_ap, startE, yes2, isN, List.map_cons, List.map_nil, List.length_cons, List.length_nil, List.replicate, List.append_nil, List.cons_append, List.nil_append, List.getElem?_cons_zero, List.getElem?_cons_succ, List.set_cons_zero, List.set_cons_succ, R.bind_ok, R.bind_ex, R.bind_bad, R.noex_ok, if_true, if_false, Bool.false_eq_true, Bool.true_eq_false, ite_true, ite_false, reduceIte, Nat.reduceAdd, Nat.reduceSub, Nat.zero_add, Nat.sub_self, Nat.sub_zero, decide_true, decide_false, Bool.not_true, Bool.not_false, subD_ap, ltD_ap, leD_ap, gtD_ap, geD_ap, mulD_ap, modD_ap, divD_ap, powD_ap, tupK_ok, lstK_ok, methK_ok, tupG_ok, eqS_t, eqS_f, neS_t, neS_f, eqI_ap, neI_ap, inT_nil, inT_hit, inT_miss, ne_eq, not_false_eq_true, jx2, jx3, g1', g2', q, q', q''], ((Le.app _ _).trans (Le.app _ _)).trans (Le.app _ _), k''.le (Le.refl _) (by decide)⟩
        · have g2' : decide ((d1 : Int) > 26) = false := decide_eq_false g2
          exact ⟨_, S1, by rw [hG2]; simp -implicitDefEqProofs +decide only [varF_ap, cF_ap, opF_ap, opK_ap, bF_ap, boolK_ap, andT_ap, andK_ap, orT_ap, orK_ap, notT_ap, notK_ap, yesT_ap, andV_ap, andVK_ap, orV_ap, orVK_ap, notV_ap, notVK_ap, ifF_ap, ifFK_ap, nilA_ap, consA_ap, consK_ap, consJ_ap, tupA_ap, lstA_ap, newO_ap, dicF_ap, callF_ap, un1_ap, methF_ap, nonO_ap, someO_ap, someK_ap, slF_ap, slK_ap, slJ_ap, itF_ap, itA_ap, nilS_ap, bkS_ap, ctS_ap, seqS_ap, seqK_nx, seqK_rt, seqK_bk, seqK_ct, dropS_ap, dropK_ap, retS_ap, retK_ap, retN_ap, ifS_ap, ifK_ap, setS_ap, setK_ap, asgS_ap, asgK_ap, asgJ_ap, nameG_ap, nilG_ap, consG_ap, consGK_ap, fnF_ap, fnK_nx, fnK_rt, forS_ap, forK_ap, negD_ap, addI_ap, varK_ap, startE, yes2, isN, List.map_cons, List.map_nil, List.length_cons, List.length_nil, List.replicate, List.append_nil, List.cons_append, List.nil_append, List.getElem?_cons_zero, List.getElem?_cons_succ, List.set_cons_zero, List.set_cons_succ, R.bind_ok, R.bind_ex, R.bind_bad, R.noex_ok, if_true, if_false, Bool.false_eq_true, Bool.true_eq_false, ite_true, ite_false, reduceIte, Nat.reduceAdd, Nat.reduceSub, Nat.zero_add, Nat.sub_self, Nat.sub_zero, decide_true, decide_false, Bool.not_true, Bool.not_false, subD_ap, ltD_ap, leD_ap, gtD_ap, geD_ap, mulD_ap, modD_ap, divD_ap, powD_ap, tupK_ok, lstK_ok, methK_ok, tupG_ok, eqS_t, eqS_f, neS_t, neS_f, eqI_ap, neI_ap, inT_nil, inT_hit, inT_miss, ne_eq, not_false_eq_true, jx2, jx3, g1', g2'], Le.refl _, ⟨e1, t1, r1, b0, b1, b2, s1, d1, rfl, by omega, rest⟩⟩
    obtain ⟨asked', S2, q2, L2, k3''⟩ := step2
    exact ⟨now', asked', S2, by rw [hF2]; simp -implicitDefEqProofs only [varF_ap, cF_ap, opF_ap, opK_ap, bF_ap, boolK_ap, andT_ap, andK_ap, orT_ap, orK_ap, notT_ap, notK_ap, yesT_ap, andV_ap, andVK_ap, orV_ap, orVK_ap, notV_ap, notVK_ap, ifF_ap, ifFK_ap, nilA_ap, consA_ap, consK_ap, consJ_ap, tupA_ap, tupK_ap, lstA_ap, lstK_ap, newO_ap, dicF_ap, callF_ap, un1_ap, methF_ap, methK_ap, nonO_ap, someO_ap, someK_ap, slF_ap, slK_ap, slJ_ap, itF_ap, itA_ap, nilS_ap, bkS_ap, ctS_ap, seqS_ap, seqK_nx, seqK_rt, seqK_bk, seqK_ct, dropS_ap, dropK_ap, retS_ap, retK_ap, retN_ap, ifS_ap, ifK_ap, setS_ap, setK_ap, asgS_ap, asgK_ap, asgJ_ap, nameG_ap, nilG_ap, consG_ap, consGK_ap, tupG_ap, fnF_ap, fnK_nx, fnK_rt, forS_ap, forK_ap, intD_ap, negD_ap, addI_ap, varK_ap, startE, yes2, isN, List.map_cons, List.map_nil, List.length_cons, List.length_nil, List.replicate, List.append_nil, List.cons_append, List.nil_append, List.getElem?_cons_zero, List.getElem?_cons_succ, List.set_cons_zero, List.set_cons_succ, R.bind_ok, R.bind_ex, R.bind_bad, R.noex_ok, if_true, if_false, Bool.false_eq_true, Bool.true_eq_false, ite_true, ite_false, reduceIte, Nat.reduceAdd, Nat.reduceSub, Nat.zero_add, Nat.sub_self, Nat.sub_zero, decide_true, decide_false, Bool.not_true, Bool.not_false, q1, q2], hS.trans (L1.trans L2), k1'.le L2 (Nat.le_refl _), k2.le (L1.trans L2) (Nat.le_refl _), k3''⟩
  obtain ⟨H, hH⟩ : ∃ H, H = l0_law := ⟨_, rfl⟩
  unfold l0_law
  rw [← hF2]
  clear hF2 hH H
  by_cases c0 : c % 4 = 0
  · have c0' : decide (c % 4 = 0) = true := decide_eq_true c0
    obtain ⟨e, j, q, k⟩ := leaf_ok (c := n) hx hy hz hr
    obtain ⟨now', asked', S', t, L, k1, k2, k3⟩ := tail e now asked (st ++ j) (Le.app _ _) (k.le (Le.refl _) (by decide)) (h1.le (Le.app _ _) (Nat.le_refl _)) (h3.le (Le.app _ _) (by decide))
    exact ⟨now', now, asked', some (.int n), S', by simp -implicitDefEqProofs +decide only [varF_ap, cF_ap, opF_ap, opK_ap, bF_ap, boolK_ap, andT_ap, andK_ap, orT_ap, orK_ap, notT_ap, notK_ap, yesT_ap, andV_ap, andVK_ap, orV_ap, orVK_ap, notV_ap, notVK_ap, ifF_ap, ifFK_ap, nilA_ap, consA_ap, consK_ap, consJ_ap, tupA_ap, lstA_ap, newO_ap, dicF_ap, callF_ap, un1_ap, methF_ap, nonO_ap, someO_ap, someK_ap, slF_ap, slK_ap, slJ_ap, itF_ap, itA_ap, nilS_ap, bkS_ap, ctS_ap, seqS_ap, seqK_nx, seqK_rt, seqK_bk, seqK_ct, dropS_ap, dropK_ap, retS_ap, retK_ap, retN_ap, ifS_ap, ifK_ap, setS_ap, setK_ap, asgS_ap, asgK_ap, asgJ_ap, nameG_ap, nilG_ap, consG_ap, consGK_ap, fnF_ap, fnK_nx, fnK_rt, forS_ap, forK_ap, negD_ap, addI_ap, varK_ap, startE, yes2, isN, List.map_cons, List.map_nil, List.length_cons, List.length_nil, List.replicate, List.append_nil, List.cons_append, List.nil_append, List.getElem?_cons_zero, List.getElem?_cons_succ, List.set_cons_zero, List.set_cons_succ, R.bind_ok, R.bind_ex, R.bind_bad, R.noex_ok, if_true, if_false, Bool.false_eq_true, Bool.true_eq_false, ite_true, ite_false, reduceIte, Nat.reduceAdd, Nat.reduceSub, Nat.zero_add, Nat.sub_self, Nat.sub_zero, decide_true, decide_false, Bool.not_true, Bool.not_false, subD_ap, ltD_ap, leD_ap, gtD_ap, geD_ap, mulD_ap, modD_ap, divD_ap, powD_ap, tupK_ok, lstK_ok, methK_ok, tupG_ok, eqS_t, eqS_f, neS_t, neS_f, eqI_ap, neI_ap, inT_nil, inT_hit, inT_miss, ne_eq, not_false_eq_true, v4, c0', ← hn, q, t], L, k1, k2, k3⟩
  · have c0' : decide (c % 4 = 0) = false := decide_eq_false c0
    by_cases c1 : c % 4 = 1
    · have c1' : decide (c % 4 = 1) = true := decide_eq_true c1
      obtain ⟨e, j, q, k⟩ := test_ok (c := n) hx hy hz h1 h2 h3
      obtain ⟨now', asked', S', t, L, k1, k2, k3⟩ := tail now kept e (st ++ j) (Le.app _ _) (h1.le (Le.app _ _) (by decide)) (h2.le (Le.app _ _) (Nat.le_refl _)) (k.le (Le.refl _) (by decide))
      exact ⟨now', kept, asked', some (.int n), S', by simp -implicitDefEqProofs +decide only [varF_ap, cF_ap, opF_ap, opK_ap, bF_ap, boolK_ap, andT_ap, andK_ap, orT_ap, orK_ap, notT_ap, notK_ap, yesT_ap, andV_ap, andVK_ap, orV_ap, orVK_ap, notV_ap, notVK_ap, ifF_ap, ifFK_ap, nilA_ap, consA_ap, consK_ap, consJ_ap, tupA_ap, lstA_ap, newO_ap, dicF_ap, callF_ap, un1_ap, methF_ap, nonO_ap, someO_ap, someK_ap, slF_ap, slK_ap, slJ_ap, itF_ap, itA_ap, nilS_ap, bkS_ap, ctS_ap, seqS_ap, seqK_nx, seqK_rt, seqK_bk, seqK_ct, dropS_ap, dropK_ap, retS_ap, retK_ap, retN_ap, ifS_ap, ifK_ap, setS_ap, setK_ap, asgS_ap, asgK_ap, asgJ_ap, nameG_ap, nilG_ap, consG_ap, consGK_ap, fnF_ap, fnK_nx, fnK_rt, forS_ap, forK_ap, negD_ap, addI_ap, varK_ap, startE, yes2, isN, List.map_cons, List.map_nil, List.length_cons, List.length_nil, List.replicate, List.append_nil, List.cons_append, List.nil_append, List.getElem?_cons_zero, List.getElem?_cons_succ, List.set_cons_zero, List.set_cons_succ, R.bind_ok, R.bind_ex, R.bind_bad, R.noex_ok, if_true, if_false, Bool.false_eq_true, Bool.true_eq_false, ite_true, ite_false, reduceIte, Nat.reduceAdd, Nat.reduceSub, Nat.zero_add, Nat.sub_self, Nat.sub_zero, decide_true, decide_false, Bool.not_true, Bool.not_false, subD_ap, ltD_ap, leD_ap, gtD_ap, geD_ap, mulD_ap, modD_ap, divD_ap, powD_ap, tupK_ok, lstK_ok, methK_ok, tupG_ok, eqS_t, eqS_f, neS_t, neS_f, eqI_ap, neI_ap, inT_nil, inT_hit, inT_miss, ne_eq, not_false_eq_true, v4, c0', c1', ← hn, q, t], L, k1, k2, k3⟩
    · have c1' : decide (c % 4 = 1) = false := decide_eq_false c1
      obtain ⟨e, j, q, k⟩ := column_ok (c := n) hx hy hz h1 h2 h3
      obtain ⟨now', asked', S', t, L, k1, k2, k3⟩ := tail e kept asked (st ++ j) (Le.app _ _) (k.le (Le.refl _) (by decide)) (h2.le (Le.app _ _) (Nat.le_refl _)) (h3.le (Le.app _ _) (by decide))
      exact ⟨now', kept, asked', some (.int n), S', by simp -implicitDefEqProofs +decide only [varF_ap, cF_ap, opF_ap, opK_ap, bF_ap, boolK_ap, andT_ap, andK_ap, orT_ap, orK_ap, notT_ap, notK_ap, yesT_ap, andV_ap, andVK_ap, orV_ap, orVK_ap, notV_ap, notVK_ap, ifF_ap, ifFK_ap, nilA_ap, consA_ap, consK_ap, consJ_ap, tupA_ap, lstA_ap, newO_ap, dicF_ap, callF_ap, un1_ap, methF_ap, nonO_ap, someO_ap, someK_ap, slF_ap, slK_ap, slJ_ap, itF_ap, itA_ap, nilS_ap, bkS_ap, ctS_ap, seqS_ap, seqK_nx, seqK_rt, seqK_bk, seqK_ct, dropS_ap, dropK_ap, retS_ap, retK_ap, retN_ap, ifS_ap, ifK_ap, setS_ap, setK_ap, asgS_ap, asgK_ap, asgJ_ap, nameG_ap, nilG_ap, consG_ap, consGK_ap, fnF_ap, fnK_nx, fnK_rt, forS_ap, forK_ap, negD_ap, addI_ap, varK_ap, startE, yes2, isN, List.map_cons, List.map_nil, List.length_cons, List.length_nil, List.replicate, List.append_nil, List.cons_append, List.nil_append, List.getElem?_cons_zero, List.getElem?_cons_succ, List.set_cons_zero, List.set_cons_succ, R.bind_ok, R.bind_ex, R.bind_bad, R.noex_ok, if_true, if_false, Bool.false_eq_true, Bool.true_eq_false, ite_true, ite_false, reduceIte, Nat.reduceAdd, Nat.reduceSub, Nat.zero_add, Nat.sub_self, Nat.sub_zero, decide_true, decide_false, Bool.not_true, Bool.not_false, subD_ap, ltD_ap, leD_ap, gtD_ap, geD_ap, mulD_ap, modD_ap, divD_ap, powD_ap, tupK_ok, lstK_ok, methK_ok, tupG_ok, eqS_t, eqS_f, neS_t, neS_f, eqI_ap, neI_ap, inT_nil, inT_hit, inT_miss, ne_eq, not_false_eq_true, v4, c0', c1', ← hn, q, t], L, k1, k2, k3⟩
end
end Law
namespace Law
open PySem L2 VL
def cob (v : VL.D) : Prop := cellB v = true ∨ ∃ b, v = .bl b
theorem cob_pd {v : VL.D} (h : cob v) : pd v = true := by
  rcases h with h | ⟨b, rfl⟩
  · exact cellB_pd h
  · rfl
/-- what is asked at the end: an entry with its function -/
def Fin (x y z : VL.D) (S : Sto) (d : VL.D) : Prop := ∃ ex tl r v0 v1 v2 s p, d = .tup [.tup [ex, .ref r, s, p], tl] ∧ listAt S r = some [v0, v1, v2] ∧ cob v0 ∧ cob v1 ∧ cob v2 ∧ Tl 27 tl [x, y, z] v0 ∧ Tl 27 tl [y, z, x] v1 ∧ Tl 27 tl [.non, x, y] v2
section
variable {x y z : VL.D} {st : Sto}
theorem ask_one {tl v : VL.D} {row : List VL.D} {e0 e1 e2 e3 e4 e5 e6 e7 e8 e9 e10 e11 e13 e14 e15 : Option VL.D} (h : Tl 27 tl row v) (hp : pds row = true) (hv : cob v) :
    l3_law [e0, e1, e2, e3, e4, e5, e6, e7, e8, e9, e10, e11, some tl, e13, some (.tup row), some v] st = .ok (.nx [e0, e1, e2, e3, e4, e5, e6, e7, e8, e9, e10, e11, some tl, e13, some (.tup row), some v]) st := by
  have k := h.call (e := 30) (i := 12) (j := 14) (env := [e0, e1, e2, e3, e4, e5, e6, e7, e8, e9, e10, e11, some tl, e13, some (.tup row), some v]) (st := st) (gt := gt_1) (by decide) hp (cob_pd hv) rfl rfl
  have f := fits_ok (st := st) hv
  simp -implicitDefEqProofs only [varF_ap, cF_ap, opF_ap, opK_ap, bF_ap, boolK_ap, andT_ap, andK_ap, orT_ap, orK_ap, notT_ap, notK_ap, yesT_ap, andV_ap, andVK_ap, orV_ap, orVK_ap, notV_ap, notVK_ap, ifF_ap, ifFK_ap, nilA_ap, consA_ap, consK_ap, consJ_ap, tupA_ap, tupK_ap, lstA_ap, lstK_ap, newO_ap, dicF_ap, callF_ap, un1_ap, methF_ap, methK_ap, nonO_ap, someO_ap, someK_ap, slF_ap, slK_ap, slJ_ap, itF_ap, itA_ap, nilS_ap, bkS_ap, ctS_ap, seqS_ap, seqK_nx, seqK_rt, seqK_bk, seqK_ct, dropS_ap, dropK_ap, retS_ap, retK_ap, retN_ap, ifS_ap, ifK_ap, setS_ap, setK_ap, asgS_ap, asgK_ap, asgJ_ap, nameG_ap, nilG_ap, consG_ap, consGK_ap, tupG_ap, fnF_ap, fnK_nx, fnK_rt, forS_ap, forK_ap, intD_ap, negD_ap, addI_ap, varK_ap, startE, yes2, isN, List.map_cons, List.map_nil, List.length_cons, List.length_nil, List.replicate, List.append_nil, List.cons_append, List.nil_append, List.getElem?_cons_zero, List.getElem?_cons_succ, List.set_cons_zero, List.set_cons_succ, R.bind_ok, R.bind_ex, R.bind_bad, R.noex_ok, if_true, if_false, Bool.false_eq_true, Bool.true_eq_false, ite_true, ite_false, reduceIte, Nat.reduceAdd, Nat.reduceSub, Nat.zero_add, Nat.sub_self, Nat.sub_zero, decide_true, decide_false, Bool.not_true, Bool.not_false, l3_law, k, f]
theorem ask_rows {rr r : Nat} {ex s p tl v0 v1 v2 : VL.D} (hx : cellB x = true) (hy : cellB y = true) (hz : cellB z = true) (hr : listAt st rr = some (rowsT x y z)) (h : listAt st r = some [v0, v1, v2]) (c0 : cob v0) (c1 : cob v1) (c2 : cob v2)
    (t0 : Tl 27 tl [x, y, z] v0) (t1 : Tl 27 tl [y, z, x] v1) (t2 : Tl 27 tl [.non, x, y] v2) {e0 e1 e2 e3 e4 e6 e7 e8 e9 e10 e13 e14 e15 : Option VL.D} :
    ∃ f14 f15, l2_law [e0, e1, e2, e3, e4, some (.ref rr), e6, e7, e8, e9, e10, some (.tup [ex, .ref r, s, p]), some tl, e13, e14, e15] st = .ok (.nx [e0, e1, e2, e3, e4, some (.ref rr), e6, e7, e8, e9, e10, some (.tup [ex, .ref r, s, p]), some tl, e13, f14, f15]) st := by
  obtain ⟨p1, p2, p3⟩ := rows_pds hx hy hz
  obtain ⟨ck, hck, zp⟩ := zip2_ok hr h
  refine ⟨some (.tup [.non, x, y]), some v2, ?_⟩
  have lp : forL ck (tupG 2 (consG (nameG 14) (consG (nameG 15) nilG))) l3_law (List.map pairD ((rowsT x y z).zip [v0, v1, v2])) [e0, e1, e2, e3, e4, some (.ref rr), e6, e7, e8, e9, e10, some (.tup [ex, .ref r, s, p]), some tl, e13, e14, e15] st = .ok (.nx [e0, e1, e2, e3, e4, some (.ref rr), e6, e7, e8, e9, e10, some (.tup [ex, .ref r, s, p]), some tl, e13, some (.tup [.non, x, y]), some v2]) st := by
    have g : ∀ (row v : VL.D) (f14 f15 : Option VL.D), tupG 2 (consG (nameG 14) (consG (nameG 15) nilG)) (pairD (row, v)) [e0, e1, e2, e3, e4, some (.ref rr), e6, e7, e8, e9, e10, some (.tup [ex, .ref r, s, p]), some tl, e13, f14, f15] st = .ok [e0, e1, e2, e3, e4, some (.ref rr), e6, e7, e8, e9, e10, some (.tup [ex, .ref r, s, p]), some tl, e13, some row, some v] st := fun _ _ _ _ => rfl
    show forL ck _ l3_law [pairD (.tup [x, y, z], v0), pairD (.tup [y, z, x], v1), pairD (.tup [.non, x, y], v2)] _ st = _
    rw [forL_cons hck, g, R.bind_ok, ask_one t0 p1 c0 (e14 := none) (e15 := none), R.bind_ok]
    show forL ck _ l3_law [pairD (.tup [y, z, x], v1), pairD (.tup [.non, x, y], v2)] _ st = _
    rw [forL_cons hck, g, R.bind_ok, ask_one t1 p2 c1 (e14 := none) (e15 := none), R.bind_ok]
    show forL ck _ l3_law [pairD (.tup [.non, x, y], v2)] _ st = _
    rw [forL_cons hck, g, R.bind_ok, ask_one t2 p3 c2 (e14 := none) (e15 := none), R.bind_ok]
    show forL ck _ l3_law [] _ st = _
    rw [forL_nil hck]
  simp -implicitDefEqProofs only [varF_ap, cF_ap, opF_ap, opK_ap, bF_ap, boolK_ap, andT_ap, andK_ap, orT_ap, orK_ap, notT_ap, notK_ap, yesT_ap, andV_ap, andVK_ap, orV_ap, orVK_ap, notV_ap, notVK_ap, ifF_ap, ifFK_ap, nilA_ap, consA_ap, consK_ap, consJ_ap, tupA_ap, tupK_ap, lstA_ap, lstK_ap, newO_ap, dicF_ap, callF_ap, un1_ap, methF_ap, methK_ap, nonO_ap, someO_ap, someK_ap, slF_ap, slK_ap, slJ_ap, itF_ap, itA_ap, nilS_ap, bkS_ap, ctS_ap, seqS_ap, seqK_nx, seqK_rt, seqK_bk, seqK_ct, dropS_ap, dropK_ap, retS_ap, retK_ap, retN_ap, ifS_ap, ifK_ap, setS_ap, setK_ap, asgS_ap, asgK_ap, asgJ_ap, nameG_ap, nilG_ap, consG_ap, consGK_ap, tupG_ap, fnF_ap, fnK_nx, fnK_rt, forS_ap, forK_ap, intD_ap, negD_ap, addI_ap, varK_ap, startE, yes2, isN, List.map_cons, List.map_nil, List.length_cons, List.length_nil, List.replicate, List.append_nil, List.cons_append, List.nil_append, List.getElem?_cons_zero, List.getElem?_cons_succ, List.set_cons_zero, List.set_cons_succ, R.bind_ok, R.bind_ex, R.bind_bad, R.noex_ok, if_true, if_false, Bool.false_eq_true, Bool.true_eq_false, ite_true, ite_false, reduceIte, Nat.reduceAdd, Nat.reduceSub, Nat.zero_add, Nat.sub_self, Nat.sub_zero, decide_true, decide_false, Bool.not_true, Bool.not_false, l2_law, jx1, zp, lp]
theorem ask_item {rr : Nat} {d : VL.D} (hx : cellB x = true) (hy : cellB y = true) (hz : cellB z = true) (hr : listAt st rr = some (rowsT x y z)) (h : Fin x y z st d) {e0 e1 e2 e3 e4 e6 e7 e8 e9 e10 e11 e12 e13 e14 e15 : Option VL.D} :
    ∃ env1 f11 f12 f13 f14 f15, tupG 2 (consG (nameG 11) (consG (nameG 12) nilG)) d [e0, e1, e2, e3, e4, some (.ref rr), e6, e7, e8, e9, e10, e11, e12, e13, e14, e15] st = .ok env1 st ∧ l1_law env1 st = .ok (.nx [e0, e1, e2, e3, e4, some (.ref rr), e6, e7, e8, e9, e10, f11, f12, f13, f14, f15]) st := by
  obtain ⟨ex, tl, r, v0, v1, v2, s, p, rfl, hl, c0, c1, c2, t0, t1, t2⟩ := h
  have one := fun (f13 f14 f15 : Option VL.D) => ask_rows (ex := ex) (s := s) (p := p) hx hy hz hr hl c0 c1 c2 t0 t1 t2 (e0 := e0) (e1 := e1) (e2 := e2) (e3 := e3) (e4 := e4) (e6 := e6) (e7 := e7) (e8 := e8) (e9 := e9) (e10 := e10) (e13 := f13) (e14 := f14) (e15 := f15)
  obtain ⟨g14, g15, h1⟩ := one (some (.int 0)) e14 e15
  obtain ⟨h14, h15, h2⟩ := one (some (.int 1)) g14 g15
  have rg : rng1D [.int 2] st = .ok ([.int 0, .int 1], []) st := rfl
  have g : ∀ (v : VL.D) (f13 f14 f15 : Option VL.D), nameG 13 v [e0, e1, e2, e3, e4, some (.ref rr), e6, e7, e8, e9, e10, some (.tup [ex, .ref r, s, p]), some tl, f13, f14, f15] st = .ok [e0, e1, e2, e3, e4, some (.ref rr), e6, e7, e8, e9, e10, some (.tup [ex, .ref r, s, p]), some tl, some v, f14, f15] st := fun _ _ _ _ => rfl
  have lp : forL [] (nameG 13) l2_law [.int 0, .int 1] [e0, e1, e2, e3, e4, some (.ref rr), e6, e7, e8, e9, e10, some (.tup [ex, .ref r, s, p]), some tl, e13, e14, e15] st = .ok (.nx [e0, e1, e2, e3, e4, some (.ref rr), e6, e7, e8, e9, e10, some (.tup [ex, .ref r, s, p]), some tl, some (.int 1), h14, h15]) st := by
    rw [forL_cons ChkOk.nil, g, R.bind_ok, h1, R.bind_ok]
    show forL [] _ l2_law [.int 1] _ st = _
    rw [forL_cons ChkOk.nil, g, R.bind_ok, h2, R.bind_ok]
    show forL [] _ l2_law [] _ st = _
    rw [forL_nil ChkOk.nil]
  exact ⟨_, some (.tup [ex, .ref r, s, p]), some tl, some (.int 1), h14, h15, rfl, by simp -implicitDefEqProofs only [varF_ap, cF_ap, opF_ap, opK_ap, bF_ap, boolK_ap, andT_ap, andK_ap, orT_ap, orK_ap, notT_ap, notK_ap, yesT_ap, andV_ap, andVK_ap, orV_ap, orVK_ap, notV_ap, notVK_ap, ifF_ap, ifFK_ap, nilA_ap, consA_ap, consK_ap, consJ_ap, tupA_ap, tupK_ap, lstA_ap, lstK_ap, newO_ap, dicF_ap, callF_ap, un1_ap, methF_ap, methK_ap, nonO_ap, someO_ap, someK_ap, slF_ap, slK_ap, slJ_ap, itF_ap, itA_ap, nilS_ap, bkS_ap, ctS_ap, seqS_ap, seqK_nx, seqK_rt, seqK_bk, seqK_ct, dropS_ap, dropK_ap, retS_ap, retK_ap, retN_ap, ifS_ap, ifK_ap, setS_ap, setK_ap, asgS_ap, asgK_ap, asgJ_ap, nameG_ap, nilG_ap, consG_ap, consGK_ap, tupG_ap, fnF_ap, fnK_nx, fnK_rt, forS_ap, forK_ap, intD_ap, negD_ap, addI_ap, varK_ap, startE, yes2, isN, List.map_cons, List.map_nil, List.length_cons, List.length_nil, List.replicate, List.append_nil, List.cons_append, List.nil_append, List.getElem?_cons_zero, List.getElem?_cons_succ, List.set_cons_zero, List.set_cons_succ, R.bind_ok, R.bind_ex, R.bind_bad, R.noex_ok, if_true, if_false, Bool.false_eq_true, Bool.true_eq_false, ite_true, ite_false, reduceIte, Nat.reduceAdd, Nat.reduceSub, Nat.zero_add, Nat.sub_self, Nat.sub_zero, decide_true, decide_false, Bool.not_true, Bool.not_false, l1_law, rg, lp]⟩
theorem ask_all {rr : Nat} {d1 d2 d3 : VL.D} (hx : cellB x = true) (hy : cellB y = true) (hz : cellB z = true) (hr : listAt st rr = some (rowsT x y z)) (k1 : Fin x y z st d1) (k2 : Fin x y z st d2) (k3 : Fin x y z st d3) {c : Chk} (hc : ChkOk c st) {e0 e1 e2 e3 e4 e6 e7 e8 e9 e10 e11 e12 e13 e14 e15 : Option VL.D} :
    ∃ e', forL c (tupG 2 (consG (nameG 11) (consG (nameG 12) nilG))) l1_law [d1, d2, d3] [e0, e1, e2, e3, e4, some (.ref rr), e6, e7, e8, e9, e10, e11, e12, e13, e14, e15] st = .ok (.nx e') st := by
  obtain ⟨n1, f11, f12, f13, f14, f15, a1, b1⟩ := ask_item hx hy hz hr k1 (e0 := e0) (e1 := e1) (e2 := e2) (e3 := e3) (e4 := e4) (e6 := e6) (e7 := e7) (e8 := e8) (e9 := e9) (e10 := e10) (e11 := e11) (e12 := e12) (e13 := e13) (e14 := e14) (e15 := e15)
  obtain ⟨n2, g11, g12, g13, g14, g15, a2, b2⟩ := ask_item hx hy hz hr k2 (e0 := e0) (e1 := e1) (e2 := e2) (e3 := e3) (e4 := e4) (e6 := e6) (e7 := e7) (e8 := e8) (e9 := e9) (e10 := e10) (e11 := f11) (e12 := f12) (e13 := f13) (e14 := f14) (e15 := f15)
  obtain ⟨n3, h11, h12, h13, h14, h15, a3, b3⟩ := ask_item hx hy hz hr k3 (e0 := e0) (e1 := e1) (e2 := e2) (e3 := e3) (e4 := e4) (e6 := e6) (e7 := e7) (e8 := e8) (e9 := e9) (e10 := e10) (e11 := g11) (e12 := g12) (e13 := g13) (e14 := g14) (e15 := g15)
  refine ⟨[e0, e1, e2, e3, e4, some (.ref rr), e6, e7, e8, e9, e10, h11, h12, h13, h14, h15], ?_⟩
  rw [forL_cons hc, a1, R.bind_ok, b1, R.bind_ok]
  show forL c _ l1_law [d2, d3] _ st = _
  rw [forL_cons hc, a2, R.bind_ok, b2, R.bind_ok]
  show forL c _ l1_law [d3] _ st = _
  rw [forL_cons hc, a3, R.bind_ok, b3, R.bind_ok]
  show forL c _ l1_law [] _ st = _
  rw [forL_nil hc]
end
theorem true_law (ns : List Int) (o : VL.O) (hl : ns.length ≤ 63) (ho : o = .rl (ns.map VL.D.int) ∨ o = .lst (ns.map VL.D.int)) : ∃ st, f_law [.ref 0] [o] = .ok (.bl true) st := by
  have h0 : listAt [o] 0 = some (ns.map VL.D.int) := by rcases ho with rfl | rfl <;> rfl
  obtain ⟨x, y, z, hx, hy, hz, j0, lq⟩ : ∃ x y z, cellB x = true ∧ cellB y = true ∧ cellB z = true ∧ ∃ j0, q0_law [some (.ref 0), none, none, none, none, none, none, none, none, none, none, none, none, none, none, none] [o] = .ok (.ref 1) ([o] ++ .lst [x, y, z] :: j0) := by
    have rg : rng1D [.int 3] [o] = .ok ([.int 0, .int 1, .int 2], []) [o] := rfl
    obtain ⟨j, e⟩ := lcF_all (st := [o]) (s := [o]) (c := []) (ds := [.int 0, .int 1, .int 2]) (vs := [4]) (gf := nameG 4) (te := callF f__law_number_by (consA (callF f__law_cell_at (consA (varF 0) (consA (varF 4) nilA))) nilA)) (it := itA rng1D (consA (cF (.int 3)) nilA))
      (env := [some (.ref 0), none, none, none, none, none, none, none, none, none, none, none, none, none, none, none]) (fun d => match d with | .int k => nb (ns.getD k.toNat 0) | _ => .non) (by simp -implicitDefEqProofs only [varF_ap, cF_ap, opF_ap, opK_ap, bF_ap, boolK_ap, andT_ap, andK_ap, orT_ap, orK_ap, notT_ap, notK_ap, yesT_ap, andV_ap, andVK_ap, orV_ap, orVK_ap, notV_ap, notVK_ap, ifF_ap, ifFK_ap, nilA_ap, consA_ap, consK_ap, consJ_ap, tupA_ap, tupK_ap, lstA_ap, lstK_ap, newO_ap, dicF_ap, callF_ap, un1_ap, methF_ap, methK_ap, nonO_ap, someO_ap, someK_ap, slF_ap, slK_ap, slJ_ap, itF_ap, itA_ap, nilS_ap, bkS_ap, ctS_ap, seqS_ap, seqK_nx, seqK_rt, seqK_bk, seqK_ct, dropS_ap, dropK_ap, retS_ap, retK_ap, retN_ap, ifS_ap, ifK_ap, setS_ap, setK_ap, asgS_ap, asgK_ap, asgJ_ap, nameG_ap, nilG_ap, consG_ap, consGK_ap, tupG_ap, fnF_ap, fnK_nx, fnK_rt, forS_ap, forK_ap, intD_ap, negD_ap, addI_ap, varK_ap, startE, yes2, isN, List.map_cons, List.map_nil, List.length_cons, List.length_nil, List.replicate, List.append_nil, List.cons_append, List.nil_append, List.getElem?_cons_zero, List.getElem?_cons_succ, List.set_cons_zero, List.set_cons_succ, R.bind_ok, R.bind_ex, R.bind_bad, R.noex_ok, if_true, if_false, Bool.false_eq_true, Bool.true_eq_false, ite_true, ite_false, reduceIte, Nat.reduceAdd, Nat.reduceSub, Nat.zero_add, Nat.sub_self, Nat.sub_zero, decide_true, decide_false, Bool.not_true, Bool.not_false, rg]) chk_nil (by show 3 ≤ sizeLine; decide) fun d hd S hS => by
      have one : ∀ k : Nat, ∃ e j, nameG 4 (.int (k : Int)) (wipeE [some (.ref 0), none, none, none, none, none, none, none, none, none, none, none, none, none, none, none] [4]) S = .ok e S ∧ callF f__law_number_by (consA (callF f__law_cell_at (consA (varF 0) (consA (varF 4) nilA))) nilA) e S = .ok (nb (ns.getD k 0)) (S ++ j) := fun k => by
        have c := cell_at_ok (k := k) (hS.listAt h0)
        have n := number_by_ok (c := ns.getD k 0) (st := S)
        refine ⟨_, [], rfl, ?_⟩
        simp -implicitDefEqProofs only [varF_ap, cF_ap, opF_ap, opK_ap, bF_ap, boolK_ap, andT_ap, andK_ap, orT_ap, orK_ap, notT_ap, notK_ap, yesT_ap, andV_ap, andVK_ap, orV_ap, orVK_ap, notV_ap, notVK_ap, ifF_ap, ifFK_ap, nilA_ap, consA_ap, consK_ap, consJ_ap, tupA_ap, tupK_ap, lstA_ap, lstK_ap, newO_ap, dicF_ap, callF_ap, un1_ap, methF_ap, methK_ap, nonO_ap, someO_ap, someK_ap, slF_ap, slK_ap, slJ_ap, itF_ap, itA_ap, nilS_ap, bkS_ap, ctS_ap, seqS_ap, seqK_nx, seqK_rt, seqK_bk, seqK_ct, dropS_ap, dropK_ap, retS_ap, retK_ap, retN_ap, ifS_ap, ifK_ap, setS_ap, setK_ap, asgS_ap, asgK_ap, asgJ_ap, nameG_ap, nilG_ap, consG_ap, consGK_ap, tupG_ap, fnF_ap, fnK_nx, fnK_rt, forS_ap, forK_ap, intD_ap, negD_ap, addI_ap, varK_ap, startE, yes2, isN, List.map_cons, List.map_nil, List.length_cons, List.length_nil, List.replicate, List.append_nil, List.cons_append, List.nil_append, List.getElem?_cons_zero, List.getElem?_cons_succ, List.set_cons_zero, List.set_cons_succ, R.bind_ok, R.bind_ex, R.bind_bad, R.noex_ok, if_true, if_false, Bool.false_eq_true, Bool.true_eq_false, ite_true, ite_false, reduceIte, Nat.reduceAdd, Nat.reduceSub, Nat.zero_add, Nat.sub_self, Nat.sub_zero, decide_true, decide_false, Bool.not_true, Bool.not_false, wipeE, c, n]
      simp only [List.mem_cons, List.not_mem_nil, or_false] at hd
      rcases hd with rfl | rfl | rfl
      · exact one 0
      · exact one 1
      · exact one 2
    exact ⟨nb (ns.getD 0 0), nb (ns.getD 1 0), nb (ns.getD 2 0), nb_cell _, nb_cell _, nb_cell _, j, e⟩
  obtain ⟨S0, hS0⟩ : ∃ S, S = [o] ++ VL.O.lst [x, y, z] :: j0 := ⟨_, rfl⟩
  have u0 : listAt S0 1 = some [x, y, z] := by rw [hS0]; rfl
  have L0 : Le [o] S0 := by rw [hS0]; exact Le.app _ _
  have hr : listAt (S0 ++ [.lst (rowsT x y z)]) S0.length = some (rowsT x y z) := listAt_last
  obtain ⟨now, j1, q1, k1⟩ := leaf_ok (c := 2) hx hy hz hr
  obtain ⟨kept, j2, q2, k2⟩ := leaf_ok (c := 6) hx hy hz (listAt_app (j := j1) hr)
  have k1' := k1.le (Le.app _ j2) (Nat.le_refl _)
  obtain ⟨asked, j3, q3, k3⟩ := compared_ok' (.inl rfl) hx hy hz k1' k2
  obtain ⟨S1, hS1⟩ : ∃ S, S = S0 ++ [VL.O.lst (rowsT x y z)] ++ j1 ++ j2 ++ j3 := ⟨_, rfl⟩
  rw [← hS1] at q3 k3
  have L1 : Le S0 S1 := by rw [hS1]; exact (((Le.app _ _).trans (Le.app _ _)).trans (Le.app _ _)).trans (Le.app _ _)
  have hr1 : listAt S1 S0.length = some (rowsT x y z) := by rw [hS1]; exact listAt_app (listAt_app (listAt_app hr))
  have k1'' : EC x y z S1 26 now := k1'.le (by rw [hS1]; exact Le.app _ _) (by decide)
  have k2'' : EC x y z S1 26 kept := k2.le (by rw [hS1]; exact Le.app _ _) (by decide)
  have k3'' : ET x y z S1 26 asked := k3.le (Le.refl _) (by decide)
  have sl : slD (.ref 0) (some 3) (some 63) S1 = .ok (.ref S1.length) (S1 ++ [.lst (cutD (ns.map VL.D.int) (some 3) (some 63))]) := slD_list ((L0.trans L1).listAt h0)
  have cut : ∃ ms : List Int, cutD (ns.map VL.D.int) (some 3) (some 63) = ms.map VL.D.int := by
    unfold cutD
    exact ⟨_, by rw [← List.map_drop, ← List.map_take]⟩
  obtain ⟨ms, hms⟩ := cut
  rw [hms] at sl
  obtain ⟨S2, hS2⟩ : ∃ S, S = S1 ++ [VL.O.lst (ms.map VL.D.int)] := ⟨_, rfl⟩
  rw [← hS2] at sl
  have L2' : Le S1 S2 := by rw [hS2]; exact Le.app _ _
  have it : itD (.ref S1.length) S2 = .ok (ms.map VL.D.int, chkAt S2 S1.length) S2 := itD_list (by rw [hS2]; exact listAt_last)
  obtain ⟨e', S3, lp, now', kept', asked', c9, c10, rfl, L3, m1, m2, m3⟩ := forL_inv (c := chkAt S2 S1.length) (gf := nameG 9) (b := l0_law) (ds := ms.map VL.D.int) (env := [some (.ref 0), some x, some y, some z, none, some (.ref S0.length), some now, some kept, some asked, none, none, none, none, none, none, none]) (st := S2)
    (fun _ env S => ∃ now kept asked c9 c10, env = [some (.ref 0), some x, some y, some z, none, some (.ref S0.length), some now, some kept, some asked, c9, c10, none, none, none, none, none] ∧ Le S2 S ∧ EC x y z S 26 now ∧ EC x y z S 26 kept ∧ ET x y z S 26 asked)
    ⟨now, kept, asked, none, none, rfl, Le.refl _, k1''.le L2' (Nat.le_refl _), k2''.le L2' (Nat.le_refl _), k3''.le L2' (Nat.le_refl _)⟩
    (fun i env S ⟨_, _, _, _, _, _, l, _⟩ => chk_at S l) fun i d env S hd ⟨now, kept, asked, c9, c10, he, l, a1, a2, a3⟩ => by
      subst he
      rw [List.getElem?_map] at hd
      obtain ⟨c, _, rfl⟩ := Option.map_eq_some_iff.mp hd
      obtain ⟨n', k', a', b10, S', t, l', m1, m2, m3⟩ := law_turn (c := c) hx hy hz ((L2'.trans l).listAt hr1) a1 a2 a3 (a1 := some x) (a2 := some y) (a3 := some z) (a4 := none) (a10 := c10) (a11 := none) (a12 := none) (a13 := none) (a14 := none) (a15 := none)
      exact ⟨_, _, _, _, rfl, t, n', k', a', _, _, rfl, l.trans l', m1, m2, m3⟩
  obtain ⟨e1, t1, r1, u0', u1, u2, s1, d1, rfl, l1, a1, cu0, cu1, cu2, kk1, i1, i2, i3⟩ := m1.ex
  obtain ⟨e2, t2, r2, v0, v1, v2, s2, d2, rfl, l2, a2, cv0, cv1, cv2, kk2, n1, n2, n3⟩ := m2.ex
  obtain ⟨e3, t3, r3, b0, b1, b2, s3, d3, rfl, l3, a3, kk3, o1, o2, o3⟩ := m3.ex
  have f1 := fun S => kk1 30 S (by omega)
  have f2 := fun S => kk2 30 S (by omega)
  have f3 := fun S => kk3 30 S (by omega)
  obtain ⟨D1, hD1⟩ : ∃ D, D = VL.D.tup [.tup [e1, .ref r1, .int s1, .int (d1 : Nat)], t1] := ⟨_, rfl⟩
  obtain ⟨D2, hD2⟩ : ∃ D, D = VL.D.tup [.tup [e2, .ref r2, .int s2, .int (d2 : Nat)], t2] := ⟨_, rfl⟩
  obtain ⟨D3, hD3⟩ : ∃ D, D = VL.D.tup [.tup [e3, .ref r3, .int s3, .int (d3 : Nat)], t3] := ⟨_, rfl⟩
  have L4 : Le S3 (S3 ++ [VL.O.lst [D1, D2, D3]]) := Le.app _ _
  have g1 : Fin x y z (S3 ++ [VL.O.lst [D1, D2, D3]]) D1 := ⟨_, _, _, _, _, _, _, _, hD1, L4.listAt a1, .inl cu0, .inl cu1, .inl cu2, i1.mono (by omega), i2.mono (by omega), i3.mono (by omega)⟩
  have g2 : Fin x y z (S3 ++ [VL.O.lst [D1, D2, D3]]) D2 := ⟨_, _, _, _, _, _, _, _, hD2, L4.listAt a2, .inl cv0, .inl cv1, .inl cv2, n1.mono (by omega), n2.mono (by omega), n3.mono (by omega)⟩
  have g3 : Fin x y z (S3 ++ [VL.O.lst [D1, D2, D3]]) D3 := ⟨_, _, _, _, _, _, _, _, hD3, L4.listAt a3, .inr ⟨_, rfl⟩, .inr ⟨_, rfl⟩, .inr ⟨_, rfl⟩, o1.mono (by omega), o2.mono (by omega), o3.mono (by omega)⟩
  have it3 : itD (.ref S3.length) (S3 ++ [VL.O.lst [D1, D2, D3]]) = .ok ([D1, D2, D3], chkAt (S3 ++ [VL.O.lst [D1, D2, D3]]) S3.length) (S3 ++ [VL.O.lst [D1, D2, D3]]) := itD_list listAt_last
  obtain ⟨e', fin⟩ := ask_all hx hy hz (((L2'.trans L3).trans L4).listAt hr1) g1 g2 g3 (c := chkAt (S3 ++ [VL.O.lst [D1, D2, D3]]) S3.length) (chk_at _ (Le.refl _)) (e0 := some (.ref 0)) (e1 := some x) (e2 := some y) (e3 := some z) (e4 := none) (e6 := some (.tup [e1, .ref r1, .int s1, .int (d1 : Nat)])) (e7 := some (.tup [e2, .ref r2, .int s2, .int (d2 : Nat)])) (e8 := some (.tup [e3, .ref r3, .int s3, .int (d3 : Nat)])) (e9 := c9) (e10 := c10) (e11 := none) (e12 := none) (e13 := none) (e14 := none) (e15 := none)
  refine ⟨S3 ++ [VL.O.lst [D1, D2, D3]], ?_⟩
  have un : unlG 3 (consG (nameG 1) (consG (nameG 2) (consG (nameG 3) nilG))) (.ref 1) [some (.ref 0), none, none, none, none, none, none, none, none, none, none, none, none, none, none, none] S0 = .ok [some (.ref 0), some x, some y, some z, none, none, none, none, none, none, none, none, none, none, none, none] S0 := by
    unfold unlG
    simp only [u0]
    rfl
  have hW : rowsT x y z = [.tup [x, y, z], .tup [y, z, x], .tup [.non, x, y]] := rfl
  rw [← hS0] at lq
  rw [hW] at q1 q2 q3
  subst hD1 hD2 hD3
  simp -implicitDefEqProofs +decide only [varF_ap, cF_ap, opF_ap, opK_ap, bF_ap, boolK_ap, andT_ap, andK_ap, orT_ap, orK_ap, notT_ap, notK_ap, yesT_ap, andV_ap, andVK_ap, orV_ap, orVK_ap, notV_ap, notVK_ap, ifF_ap, ifFK_ap, nilA_ap, consA_ap, consK_ap, consJ_ap, tupA_ap, lstA_ap, newO_ap, dicF_ap, callF_ap, un1_ap, methF_ap, nonO_ap, someO_ap, someK_ap, slF_ap, slK_ap, slJ_ap, itF_ap, itA_ap, nilS_ap, bkS_ap, ctS_ap, seqS_ap, seqK_nx, seqK_rt, seqK_bk, seqK_ct, dropS_ap, dropK_ap, retS_ap, retK_ap, retN_ap, ifS_ap, ifK_ap, setS_ap, setK_ap, asgS_ap, asgK_ap, asgJ_ap, nameG_ap, nilG_ap, consG_ap, consGK_ap, fnF_ap, fnK_nx, fnK_rt, forS_ap, forK_ap, negD_ap, addI_ap, varK_ap, startE, yes2, isN, List.map_cons, List.map_nil, List.length_cons, List.length_nil, List.replicate, List.append_nil, List.cons_append, List.nil_append, List.getElem?_cons_zero, List.getElem?_cons_succ, List.set_cons_zero, List.set_cons_succ, R.bind_ok, R.bind_ex, R.bind_bad, R.noex_ok, if_true, if_false, Bool.false_eq_true, Bool.true_eq_false, ite_true, ite_false, reduceIte, Nat.reduceAdd, Nat.reduceSub, Nat.zero_add, Nat.sub_self, Nat.sub_zero, decide_true, decide_false, Bool.not_true, Bool.not_false, subD_ap, ltD_ap, leD_ap, gtD_ap, geD_ap, mulD_ap, modD_ap, divD_ap, powD_ap, tupK_ok, lstK_ok, methK_ok, tupG_ok, eqS_t, eqS_f, neS_t, neS_f, eqI_ap, neI_ap, inT_nil, inT_hit, inT_miss, ne_eq, not_false_eq_true, f_law, b_law, lq, un, sz (by decide : 2 ≤ 100), sz (by decide : 3 ≤ 100), q1, q2, q3, sl, it, lp, jx0, f1, f2, f3, it3, fin]
end Law

namespace Law
open PySem PySem.Spec PyProof.Rows L2 VL RZ RT LamX NdefX
def topS (i : Nat) : Stmt := PySem.Challenge.pw_viewkeep_k09_columns_within.main.body.getD i (.Pass ⟨0, 0, 0, 0⟩)
abbrev s_earlier : Stmt := topS 1
theorem sc_earlier : FnScope ["one", "other"] ["one", "other"] (defScope s_earlier) := ⟨rfl, rfl, rfl, by decide +kernel, rfl, by decide +kernel, by decide +kernel⟩
abbrev s_always_told : Stmt := topS 4
theorem sc_always_told : FnScope ["cell", "tell"] ["cell"] (defScope s_always_told) := ⟨rfl, rfl, rfl, by decide +kernel, rfl, by decide +kernel, by decide +kernel⟩
abbrev s_at_place : Stmt := topS 5
theorem sc_at_place : FnScope ["place", "tell"] ["place"] (defScope s_at_place) := ⟨rfl, rfl, rfl, by decide +kernel, rfl, by decide +kernel, by decide +kernel⟩
abbrev s_deed_plus : Stmt := topS 6
theorem sc_deed_plus : FnScope ["one", "other"] ["one", "other"] (defScope s_deed_plus) := ⟨rfl, rfl, rfl, by decide +kernel, rfl, by decide +kernel, by decide +kernel⟩
abbrev s_deed_minus : Stmt := topS 7
theorem sc_deed_minus : FnScope ["one", "other"] ["one", "other"] (defScope s_deed_minus) := ⟨rfl, rfl, rfl, by decide +kernel, rfl, by decide +kernel, by decide +kernel⟩
abbrev s_deed_times : Stmt := topS 8
theorem sc_deed_times : FnScope ["one", "other"] ["one", "other"] (defScope s_deed_times) := ⟨rfl, rfl, rfl, by decide +kernel, rfl, by decide +kernel, by decide +kernel⟩
abbrev s_deed_part : Stmt := topS 9
theorem sc_deed_part : FnScope ["one", "other"] ["one", "other"] (defScope s_deed_part) := ⟨rfl, rfl, rfl, by decide +kernel, rfl, by decide +kernel, by decide +kernel⟩
abbrev s_deed_rest : Stmt := topS 10
theorem sc_deed_rest : FnScope ["one", "other"] ["one", "other"] (defScope s_deed_rest) := ⟨rfl, rfl, rfl, by decide +kernel, rfl, by decide +kernel, by decide +kernel⟩
abbrev s_reckoned_by : Stmt := topS 11
theorem sc_reckoned_by : FnScope ["deed", "first", "second", "tell"] ["deed", "first", "second"] (defScope s_reckoned_by) := ⟨rfl, rfl, rfl, by decide +kernel, rfl, by decide +kernel, by decide +kernel⟩
abbrev s_chosen_by : Stmt := topS 12
theorem sc_chosen_by : FnScope ["asked", "first", "second", "tell"] ["asked", "first", "second"] (defScope s_chosen_by) := ⟨rfl, rfl, rfl, by decide +kernel, rfl, by decide +kernel, by decide +kernel⟩
abbrev s_compared_by : Stmt := topS 14
theorem sc_compared_by : FnScope ["word", "first", "second", "tell"] ["word", "first", "second"] (defScope s_compared_by) := ⟨rfl, rfl, rfl, by decide +kernel, rfl, by decide +kernel, by decide +kernel⟩
abbrev s__law_cell_at : Stmt := topS 17
theorem sc__law_cell_at : FnScope ["_law_script", "_law_k"] ["_law_script", "_law_k"] (defScope s__law_cell_at) := ⟨rfl, rfl, rfl, by decide +kernel, rfl, by decide +kernel, by decide +kernel⟩
abbrev s__law_whole : Stmt := topS 18
theorem sc__law_whole : FnScope ["_law_found"] ["_law_found"] (defScope s__law_whole) := ⟨rfl, rfl, rfl, by decide +kernel, rfl, by decide +kernel, by decide +kernel⟩
abbrev s__law_number_by : Stmt := topS 19
theorem sc__law_number_by : FnScope ["_law_cell", "_law_number"] ["_law_cell"] (defScope s__law_number_by) := ⟨rfl, rfl, rfl, by decide +kernel, rfl, by decide +kernel, by decide +kernel⟩
abbrev s__law_comes : Stmt := topS 20
theorem sc__law_comes : FnScope ["_law_one", "_law_other"] ["_law_one", "_law_other"] (defScope s__law_comes) := ⟨rfl, rfl, rfl, by decide +kernel, rfl, by decide +kernel, by decide +kernel⟩
abbrev s__law_made : Stmt := topS 22
theorem sc__law_made : FnScope ["_law_word", "_law_by", "_law_one", "_law_other"] ["_law_word", "_law_by", "_law_one", "_law_other"] (defScope s__law_made) := ⟨rfl, rfl, rfl, by decide +kernel, rfl, by decide +kernel, by decide +kernel⟩
abbrev s_before : Stmt := topS 2
theorem sc_before : FnScope ["one", "other", "here", "there"] ["one", "other"] (defScope s_before) := ⟨rfl, rfl, rfl, by decide +kernel, rfl, by decide +kernel, by decide +kernel⟩
abbrev s__law_leaf : Stmt := topS 21
theorem sc__law_leaf : FnScope ["_law_cell", "_law_rows", "_law_place", "_law_row", "_law_number"] ["_law_cell", "_law_rows"] (defScope s__law_leaf) := ⟨rfl, rfl, rfl, by decide +kernel, rfl, by decide +kernel, by decide +kernel⟩
abbrev s__law_column : Stmt := topS 23
theorem sc__law_column : FnScope ["_law_cell", "_law_now", "_law_kept", "_law_asked", "_law_word", "_law_by", "_law_values", "_law_so", "_law_a", "_law_b", "_law_found"] ["_law_cell", "_law_now", "_law_kept", "_law_asked"] (defScope s__law_column) := ⟨rfl, rfl, rfl, by decide +kernel, rfl, by decide +kernel, by decide +kernel⟩
abbrev s__law_compared : Stmt := topS 24
theorem sc__law_compared : FnScope ["_law_word", "_law_now", "_law_kept", "_law_truths", "_law_a", "_law_b"] ["_law_word", "_law_now", "_law_kept"] (defScope s__law_compared) := ⟨rfl, rfl, rfl, by decide +kernel, rfl, by decide +kernel, by decide +kernel⟩
abbrev s__law_fits : Stmt := topS 26
theorem sc__law_fits : FnScope ["_law_found", "_law_due"] ["_law_found", "_law_due"] (defScope s__law_fits) := ⟨rfl, rfl, rfl, by decide +kernel, rfl, by decide +kernel, by decide +kernel⟩
abbrev s__law_test : Stmt := topS 25
theorem sc__law_test : FnScope ["_law_cell", "_law_now", "_law_kept", "_law_asked", "_law_so", "_law_beside", "_law_truths", "_law_a", "_law_b", "_law_word"] ["_law_cell", "_law_now", "_law_kept", "_law_asked"] (defScope s__law_test) := ⟨rfl, rfl, rfl, by decide +kernel, rfl, by decide +kernel, by decide +kernel⟩
abbrev s_column : Stmt := topS 13
theorem sc_column : FnScope ["expr", "word"] ["expr"] (defScope s_column) := ⟨rfl, rfl, rfl, by decide +kernel, rfl, by decide +kernel, by decide +kernel⟩
abbrev s_test : Stmt := topS 15
theorem sc_test : FnScope ["expr", "word", "first", "second"] ["expr"] (defScope s_test) := ⟨rfl, rfl, rfl, by decide +kernel, rfl, by decide +kernel, by decide +kernel⟩
abbrev s_law : Stmt := topS 27
theorem sc_law : FnScope ["_law_script", "_law_x", "_law_y", "_law_z", "_law_k", "_law_rows", "_law_now", "_law_kept", "_law_asked", "_law_cell", "_law_number", "_law_made_here", "_law_tell", "_law_turn", "_law_row", "_law_due"] ["_law_script"] (defScope s_law) := ⟨rfl, rfl, rfl, by decide +kernel, rfl, by decide +kernel, by decide +kernel⟩
def S_0 : NFS := ⟨"tell", "always_told.<locals>.tell", defArgs (atB (defBody s_always_told) 0), defBody (atB (defBody s_always_told) 0), none, defScope (atB (defBody s_always_told) 0), ["row"], ["cell"], ["row", "cell"]⟩
theorem sc_c0 : NScope S_0.N S_0.ps S_0.fr S_0.scope := nscope_by (by decide +kernel)
def S_1 : NFS := ⟨"tell", "at_place.<locals>.tell", defArgs (atB (defBody s_at_place) 0), defBody (atB (defBody s_at_place) 0), none, defScope (atB (defBody s_at_place) 0), ["row"], ["place"], ["row", "place"]⟩
theorem sc_c1 : NScope S_1.N S_1.ps S_1.fr S_1.scope := nscope_by (by decide +kernel)
def S_2 : NFS := ⟨"tell", "reckoned_by.<locals>.tell", defArgs (atB (defBody s_reckoned_by) 0), defBody (atB (defBody s_reckoned_by) 0), none, defScope (atB (defBody s_reckoned_by) 0), ["row"], ["deed", "first", "second"], ["row", "deed", "first", "second", "one", "other"]⟩
theorem sc_c2 : NScope S_2.N S_2.ps S_2.fr S_2.scope := nscope_by (by decide +kernel)
def S_3 : NFS := ⟨"tell", "chosen_by.<locals>.tell", defArgs (atB (defBody s_chosen_by) 0), defBody (atB (defBody s_chosen_by) 0), none, defScope (atB (defBody s_chosen_by) 0), ["row"], ["asked", "first", "second"], ["row", "asked", "first", "second"]⟩
theorem sc_c3 : NScope S_3.N S_3.ps S_3.fr S_3.scope := nscope_by (by decide +kernel)
def S_4 : NFS := ⟨"tell", "compared_by.<locals>.tell", defArgs (atB (defBody s_compared_by) 0), defBody (atB (defBody s_compared_by) 0), none, defScope (atB (defBody s_compared_by) 0), ["row"], ["word", "first", "second"], ["row", "word", "first", "second", "one", "other"]⟩
theorem sc_c4 : NScope S_4.N S_4.ps S_4.fr S_4.scope := nscope_by (by decide +kernel)
def S_5 : NFS := ⟨"<lambda>", "test.<locals>.<lambda>", lamP (retE (atB (thenB (atB (defBody s_test) 3)) 0)), [], some (lamE (retE (atB (thenB (atB (defBody s_test) 3)) 0))), lamS (retE (atB (thenB (atB (defBody s_test) 3)) 0)), ["row"], ["first"], ["row", "first"]⟩
theorem sc_c5 : NScope S_5.N S_5.ps S_5.fr S_5.scope := nscope_by (by decide +kernel)
def S_6 : NFS := ⟨"<lambda>", "test.<locals>.<lambda>", lamP (retE (atB (thenB (atB (defBody s_test) 5)) 0)), [], some (lamE (retE (atB (thenB (atB (defBody s_test) 5)) 0))), lamS (retE (atB (thenB (atB (defBody s_test) 5)) 0)), ["row"], ["first", "second"], ["row", "first", "second"]⟩
theorem sc_c6 : NScope S_6.N S_6.ps S_6.fr S_6.scope := nscope_by (by decide +kernel)
def S_7 : NFS := ⟨"<lambda>", "test.<locals>.<lambda>", lamP (retE (atB (defBody s_test) 6)), [], some (lamE (retE (atB (defBody s_test) 6))), lamS (retE (atB (defBody s_test) 6)), ["row"], ["first", "second"], ["row", "first", "second"]⟩
theorem sc_c7 : NScope S_7.N S_7.ps S_7.fr S_7.scope := nscope_by (by decide +kernel)
def nfs : Nat → Option NFS
  | 0 => some S_0
  | 1 => some S_1
  | 2 => some S_2
  | 3 => some S_3
  | 4 => some S_4
  | 5 => some S_5
  | 6 => some S_6
  | 7 => some S_7
  | _ => none
/-! ### the defs as they stand -/
structure Tx (K : PySem.W.Frag) (mg : Str → Option Value) (Ts : List (Addr × Str)) (cs : List (Addr × Addr)) where
  a_earlier : Addr
  d_earlier : FuncData
  F_earlier : Fun K "earlier" "earlier" s_earlier a_earlier d_earlier
  g_earlier : mg "earlier" = some (.ref a_earlier)
  b_earlier : Binds K d_earlier ["one", "other"] []
  a_always_told : Addr
  d_always_told : FuncData
  F_always_told : Fun K "always_told" "always_told" s_always_told a_always_told d_always_told
  g_always_told : mg "always_told" = some (.ref a_always_told)
  b_always_told : Binds K d_always_told ["cell"] []
  a_at_place : Addr
  d_at_place : FuncData
  F_at_place : Fun K "at_place" "at_place" s_at_place a_at_place d_at_place
  g_at_place : mg "at_place" = some (.ref a_at_place)
  b_at_place : Binds K d_at_place ["place"] []
  a_deed_plus : Addr
  d_deed_plus : FuncData
  F_deed_plus : Fun K "deed_plus" "deed_plus" s_deed_plus a_deed_plus d_deed_plus
  g_deed_plus : mg "deed_plus" = some (.ref a_deed_plus)
  b_deed_plus : Binds K d_deed_plus ["one", "other"] []
  a_deed_minus : Addr
  d_deed_minus : FuncData
  F_deed_minus : Fun K "deed_minus" "deed_minus" s_deed_minus a_deed_minus d_deed_minus
  g_deed_minus : mg "deed_minus" = some (.ref a_deed_minus)
  b_deed_minus : Binds K d_deed_minus ["one", "other"] []
  a_deed_times : Addr
  d_deed_times : FuncData
  F_deed_times : Fun K "deed_times" "deed_times" s_deed_times a_deed_times d_deed_times
  g_deed_times : mg "deed_times" = some (.ref a_deed_times)
  b_deed_times : Binds K d_deed_times ["one", "other"] []
  a_deed_part : Addr
  d_deed_part : FuncData
  F_deed_part : Fun K "deed_part" "deed_part" s_deed_part a_deed_part d_deed_part
  g_deed_part : mg "deed_part" = some (.ref a_deed_part)
  b_deed_part : Binds K d_deed_part ["one", "other"] []
  a_deed_rest : Addr
  d_deed_rest : FuncData
  F_deed_rest : Fun K "deed_rest" "deed_rest" s_deed_rest a_deed_rest d_deed_rest
  g_deed_rest : mg "deed_rest" = some (.ref a_deed_rest)
  b_deed_rest : Binds K d_deed_rest ["one", "other"] []
  a_reckoned_by : Addr
  d_reckoned_by : FuncData
  F_reckoned_by : Fun K "reckoned_by" "reckoned_by" s_reckoned_by a_reckoned_by d_reckoned_by
  g_reckoned_by : mg "reckoned_by" = some (.ref a_reckoned_by)
  b_reckoned_by : Binds K d_reckoned_by ["deed", "first", "second"] []
  a_chosen_by : Addr
  d_chosen_by : FuncData
  F_chosen_by : Fun K "chosen_by" "chosen_by" s_chosen_by a_chosen_by d_chosen_by
  g_chosen_by : mg "chosen_by" = some (.ref a_chosen_by)
  b_chosen_by : Binds K d_chosen_by ["asked", "first", "second"] []
  a_compared_by : Addr
  d_compared_by : FuncData
  F_compared_by : Fun K "compared_by" "compared_by" s_compared_by a_compared_by d_compared_by
  g_compared_by : mg "compared_by" = some (.ref a_compared_by)
  b_compared_by : Binds K d_compared_by ["word", "first", "second"] []
  a__law_cell_at : Addr
  d__law_cell_at : FuncData
  F__law_cell_at : Fun K "_law_cell_at" "_law_cell_at" s__law_cell_at a__law_cell_at d__law_cell_at
  g__law_cell_at : mg "_law_cell_at" = some (.ref a__law_cell_at)
  b__law_cell_at : Binds K d__law_cell_at ["_law_script", "_law_k"] []
  a__law_whole : Addr
  d__law_whole : FuncData
  F__law_whole : Fun K "_law_whole" "_law_whole" s__law_whole a__law_whole d__law_whole
  g__law_whole : mg "_law_whole" = some (.ref a__law_whole)
  b__law_whole : Binds K d__law_whole ["_law_found"] []
  a__law_number_by : Addr
  d__law_number_by : FuncData
  F__law_number_by : Fun K "_law_number_by" "_law_number_by" s__law_number_by a__law_number_by d__law_number_by
  g__law_number_by : mg "_law_number_by" = some (.ref a__law_number_by)
  b__law_number_by : Binds K d__law_number_by ["_law_cell"] []
  a__law_comes : Addr
  d__law_comes : FuncData
  F__law_comes : Fun K "_law_comes" "_law_comes" s__law_comes a__law_comes d__law_comes
  g__law_comes : mg "_law_comes" = some (.ref a__law_comes)
  b__law_comes : Binds K d__law_comes ["_law_one", "_law_other"] []
  a__law_made : Addr
  d__law_made : FuncData
  F__law_made : Fun K "_law_made" "_law_made" s__law_made a__law_made d__law_made
  g__law_made : mg "_law_made" = some (.ref a__law_made)
  b__law_made : Binds K d__law_made ["_law_word", "_law_by", "_law_one", "_law_other"] []
  a_before : Addr
  d_before : FuncData
  F_before : Fun K "before" "before" s_before a_before d_before
  g_before : mg "before" = some (.ref a_before)
  b_before : Binds K d_before ["one", "other"] []
  a__law_leaf : Addr
  d__law_leaf : FuncData
  F__law_leaf : Fun K "_law_leaf" "_law_leaf" s__law_leaf a__law_leaf d__law_leaf
  g__law_leaf : mg "_law_leaf" = some (.ref a__law_leaf)
  b__law_leaf : Binds K d__law_leaf ["_law_cell", "_law_rows"] []
  a__law_column : Addr
  d__law_column : FuncData
  F__law_column : Fun K "_law_column" "_law_column" s__law_column a__law_column d__law_column
  g__law_column : mg "_law_column" = some (.ref a__law_column)
  b__law_column : Binds K d__law_column ["_law_cell", "_law_now", "_law_kept", "_law_asked"] []
  a__law_compared : Addr
  d__law_compared : FuncData
  F__law_compared : Fun K "_law_compared" "_law_compared" s__law_compared a__law_compared d__law_compared
  g__law_compared : mg "_law_compared" = some (.ref a__law_compared)
  b__law_compared : Binds K d__law_compared ["_law_word", "_law_now", "_law_kept"] []
  a__law_fits : Addr
  d__law_fits : FuncData
  F__law_fits : Fun K "_law_fits" "_law_fits" s__law_fits a__law_fits d__law_fits
  g__law_fits : mg "_law_fits" = some (.ref a__law_fits)
  b__law_fits : Binds K d__law_fits ["_law_found", "_law_due"] []
  a__law_test : Addr
  d__law_test : FuncData
  F__law_test : Fun K "_law_test" "_law_test" s__law_test a__law_test d__law_test
  g__law_test : mg "_law_test" = some (.ref a__law_test)
  b__law_test : Binds K d__law_test ["_law_cell", "_law_now", "_law_kept", "_law_asked"] []
  a_column : Addr
  d_column : FuncData
  F_column : Fun K "column" "column" s_column a_column d_column
  g_column : mg "column" = some (.ref a_column)
  b_column : Binds K d_column ["expr"] []
  a_test : Addr
  d_test : FuncData
  F_test : Fun K "test" "test" s_test a_test d_test
  g_test : mg "test" = some (.ref a_test)
  b_test : Binds K d_test ["expr"] []
  a_law : Addr
  d_law : FuncData
  F_law : Fun K "law" "law" s_law a_law d_law
  g_law : mg "law" = some (.ref a_law)
  b_law : Binds K d_law ["_law_script"] []
  c_always_told : Addr
  P_always_told : Addr
  cc_always_told : d_always_told.code = .ref c_always_told
  m_always_told : (c_always_told, P_always_told) ∈ cs
  tq_always_told : (P_always_told, ("always_told.<locals>.tell" : Str)) ∈ Ts ∧ ∀ p ∈ Ts, p.1 = P_always_told → p.2 = "always_told.<locals>.tell"
  c_at_place : Addr
  P_at_place : Addr
  cc_at_place : d_at_place.code = .ref c_at_place
  m_at_place : (c_at_place, P_at_place) ∈ cs
  tq_at_place : (P_at_place, ("at_place.<locals>.tell" : Str)) ∈ Ts ∧ ∀ p ∈ Ts, p.1 = P_at_place → p.2 = "at_place.<locals>.tell"
  c_reckoned_by : Addr
  P_reckoned_by : Addr
  cc_reckoned_by : d_reckoned_by.code = .ref c_reckoned_by
  m_reckoned_by : (c_reckoned_by, P_reckoned_by) ∈ cs
  tq_reckoned_by : (P_reckoned_by, ("reckoned_by.<locals>.tell" : Str)) ∈ Ts ∧ ∀ p ∈ Ts, p.1 = P_reckoned_by → p.2 = "reckoned_by.<locals>.tell"
  c_chosen_by : Addr
  P_chosen_by : Addr
  cc_chosen_by : d_chosen_by.code = .ref c_chosen_by
  m_chosen_by : (c_chosen_by, P_chosen_by) ∈ cs
  tq_chosen_by : (P_chosen_by, ("chosen_by.<locals>.tell" : Str)) ∈ Ts ∧ ∀ p ∈ Ts, p.1 = P_chosen_by → p.2 = "chosen_by.<locals>.tell"
  c_compared_by : Addr
  P_compared_by : Addr
  cc_compared_by : d_compared_by.code = .ref c_compared_by
  m_compared_by : (c_compared_by, P_compared_by) ∈ cs
  tq_compared_by : (P_compared_by, ("compared_by.<locals>.tell" : Str)) ∈ Ts ∧ ∀ p ∈ Ts, p.1 = P_compared_by → p.2 = "compared_by.<locals>.tell"
  c_test : Addr
  P_test : Addr
  cc_test : d_test.code = .ref c_test
  m_test : (c_test, P_test) ∈ cs
  tq_test : (P_test, ("test.<locals>.<lambda>" : Str)) ∈ Ts ∧ ∀ p ∈ Ts, p.1 = P_test → p.2 = "test.<locals>.<lambda>"
  z_bool : mg "bool" = none
  z_int : mg "int" = none
  z_isinstance : mg "isinstance" = none
  z_len : mg "len" = none
  z_max : mg "max" = none
  z_range : mg "range" = none
  z_zip : mg "zip" = none
section
variable {P : Program} {w : World} {K : PySem.W.Frag} {mg : Str → Option Value} {base : Heap} {Ts : List (Addr × Str)} {cs : List (Addr × Addr)}
theorem ok_earlier (T : Tx K mg Ts cs) (TB : ∀ p ∈ cs, TabB base mg p.1 p.2) : FnOk P w K mg base CX0 (1) T.a_earlier T.d_earlier ["one", "other"] (Sp0 ⟨P, w, K, mg, ⟨Ts, nfs⟩⟩ 2 f_earlier) := by
  refine fn0 T.F_earlier sc_earlier rfl rfl fun cdv A outer s H E hr => ?_
  exact (lss_cons (ls_if (PW.pt (lw_or (lt_cmp op_isND (le_var (pv 0)) le_non (nomark _)) (lw_or1 (lt_cmp op_isND (le_var (pv 1)) le_non (nomark _))))) (lss_one (ls_ret (le_cmp op_notND (le_var (pv 1)) le_non (nomark _)))) lss_nil)
    (lss_one (ls_ret (le_cmp op_ltD (le_var (pv 0)) (le_var (pv 1)) (nomark _)))))
theorem ok_always_told (T : Tx K mg Ts cs) (TB : ∀ p ∈ cs, TabB base mg p.1 p.2) : FnOk P w K mg base CX0 (1) T.a_always_told T.d_always_told ["cell"] (Sp0 ⟨P, w, K, mg, ⟨Ts, nfs⟩⟩ 1 f_always_told) := by
  refine fnM (B := ⟨Ts, nfs⟩) T.F_always_told sc_always_told rfl rfl T.cc_always_told fun A outer s H E hr => ?_
  exact (pm_ndef (B := ⟨Ts, nfs⟩) (S := S_0) (k := 0) (i := 1) (js := [0]) (x := "tell") ⟨TB _ T.m_always_told, T.tq_always_told.1, T.tq_always_told.2⟩ rfl rfl rfl rfl (show S_0.qual = ("always_told" : Str) ++ ".<locals>." ++ "tell" from by decide) (show CapsOk (defScope s_always_told) S_0 from caps_by (by decide +kernel)) rfl rfl rfl (by rfl) sc_always_told.nd rfl (by first | exact Or.inl rfl | exact Or.inr rfl) (Or.inl rfl) (by decide))
theorem ok_at_place (T : Tx K mg Ts cs) (TB : ∀ p ∈ cs, TabB base mg p.1 p.2) : FnOk P w K mg base CX0 (1) T.a_at_place T.d_at_place ["place"] (Sp0 ⟨P, w, K, mg, ⟨Ts, nfs⟩⟩ 1 f_at_place) := by
  refine fnM (B := ⟨Ts, nfs⟩) T.F_at_place sc_at_place rfl rfl T.cc_at_place fun A outer s H E hr => ?_
  exact (pm_ndef (B := ⟨Ts, nfs⟩) (S := S_1) (k := 1) (i := 1) (js := [0]) (x := "tell") ⟨TB _ T.m_at_place, T.tq_at_place.1, T.tq_at_place.2⟩ rfl rfl rfl rfl (show S_1.qual = ("at_place" : Str) ++ ".<locals>." ++ "tell" from by decide) (show CapsOk (defScope s_at_place) S_1 from caps_by (by decide +kernel)) rfl rfl rfl (by rfl) sc_at_place.nd rfl (by first | exact Or.inl rfl | exact Or.inr rfl) (Or.inl rfl) (by decide))
theorem ok_deed_plus (T : Tx K mg Ts cs) (TB : ∀ p ∈ cs, TabB base mg p.1 p.2) : FnOk P w K mg base CX0 (1) T.a_deed_plus T.d_deed_plus ["one", "other"] (Sp0 ⟨P, w, K, mg, ⟨Ts, nfs⟩⟩ 2 f_deed_plus) := by
  refine fn0 T.F_deed_plus sc_deed_plus rfl rfl fun cdv A outer s H E hr => ?_
  exact (lss_one (ls_ret (le_op op_addD (le_var (pv 0)) (le_var (pv 1)))))
theorem ok_deed_minus (T : Tx K mg Ts cs) (TB : ∀ p ∈ cs, TabB base mg p.1 p.2) : FnOk P w K mg base CX0 (1) T.a_deed_minus T.d_deed_minus ["one", "other"] (Sp0 ⟨P, w, K, mg, ⟨Ts, nfs⟩⟩ 2 f_deed_minus) := by
  refine fn0 T.F_deed_minus sc_deed_minus rfl rfl fun cdv A outer s H E hr => ?_
  exact (lss_one (ls_ret (le_op op_subD (le_var (pv 0)) (le_var (pv 1)))))
theorem ok_deed_times (T : Tx K mg Ts cs) (TB : ∀ p ∈ cs, TabB base mg p.1 p.2) : FnOk P w K mg base CX0 (1) T.a_deed_times T.d_deed_times ["one", "other"] (Sp0 ⟨P, w, K, mg, ⟨Ts, nfs⟩⟩ 2 f_deed_times) := by
  refine fn0 T.F_deed_times sc_deed_times rfl rfl fun cdv A outer s H E hr => ?_
  exact (lss_one (ls_ret (le_op op_mulD (le_var (pv 0)) (le_var (pv 1)))))
theorem ok_deed_part (T : Tx K mg Ts cs) (TB : ∀ p ∈ cs, TabB base mg p.1 p.2) : FnOk P w K mg base CX0 (1) T.a_deed_part T.d_deed_part ["one", "other"] (Sp0 ⟨P, w, K, mg, ⟨Ts, nfs⟩⟩ 2 f_deed_part) := by
  refine fn0 T.F_deed_part sc_deed_part rfl rfl fun cdv A outer s H E hr => ?_
  exact (lss_one (ls_ret (le_op op_divD (le_var (pv 0)) (le_var (pv 1)))))
theorem ok_deed_rest (T : Tx K mg Ts cs) (TB : ∀ p ∈ cs, TabB base mg p.1 p.2) : FnOk P w K mg base CX0 (1) T.a_deed_rest T.d_deed_rest ["one", "other"] (Sp0 ⟨P, w, K, mg, ⟨Ts, nfs⟩⟩ 2 f_deed_rest) := by
  refine fn0 T.F_deed_rest sc_deed_rest rfl rfl fun cdv A outer s H E hr => ?_
  exact (lss_one (ls_ret (le_op op_modD (le_var (pv 0)) (le_var (pv 1)))))
theorem ok_reckoned_by (T : Tx K mg Ts cs) (TB : ∀ p ∈ cs, TabB base mg p.1 p.2) : FnOk P w K mg base CX0 (1) T.a_reckoned_by T.d_reckoned_by ["deed", "first", "second"] (Sp0 ⟨P, w, K, mg, ⟨Ts, nfs⟩⟩ 3 f_reckoned_by) := by
  refine fnM (B := ⟨Ts, nfs⟩) T.F_reckoned_by sc_reckoned_by rfl rfl T.cc_reckoned_by fun A outer s H E hr => ?_
  exact (pm_ndef (B := ⟨Ts, nfs⟩) (S := S_2) (k := 2) (i := 3) (js := [0, 1, 2]) (x := "tell") ⟨TB _ T.m_reckoned_by, T.tq_reckoned_by.1, T.tq_reckoned_by.2⟩ rfl rfl rfl rfl (show S_2.qual = ("reckoned_by" : Str) ++ ".<locals>." ++ "tell" from by decide) (show CapsOk (defScope s_reckoned_by) S_2 from caps_by (by decide +kernel)) rfl rfl rfl (by rfl) sc_reckoned_by.nd rfl (by first | exact Or.inl rfl | exact Or.inr rfl) (Or.inl rfl) (by decide))
theorem ok_chosen_by (T : Tx K mg Ts cs) (TB : ∀ p ∈ cs, TabB base mg p.1 p.2) : FnOk P w K mg base CX0 (1) T.a_chosen_by T.d_chosen_by ["asked", "first", "second"] (Sp0 ⟨P, w, K, mg, ⟨Ts, nfs⟩⟩ 3 f_chosen_by) := by
  refine fnM (B := ⟨Ts, nfs⟩) T.F_chosen_by sc_chosen_by rfl rfl T.cc_chosen_by fun A outer s H E hr => ?_
  exact (pm_ndef (B := ⟨Ts, nfs⟩) (S := S_3) (k := 3) (i := 3) (js := [0, 1, 2]) (x := "tell") ⟨TB _ T.m_chosen_by, T.tq_chosen_by.1, T.tq_chosen_by.2⟩ rfl rfl rfl rfl (show S_3.qual = ("chosen_by" : Str) ++ ".<locals>." ++ "tell" from by decide) (show CapsOk (defScope s_chosen_by) S_3 from caps_by (by decide +kernel)) rfl rfl rfl (by rfl) sc_chosen_by.nd rfl (by first | exact Or.inl rfl | exact Or.inr rfl) (Or.inl rfl) (by decide))
theorem ok_compared_by (T : Tx K mg Ts cs) (TB : ∀ p ∈ cs, TabB base mg p.1 p.2) : FnOk P w K mg base CX0 (1) T.a_compared_by T.d_compared_by ["word", "first", "second"] (Sp0 ⟨P, w, K, mg, ⟨Ts, nfs⟩⟩ 3 f_compared_by) := by
  refine fnM (B := ⟨Ts, nfs⟩) T.F_compared_by sc_compared_by rfl rfl T.cc_compared_by fun A outer s H E hr => ?_
  exact (pm_ndef (B := ⟨Ts, nfs⟩) (S := S_4) (k := 4) (i := 3) (js := [0, 1, 2]) (x := "tell") ⟨TB _ T.m_compared_by, T.tq_compared_by.1, T.tq_compared_by.2⟩ rfl rfl rfl rfl (show S_4.qual = ("compared_by" : Str) ++ ".<locals>." ++ "tell" from by decide) (show CapsOk (defScope s_compared_by) S_4 from caps_by (by decide +kernel)) rfl rfl rfl (by rfl) sc_compared_by.nd rfl (by first | exact Or.inl rfl | exact Or.inr rfl) (Or.inl rfl) (by decide))
theorem ok__law_cell_at (T : Tx K mg Ts cs) (TB : ∀ p ∈ cs, TabB base mg p.1 p.2) : FnOk P w K mg base CX0 (1) T.a__law_cell_at T.d__law_cell_at ["_law_script", "_law_k"] (Sp0 ⟨P, w, K, mg, ⟨Ts, nfs⟩⟩ 2 f__law_cell_at) := by
  refine fn0 T.F__law_cell_at sc__law_cell_at rfl rfl fun cdv A outer s H E hr => ?_
  exact (lss_cons (ls_if (lt_cmp op_ltD (le_var (pv 1)) (le_callB call_lenD (by rfl) T.z_len (by decide +kernel) (la_cons (le_var (pv 0)) la_nil)) (nomark _)) (lss_one (ls_ret (le_ix ix_D (le_var (pv 0)) (le_var (pv 1)) (fun _ _ => rfl)))) lss_nil)
    (lss_one (ls_ret le_int)))
theorem ok__law_whole (T : Tx K mg Ts cs) (TB : ∀ p ∈ cs, TabB base mg p.1 p.2) : FnOk P w K mg base CX0 (1) T.a__law_whole T.d__law_whole ["_law_found"] (Sp0 ⟨P, w, K, mg, ⟨Ts, nfs⟩⟩ 1 f__law_whole) := by
  refine fn0 T.F__law_whole sc__law_whole rfl rfl fun cdv A outer s H E hr => ?_
  exact (lss_one (ls_ret (le_and (le_callB call_isiD (by rfl) T.z_isinstance (by decide +kernel) (la_cons (le_var (pv 0)) (la_cons (le_ty (by rfl) T.z_int (by decide +kernel)) la_nil))) (le_and1 (le_not (le_callB call_isiD (by rfl) T.z_isinstance (by decide +kernel) (la_cons (le_var (pv 0)) (la_cons (le_ty (by rfl) T.z_bool (by decide +kernel)) la_nil))))))))
theorem ok__law_number_by (T : Tx K mg Ts cs) (TB : ∀ p ∈ cs, TabB base mg p.1 p.2) : FnOk P w K mg base CX0 (1) T.a__law_number_by T.d__law_number_by ["_law_cell"] (Sp0 ⟨P, w, K, mg, ⟨Ts, nfs⟩⟩ 1 f__law_number_by) := by
  refine fn0 T.F__law_number_by sc__law_number_by rfl rfl fun cdv A outer s H E hr => ?_
  exact (lss_cons (ls_set (i := 1) sc__law_number_by.nd (le_op op_divD (le_var (pv 0)) le_int))
    (lss_cons (ls_if (lt_cmp (op_eqDD hr.units) (le_op op_modD (le_var (pv 0)) le_int) le_int (nomark _)) (lss_one (ls_ret le_non)) lss_nil)
    (lss_cons (ls_if (lt_cmp (op_eqDD hr.units) (le_op op_modD (le_var (pv 0)) le_int) le_int (nomark _)) (lss_one (ls_ret (le_op op_subD (le_op op_modD (le_var (pv 1)) le_int) le_int))) lss_nil)
    (lss_one (ls_ret (le_op op_addD (le_op op_subD (le_op op_modD (le_var (pv 1)) (le_op op_subD (le_op op_mulD le_int (le_op op_powD le_int le_int)) le_int)) (le_op op_powD le_int le_int)) le_int))))))
theorem ok__law_comes (T : Tx K mg Ts cs) (TB : ∀ p ∈ cs, TabB base mg p.1 p.2) : FnOk P w K mg base CX0 (1) T.a__law_comes T.d__law_comes ["_law_one", "_law_other"] (Sp0 ⟨P, w, K, mg, ⟨Ts, nfs⟩⟩ 2 f__law_comes) := by
  refine fn0 T.F__law_comes sc__law_comes rfl rfl fun cdv A outer s H E hr => ?_
  exact (lss_cons (ls_if (PW.pt (lw_or (lt_cmp op_isND (le_var (pv 0)) le_non (nomark _)) (lw_or1 (lt_cmp op_isND (le_var (pv 1)) le_non (nomark _))))) (lss_one (ls_ret (le_cmp op_notND (le_var (pv 1)) le_non (nomark _)))) lss_nil)
    (lss_one (ls_ret (le_cmp op_ltD (le_var (pv 0)) (le_var (pv 1)) (nomark _)))))
theorem ok__law_made (T : Tx K mg Ts cs) (TB : ∀ p ∈ cs, TabB base mg p.1 p.2) : FnOk P w K mg base CX0 (1) T.a__law_made T.d__law_made ["_law_word", "_law_by", "_law_one", "_law_other"] (Sp0 ⟨P, w, K, mg, ⟨Ts, nfs⟩⟩ 4 f__law_made) := by
  refine fn0 T.F__law_made sc__law_made rfl rfl fun cdv A outer s H E hr => ?_
  exact (lss_cons (ls_if (PW.pt (lw_or (lt_cmp op_isND (le_var (pv 2)) le_non (nomark _)) (lw_or1 (PW.pt (lw_and (lt_cmp op_inD (le_var (pv 0)) (le_tup (la_cons le_str (la_cons le_str la_nil))) (by rfl)) (lw_and1 (lt_cmp op_isND (le_var (pv 3)) le_non (nomark _)))))))) (lss_one (ls_ret le_non)) lss_nil)
    (lss_cons (ls_if (lt_cmp (op_eqDD hr.units) (le_var (pv 0)) le_str (nomark _)) (lss_one (ls_ret (le_op op_addD (le_var (pv 2)) (le_var (pv 3))))) lss_nil)
    (lss_cons (ls_if (lt_cmp (op_eqDD hr.units) (le_var (pv 0)) le_str (nomark _)) (lss_one (ls_ret (le_op op_subD (le_var (pv 2)) (le_var (pv 3))))) lss_nil)
    (lss_cons (ls_if (lt_cmp (op_eqDD hr.units) (le_var (pv 0)) le_str (nomark _)) (lss_one (ls_ret (le_op op_mulD (le_var (pv 1)) (le_var (pv 2))))) lss_nil)
    (lss_one (ls_ret (le_ix ix_D (le_lst (la_cons (le_op op_divD (le_var (pv 2)) (le_callB (call_maxD rfl) (by rfl) T.z_max (by decide +kernel) (la_cons (le_var (pv 1)) (la_cons le_int la_nil)))) (la_cons (le_op op_modD (le_var (pv 2)) (le_callB (call_maxD rfl) (by rfl) T.z_max (by decide +kernel) (la_cons (le_var (pv 1)) (la_cons le_int la_nil)))) la_nil))) (le_callTy call_int1D (by rfl) T.z_int (by decide +kernel) (la_cons (le_cmp (op_eqDD hr.units) (le_var (pv 0)) le_str (nomark _)) la_nil)) (fun _ _ => rfl))))))))
theorem ok_before (T : Tx K mg Ts cs) (TB : ∀ p ∈ cs, TabB base mg p.1 p.2) : FnOk P w K mg base CX0 (2) T.a_before T.d_before ["one", "other"] (Sp0 ⟨P, w, K, mg, ⟨Ts, nfs⟩⟩ 2 f_before) := by
  refine fn0 T.F_before sc_before rfl rfl fun cdv A outer s H E hr => ?_
  exact (lss_cons (ls_for PassesOwn.never rfl (li_zip (pi_zipA (by rfl) T.z_zip (la_cons (le_var (pv 0)) (la_cons (le_var (pv 1)) la_nil)))) (lg_tup rfl (lgs_cons (lg_name (pg_name (i := 2) sc_before.nd rfl (by first | exact Or.inl rfl | exact Or.inr rfl))) (lgs_cons (lg_name (pg_name (i := 3) sc_before.nd rfl (by first | exact Or.inl rfl | exact Or.inr rfl))) lgs_nil))) (lss_one (ls_if (lt_cmp (op_neDD hr.units) (le_var (pv 2)) (le_var (pv 3)) (nomark _)) (lss_one (ls_ret (le_call0 (ok_earlier T TB) (hr.mono (by omega)) T.g_earlier T.F_earlier.kp T.b_earlier (la_cons (le_var (pv 2)) (la_cons (le_var (pv 3)) la_nil)) (len_cons (len_cons (fun _ _ _ _ h => len_nil h)))))) lss_nil)))
    (lss_one (ls_ret le_bl)))
theorem okG_1 (T : Tx K mg Ts cs) (TB : ∀ p ∈ cs, TabB base mg p.1 p.2) (k : Nat) (hk : 2 ≤ k) : ∀ y fn, gt_1 y = some fn → ∃ a fd ps, mg y = some (.ref a) ∧ FnOk P w K mg base CX0 k a fd ps (Sp0 ⟨P, w, K, mg, ⟨Ts, nfs⟩⟩ 1 fn) ∧ PySem.W.keepIn K (.ref a) = true ∧ L2.Binds K fd ps [] := by
  intro y fn h
  unfold gt_1 at h
  cases h
theorem okG_2 (T : Tx K mg Ts cs) (TB : ∀ p ∈ cs, TabB base mg p.1 p.2) (k : Nat) (hk : 2 ≤ k) : ∀ y fn, gt_2 y = some fn → ∃ a fd ps, mg y = some (.ref a) ∧ FnOk P w K mg base CX0 k a fd ps (Sp0 ⟨P, w, K, mg, ⟨Ts, nfs⟩⟩ 2 fn) ∧ PySem.W.keepIn K (.ref a) = true ∧ L2.Binds K fd ps [] := by
  intro y fn h
  unfold gt_2 at h
  split at h
  · rename_i e
    subst e
    cases h
    exact ⟨_, _, _, T.g_deed_plus, (ok_deed_plus T TB).mono (by omega), T.F_deed_plus.kp, T.b_deed_plus⟩
  split at h
  · rename_i e
    subst e
    cases h
    exact ⟨_, _, _, T.g_deed_minus, (ok_deed_minus T TB).mono (by omega), T.F_deed_minus.kp, T.b_deed_minus⟩
  split at h
  · rename_i e
    subst e
    cases h
    exact ⟨_, _, _, T.g_deed_times, (ok_deed_times T TB).mono (by omega), T.F_deed_times.kp, T.b_deed_times⟩
  split at h
  · rename_i e
    subst e
    cases h
    exact ⟨_, _, _, T.g_deed_part, (ok_deed_part T TB).mono (by omega), T.F_deed_part.kp, T.b_deed_part⟩
  split at h
  · rename_i e
    subst e
    cases h
    exact ⟨_, _, _, T.g_deed_rest, (ok_deed_rest T TB).mono (by omega), T.F_deed_rest.kp, T.b_deed_rest⟩
  cases h
theorem okc_0 (T : Tx K mg Ts cs) (TB : ∀ p ∈ cs, TabB base mg p.1 p.2) (d : Nat) (r : Nat → Option CFn) (ih : ∀ kk c, r kk = some c → ∃ S, nfs kk = some S ∧ S.ps.length = 1 ∧ CloOk ⟨P, w, K, mg, ⟨Ts, nfs⟩⟩ base (2 + d) S c) : CloOk ⟨P, w, K, mg, ⟨Ts, nfs⟩⟩ base (2 + d + 1) S_0 (c_0 r) := by
  refine clo_of (S := S_0) (k := 2 + d) rfl sc_c0 (fun _ _ _ _ _ us hl => match us, hl with | [_], _ => rfl) fun A outer s H E f cl cd hr => ?_
  exact (lss_one (ls_ret (le_var (pv 1))))
theorem okc_1 (T : Tx K mg Ts cs) (TB : ∀ p ∈ cs, TabB base mg p.1 p.2) (d : Nat) (r : Nat → Option CFn) (ih : ∀ kk c, r kk = some c → ∃ S, nfs kk = some S ∧ S.ps.length = 1 ∧ CloOk ⟨P, w, K, mg, ⟨Ts, nfs⟩⟩ base (2 + d) S c) : CloOk ⟨P, w, K, mg, ⟨Ts, nfs⟩⟩ base (2 + d + 1) S_1 (c_1 r) := by
  refine clo_of (S := S_1) (k := 2 + d) rfl sc_c1 (fun _ _ _ _ _ us hl => match us, hl with | [_], _ => rfl) fun A outer s H E f cl cd hr => ?_
  exact (lss_one (ls_ret (le_ix ix_D (le_var (pv 0)) (le_var (pv 1)) (fun _ _ => rfl))))
theorem okc_2 (T : Tx K mg Ts cs) (TB : ∀ p ∈ cs, TabB base mg p.1 p.2) (d : Nat) (r : Nat → Option CFn) (ih : ∀ kk c, r kk = some c → ∃ S, nfs kk = some S ∧ S.ps.length = 1 ∧ CloOk ⟨P, w, K, mg, ⟨Ts, nfs⟩⟩ base (2 + d) S c) : CloOk ⟨P, w, K, mg, ⟨Ts, nfs⟩⟩ base (2 + d + 1) S_2 (c_2 r) := by
  refine clo_of (S := S_2) (k := 2 + d) rfl sc_c2 (fun _ _ _ _ _ us hl => match us, hl with | [_], _ => rfl) fun A outer s H E f cl cd hr => ?_
  exact (lss_cons (ls_set (i := 4) sc_c2.nd (le_callV (B := ⟨Ts, nfs⟩) (k := (2 + d)) ih (okG_1 T TB (2 + d) (by omega)) (hr.mono (by omega)) rfl (by first | exact .inl rfl | exact .inr (.inl rfl) | exact .inr (.inr rfl)) (la_cons (le_var (pv 0)) la_nil) (len_cons (fun _ _ _ _ h => len_nil h))))
    (lss_cons (ls_set (i := 5) sc_c2.nd (le_callV (B := ⟨Ts, nfs⟩) (k := (2 + d)) ih (okG_1 T TB (2 + d) (by omega)) (hr.mono (by omega)) rfl (by first | exact .inl rfl | exact .inr (.inl rfl) | exact .inr (.inr rfl)) (la_cons (le_var (pv 0)) la_nil) (len_cons (fun _ _ _ _ h => len_nil h))))
    (lss_cons (ls_if (PW.pt (lw_or (lt_cmp op_isND (le_var (pv 4)) le_non (nomark _)) (lw_or1 (lt_cmp op_isND (le_var (pv 5)) le_non (nomark _))))) (lss_one (ls_ret le_non)) lss_nil)
    (lss_one (ls_ret (le_callV (B := ⟨Ts, nfs⟩) (k := (2 + d)) (fun _ _ h => nomatch h) (okG_2 T TB (2 + d) (by omega)) (hr.mono (by omega)) rfl (by first | exact .inl rfl | exact .inr (.inl rfl) | exact .inr (.inr rfl)) (la_cons (le_var (pv 4)) (la_cons (le_var (pv 5)) la_nil)) (len_cons (len_cons (fun _ _ _ _ h => len_nil h)))))))))
theorem okc_3 (T : Tx K mg Ts cs) (TB : ∀ p ∈ cs, TabB base mg p.1 p.2) (d : Nat) (r : Nat → Option CFn) (ih : ∀ kk c, r kk = some c → ∃ S, nfs kk = some S ∧ S.ps.length = 1 ∧ CloOk ⟨P, w, K, mg, ⟨Ts, nfs⟩⟩ base (2 + d) S c) : CloOk ⟨P, w, K, mg, ⟨Ts, nfs⟩⟩ base (2 + d + 1) S_3 (c_3 r) := by
  refine clo_of (S := S_3) (k := 2 + d) rfl sc_c3 (fun _ _ _ _ _ us hl => match us, hl with | [_], _ => rfl) fun A outer s H E f cl cd hr => ?_
  exact (lss_cons (ls_if (lt_val (le_callV (B := ⟨Ts, nfs⟩) (k := (2 + d)) ih (okG_1 T TB (2 + d) (by omega)) (hr.mono (by omega)) rfl (by first | exact .inl rfl | exact .inr (.inl rfl) | exact .inr (.inr rfl)) (la_cons (le_var (pv 0)) la_nil) (len_cons (fun _ _ _ _ h => len_nil h)))) (lss_one (ls_ret (le_callV (B := ⟨Ts, nfs⟩) (k := (2 + d)) ih (okG_1 T TB (2 + d) (by omega)) (hr.mono (by omega)) rfl (by first | exact .inl rfl | exact .inr (.inl rfl) | exact .inr (.inr rfl)) (la_cons (le_var (pv 0)) la_nil) (len_cons (fun _ _ _ _ h => len_nil h))))) lss_nil)
    (lss_one (ls_ret (le_callV (B := ⟨Ts, nfs⟩) (k := (2 + d)) ih (okG_1 T TB (2 + d) (by omega)) (hr.mono (by omega)) rfl (by first | exact .inl rfl | exact .inr (.inl rfl) | exact .inr (.inr rfl)) (la_cons (le_var (pv 0)) la_nil) (len_cons (fun _ _ _ _ h => len_nil h))))))
theorem okc_4 (T : Tx K mg Ts cs) (TB : ∀ p ∈ cs, TabB base mg p.1 p.2) (d : Nat) (r : Nat → Option CFn) (ih : ∀ kk c, r kk = some c → ∃ S, nfs kk = some S ∧ S.ps.length = 1 ∧ CloOk ⟨P, w, K, mg, ⟨Ts, nfs⟩⟩ base (2 + d) S c) : CloOk ⟨P, w, K, mg, ⟨Ts, nfs⟩⟩ base (2 + d + 1) S_4 (c_4 r) := by
  refine clo_of (S := S_4) (k := 2 + d) rfl sc_c4 (fun _ _ _ _ _ us hl => match us, hl with | [_], _ => rfl) fun A outer s H E f cl cd hr => ?_
  exact (lss_cons (ls_set (i := 4) sc_c4.nd (le_callV (B := ⟨Ts, nfs⟩) (k := (2 + d)) ih (okG_1 T TB (2 + d) (by omega)) (hr.mono (by omega)) rfl (by first | exact .inl rfl | exact .inr (.inl rfl) | exact .inr (.inr rfl)) (la_cons (le_var (pv 0)) la_nil) (len_cons (fun _ _ _ _ h => len_nil h))))
    (lss_cons (ls_set (i := 5) sc_c4.nd (le_callV (B := ⟨Ts, nfs⟩) (k := (2 + d)) ih (okG_1 T TB (2 + d) (by omega)) (hr.mono (by omega)) rfl (by first | exact .inl rfl | exact .inr (.inl rfl) | exact .inr (.inr rfl)) (la_cons (le_var (pv 0)) la_nil) (len_cons (fun _ _ _ _ h => len_nil h))))
    (lss_cons (ls_if (lt_cmp (op_eqDD hr.units) (le_var (pv 1)) le_str (nomark _)) (lss_one (ls_ret (le_cmp (op_eqDD hr.units) (le_var (pv 4)) (le_var (pv 5)) (nomark _)))) lss_nil)
    (lss_one (ls_ret (le_call0 (ok_before T TB) (hr.mono (by omega)) T.g_before T.F_before.kp T.b_before (la_cons (le_tup (la_cons (le_var (pv 4)) la_nil)) (la_cons (le_tup (la_cons (le_var (pv 5)) la_nil)) la_nil)) (len_cons (len_cons (fun _ _ _ _ h => len_nil h)))))))))
theorem okc_5 (T : Tx K mg Ts cs) (TB : ∀ p ∈ cs, TabB base mg p.1 p.2) (d : Nat) (r : Nat → Option CFn) (ih : ∀ kk c, r kk = some c → ∃ S, nfs kk = some S ∧ S.ps.length = 1 ∧ CloOk ⟨P, w, K, mg, ⟨Ts, nfs⟩⟩ base (2 + d) S c) : CloOk ⟨P, w, K, mg, ⟨Ts, nfs⟩⟩ base (2 + d + 1) S_5 (c_5 r) := by
  refine clo_lam (S := S_5) (k := 2 + d) rfl sc_c5 (fun _ _ _ _ us hl => match us, hl with | [_], _ => rfl) fun A outer s H E f cl cd hr => ?_
  exact (le_not (le_callV (B := ⟨Ts, nfs⟩) (k := (2 + d)) ih (okG_1 T TB (2 + d) (by omega)) (hr.mono (by omega)) rfl (by first | exact .inl rfl | exact .inr (.inl rfl) | exact .inr (.inr rfl)) (la_cons (le_var (pv 0)) la_nil) (len_cons (fun _ _ _ _ h => len_nil h))))
theorem okc_6 (T : Tx K mg Ts cs) (TB : ∀ p ∈ cs, TabB base mg p.1 p.2) (d : Nat) (r : Nat → Option CFn) (ih : ∀ kk c, r kk = some c → ∃ S, nfs kk = some S ∧ S.ps.length = 1 ∧ CloOk ⟨P, w, K, mg, ⟨Ts, nfs⟩⟩ base (2 + d) S c) : CloOk ⟨P, w, K, mg, ⟨Ts, nfs⟩⟩ base (2 + d + 1) S_6 (c_6 r) := by
  refine clo_lam (S := S_6) (k := 2 + d) rfl sc_c6 (fun _ _ _ _ us hl => match us, hl with | [_], _ => rfl) fun A outer s H E f cl cd hr => ?_
  exact (le_and (le_callV (B := ⟨Ts, nfs⟩) (k := (2 + d)) ih (okG_1 T TB (2 + d) (by omega)) (hr.mono (by omega)) rfl (by first | exact .inl rfl | exact .inr (.inl rfl) | exact .inr (.inr rfl)) (la_cons (le_var (pv 0)) la_nil) (len_cons (fun _ _ _ _ h => len_nil h))) (le_and1 (le_callV (B := ⟨Ts, nfs⟩) (k := (2 + d)) ih (okG_1 T TB (2 + d) (by omega)) (hr.mono (by omega)) rfl (by first | exact .inl rfl | exact .inr (.inl rfl) | exact .inr (.inr rfl)) (la_cons (le_var (pv 0)) la_nil) (len_cons (fun _ _ _ _ h => len_nil h)))))
theorem okc_7 (T : Tx K mg Ts cs) (TB : ∀ p ∈ cs, TabB base mg p.1 p.2) (d : Nat) (r : Nat → Option CFn) (ih : ∀ kk c, r kk = some c → ∃ S, nfs kk = some S ∧ S.ps.length = 1 ∧ CloOk ⟨P, w, K, mg, ⟨Ts, nfs⟩⟩ base (2 + d) S c) : CloOk ⟨P, w, K, mg, ⟨Ts, nfs⟩⟩ base (2 + d + 1) S_7 (c_7 r) := by
  refine clo_lam (S := S_7) (k := 2 + d) rfl sc_c7 (fun _ _ _ _ us hl => match us, hl with | [_], _ => rfl) fun A outer s H E f cl cd hr => ?_
  exact (le_or (le_callV (B := ⟨Ts, nfs⟩) (k := (2 + d)) ih (okG_1 T TB (2 + d) (by omega)) (hr.mono (by omega)) rfl (by first | exact .inl rfl | exact .inr (.inl rfl) | exact .inr (.inr rfl)) (la_cons (le_var (pv 0)) la_nil) (len_cons (fun _ _ _ _ h => len_nil h))) (le_and1 (le_callV (B := ⟨Ts, nfs⟩) (k := (2 + d)) ih (okG_1 T TB (2 + d) (by omega)) (hr.mono (by omega)) rfl (by first | exact .inl rfl | exact .inr (.inl rfl) | exact .inr (.inr rfl)) (la_cons (le_var (pv 0)) la_nil) (len_cons (fun _ _ _ _ h => len_nil h)))))
theorem okC (T : Tx K mg Ts cs) (TB : ∀ p ∈ cs, TabB base mg p.1 p.2) : ∀ (d : Nat) (kk : Nat) (c : CFn), tabN d kk = some c → ∃ S, nfs kk = some S ∧ S.ps.length = 1 ∧ CloOk ⟨P, w, K, mg, ⟨Ts, nfs⟩⟩ base (2 + d) S c
  | 0, kk, c, h => by cases h
  | d + 1, 0, c, h => by
    obtain rfl : c_0 (tabN d) = c := Option.some.inj h
    exact ⟨S_0, rfl, rfl, okc_0 T TB d (tabN d) (okC T TB d)⟩
  | d + 1, 1, c, h => by
    obtain rfl : c_1 (tabN d) = c := Option.some.inj h
    exact ⟨S_1, rfl, rfl, okc_1 T TB d (tabN d) (okC T TB d)⟩
  | d + 1, 2, c, h => by
    obtain rfl : c_2 (tabN d) = c := Option.some.inj h
    exact ⟨S_2, rfl, rfl, okc_2 T TB d (tabN d) (okC T TB d)⟩
  | d + 1, 3, c, h => by
    obtain rfl : c_3 (tabN d) = c := Option.some.inj h
    exact ⟨S_3, rfl, rfl, okc_3 T TB d (tabN d) (okC T TB d)⟩
  | d + 1, 4, c, h => by
    obtain rfl : c_4 (tabN d) = c := Option.some.inj h
    exact ⟨S_4, rfl, rfl, okc_4 T TB d (tabN d) (okC T TB d)⟩
  | d + 1, 5, c, h => by
    obtain rfl : c_5 (tabN d) = c := Option.some.inj h
    exact ⟨S_5, rfl, rfl, okc_5 T TB d (tabN d) (okC T TB d)⟩
  | d + 1, 6, c, h => by
    obtain rfl : c_6 (tabN d) = c := Option.some.inj h
    exact ⟨S_6, rfl, rfl, okc_6 T TB d (tabN d) (okC T TB d)⟩
  | d + 1, 7, c, h => by
    obtain rfl : c_7 (tabN d) = c := Option.some.inj h
    exact ⟨S_7, rfl, rfl, okc_7 T TB d (tabN d) (okC T TB d)⟩
  | d + 1, n + 8, c, h => by cases h
theorem ok__law_leaf (T : Tx K mg Ts cs) (TB : ∀ p ∈ cs, TabB base mg p.1 p.2) : FnOk P w K mg base CX0 (2) T.a__law_leaf T.d__law_leaf ["_law_cell", "_law_rows"] (Sp0 ⟨P, w, K, mg, ⟨Ts, nfs⟩⟩ 2 f__law_leaf) := by
  refine fn0 T.F__law_leaf sc__law_leaf rfl rfl fun cdv A outer s H E hr => ?_
  exact (lss_cons (ls_set (i := 2) sc__law_leaf.nd (le_op op_modD (le_op op_divD (le_var (pv 0)) le_int) le_int))
    (lss_cons (ls_if (lt_cmp op_gtD (le_op op_modD (le_var (pv 0)) le_int) le_int (nomark _)) (lss_one (ls_ret (le_tup (la_cons (le_tup (la_cons le_str (la_cons (le_var (pv 2)) la_nil))) (la_cons (le_lc (own := [("_law_row", 3)]) rfl sc__law_leaf.nd (li_seq (le_var (pv 1))) (blkOk_by (own := [("_law_row", 3)]) (N := ["_law_cell", "_law_rows", "_law_place", "_law_row", "_law_number"]) (sc := defScope s__law_leaf) (by decide +kernel)) (fun _ _ _ _ _ => (lgw_name (pg_name (i := 3) sc__law_leaf.nd rfl (by first | exact Or.inl rfl | exact Or.inr rfl)) (by decide))) (fun _ _ _ _ _ => lts_nil) (fun _ _ _ _ _ => (le_ix ix_D (le_var (pv 3)) (le_var (pv 2)) (fun _ _ => rfl)))) (la_cons le_int (la_cons le_int la_nil))))))) lss_nil)
    (lss_cons (ls_set (i := 4) sc__law_leaf.nd (le_call0 (ok__law_number_by T TB) (hr.mono (by omega)) T.g__law_number_by T.F__law_number_by.kp T.b__law_number_by (la_cons (le_op op_addD le_int (le_op op_modD (le_op op_divD (le_var (pv 0)) le_int) (le_op op_powD le_int le_int))) la_nil) (len_cons (fun _ _ _ _ h => len_nil h))))
    (lss_cons (ls_if (PW.pt (lw_or (lt_cmp (op_eqDD hr.units) (le_op op_modD (le_var (pv 0)) le_int) le_int (nomark _)) (lw_or1 (lt_cmp op_isND (le_var (pv 4)) le_non (nomark _))))) (lss_one (ls_ret (le_tup (la_cons (le_tup (la_cons le_str la_nil)) (la_cons (le_op op_repD (le_lst (la_cons le_non la_nil)) le_int) (la_cons le_int (la_cons le_int la_nil))))))) lss_nil)
    (lss_one (ls_ret (le_tup (la_cons (le_tup (la_cons le_str (la_cons (le_var (pv 4)) la_nil))) (la_cons (le_op op_repD (le_lst (la_cons (le_var (pv 4)) la_nil)) le_int) (la_cons le_int (la_cons le_int la_nil)))))))))))
theorem ok__law_column (T : Tx K mg Ts cs) (TB : ∀ p ∈ cs, TabB base mg p.1 p.2) : FnOk P w K mg base CX0 (2) T.a__law_column T.d__law_column ["_law_cell", "_law_now", "_law_kept", "_law_asked"] (Sp0 ⟨P, w, K, mg, ⟨Ts, nfs⟩⟩ 4 f__law_column) := by
  refine fn0 T.F__law_column sc__law_column rfl rfl fun cdv A outer s H E hr => ?_
  exact (lss_cons (ls_set (i := 4) sc__law_column.nd (le_ix ix_D (le_lst (la_cons le_str (la_cons le_str (la_cons le_str (la_cons le_str (la_cons le_str (la_cons le_str la_nil))))))) (le_op op_modD (le_var (pv 0)) le_int) (fun _ _ => rfl)))
    (lss_cons (ls_set (i := 5) sc__law_column.nd (le_op op_subD (le_op op_modD (le_op op_divD (le_var (pv 0)) le_int) le_int) le_int))
    (lss_cons (ls_if (lt_cmp (op_eqDD hr.units) (le_var (pv 4)) le_str (nomark _)) (lss_cons (ls_setLc (i := 6) (own := [("_law_so", 7), ("_law_a", 8), ("_law_b", 9)]) rfl sc__law_column.nd (sw_true rfl rfl rfl (by decide +kernel)) (li_zip3 (pi_zip3 (by rfl) T.z_zip (la_cons (le_ix ix_D (le_var (pv 3)) le_int (fun _ _ => rfl)) (la_cons (le_ix ix_D (le_var (pv 1)) le_int (fun _ _ => rfl)) (la_cons (le_ix ix_D (le_var (pv 2)) le_int (fun _ _ => rfl)) la_nil))))) (blkOk_by (own := [("_law_so", 7), ("_law_a", 8), ("_law_b", 9)]) (N := ["_law_cell", "_law_now", "_law_kept", "_law_asked", "_law_word", "_law_by", "_law_values", "_law_so", "_law_a", "_law_b", "_law_found"]) (sc := defScope s__law_column) (by decide +kernel)) (fun _ _ _ _ _ => (lgw_tup rfl (lgws_cons (lgw_name (pg_name (i := 7) sc__law_column.nd rfl (by first | exact Or.inl rfl | exact Or.inr rfl)) (by decide)) (lgws_cons (lgw_name (pg_name (i := 8) sc__law_column.nd rfl (by first | exact Or.inl rfl | exact Or.inr rfl)) (by decide)) (lgws_cons (lgw_name (pg_name (i := 9) sc__law_column.nd rfl (by first | exact Or.inl rfl | exact Or.inr rfl)) (by decide)) lgws_nil))))) (fun _ _ _ _ _ => lts_nil) (fun _ _ _ _ _ => (le_ix ix_D (le_lst (la_cons (le_var (pv 9)) (la_cons (le_var (pv 8)) la_nil))) (le_callTy call_int1D (by rfl) T.z_int (by decide +kernel) (la_cons (le_var (pv 7)) la_nil)) (fun _ _ => rfl))))
    (lss_cons (ls_set (i := 10) sc__law_column.nd (le_tup (la_cons (le_var (pv 4)) (la_cons (le_ix ix_D (le_var (pv 3)) le_int (fun _ _ => rfl)) (la_cons (le_ix ix_D (le_var (pv 1)) le_int (fun _ _ => rfl)) (la_cons (le_ix ix_D (le_var (pv 2)) le_int (fun _ _ => rfl)) la_nil))))))
    (lss_one (ls_ret (le_tup (la_cons (le_var (pv 10)) (la_cons (le_var (pv 6)) (la_cons (le_op op_addD (le_op op_addD (le_op op_addD le_int (le_ix ix_D (le_var (pv 3)) le_int (fun _ _ => rfl))) (le_ix ix_D (le_var (pv 1)) le_int (fun _ _ => rfl))) (le_ix ix_D (le_var (pv 2)) le_int (fun _ _ => rfl))) (la_cons (le_op op_addD le_int (le_callB (call_max3D rfl) (by rfl) T.z_max (by decide +kernel) (la_cons (le_ix ix_D (le_var (pv 3)) le_int (fun _ _ => rfl)) (la_cons (le_ix ix_D (le_var (pv 1)) le_int (fun _ _ => rfl)) (la_cons (le_ix ix_D (le_var (pv 2)) le_int (fun _ _ => rfl)) la_nil))))) la_nil))))))))) lss_nil)
    (lss_cons (ls_if (PW.pt (lw_or (lt_cmp (op_eqDD hr.units) (le_var (pv 4)) le_str (nomark _)) (lw_or1 (lt_cmp (op_eqDD hr.units) (le_var (pv 4)) le_str (nomark _))))) (lss_cons (ls_setLc (i := 6) (own := [("_law_a", 8), ("_law_b", 9)]) rfl sc__law_column.nd (sw_true rfl rfl rfl (by decide +kernel)) (li_zip (pi_zipA (by rfl) T.z_zip (la_cons (le_ix ix_D (le_var (pv 1)) le_int (fun _ _ => rfl)) (la_cons (le_ix ix_D (le_var (pv 2)) le_int (fun _ _ => rfl)) la_nil)))) (blkOk_by (own := [("_law_a", 8), ("_law_b", 9)]) (N := ["_law_cell", "_law_now", "_law_kept", "_law_asked", "_law_word", "_law_by", "_law_values", "_law_so", "_law_a", "_law_b", "_law_found"]) (sc := defScope s__law_column) (by decide +kernel)) (fun _ _ _ _ _ => (lgw_tup rfl (lgws_cons (lgw_name (pg_name (i := 8) sc__law_column.nd rfl (by first | exact Or.inl rfl | exact Or.inr rfl)) (by decide)) (lgws_cons (lgw_name (pg_name (i := 9) sc__law_column.nd rfl (by first | exact Or.inl rfl | exact Or.inr rfl)) (by decide)) lgws_nil)))) (fun _ _ _ _ _ => lts_nil) (fun _ _ _ _ _ => (le_call0 (ok__law_made T TB) (hr.mono (by omega)) T.g__law_made T.F__law_made.kp T.b__law_made (la_cons (le_var (pv 4)) (la_cons le_int (la_cons (le_var (pv 8)) (la_cons (le_var (pv 9)) la_nil)))) (len_cons (len_cons (len_cons (len_cons (fun _ _ _ _ h => len_nil h))))))))
    (lss_one (ls_ret (le_tup (la_cons (le_tup (la_cons (le_var (pv 4)) (la_cons (le_ix ix_D (le_var (pv 1)) le_int (fun _ _ => rfl)) (la_cons (le_ix ix_D (le_var (pv 2)) le_int (fun _ _ => rfl)) la_nil)))) (la_cons (le_var (pv 6)) (la_cons (le_op op_addD (le_op op_addD le_int (le_ix ix_D (le_var (pv 1)) le_int (fun _ _ => rfl))) (le_ix ix_D (le_var (pv 2)) le_int (fun _ _ => rfl))) (la_cons (le_op op_addD le_int (le_callB (call_maxD rfl) (by rfl) T.z_max (by decide +kernel) (la_cons (le_ix ix_D (le_var (pv 1)) le_int (fun _ _ => rfl)) (la_cons (le_ix ix_D (le_var (pv 2)) le_int (fun _ _ => rfl)) la_nil)))) la_nil)))))))) lss_nil)
    (lss_cons (ls_if (lt_cmp (op_neDD hr.units) (le_var (pv 4)) le_str (nomark _)) (lss_one (ls_set (i := 5) sc__law_column.nd (le_op op_addD le_int (le_op op_modD (le_op op_divD (le_var (pv 0)) le_int) (le_ix ix_D (le_lst (la_cons le_int (la_cons le_int la_nil))) (le_op op_modD (le_op op_divD (le_var (pv 0)) le_int) le_int) (fun _ _ => rfl)))))) lss_nil)
    (lss_cons (ls_setLc (i := 6) (own := [("_law_a", 8)]) rfl sc__law_column.nd (sw_true rfl rfl rfl (by decide +kernel)) (li_seq (le_ix ix_D (le_var (pv 1)) le_int (fun _ _ => rfl))) (blkOk_by (own := [("_law_a", 8)]) (N := ["_law_cell", "_law_now", "_law_kept", "_law_asked", "_law_word", "_law_by", "_law_values", "_law_so", "_law_a", "_law_b", "_law_found"]) (sc := defScope s__law_column) (by decide +kernel)) (fun _ _ _ _ _ => (lgw_name (pg_name (i := 8) sc__law_column.nd rfl (by first | exact Or.inl rfl | exact Or.inr rfl)) (by decide))) (fun _ _ _ _ _ => lts_nil) (fun _ _ _ _ _ => (le_call0 (ok__law_made T TB) (hr.mono (by omega)) T.g__law_made T.F__law_made.kp T.b__law_made (la_cons (le_var (pv 4)) (la_cons (le_var (pv 5)) (la_cons (le_var (pv 8)) (la_cons le_int la_nil)))) (len_cons (len_cons (len_cons (len_cons (fun _ _ _ _ h => len_nil h))))))))
    (lss_one (ls_ret (le_tup (la_cons (le_tup (la_cons (le_var (pv 4)) (la_cons (le_var (pv 5)) (la_cons (le_ix ix_D (le_var (pv 1)) le_int (fun _ _ => rfl)) la_nil)))) (la_cons (le_var (pv 6)) (la_cons (le_op op_addD le_int (le_ix ix_D (le_var (pv 1)) le_int (fun _ _ => rfl))) (la_cons (le_op op_addD le_int (le_ix ix_D (le_var (pv 1)) le_int (fun _ _ => rfl))) la_nil)))))))))))))
theorem ok__law_compared (T : Tx K mg Ts cs) (TB : ∀ p ∈ cs, TabB base mg p.1 p.2) : FnOk P w K mg base CX0 (2) T.a__law_compared T.d__law_compared ["_law_word", "_law_now", "_law_kept"] (Sp0 ⟨P, w, K, mg, ⟨Ts, nfs⟩⟩ 3 f__law_compared) := by
  refine fn0 T.F__law_compared sc__law_compared rfl rfl fun cdv A outer s H E hr => ?_
  exact (lss_cons (ls_if (lt_cmp (op_eqDD hr.units) (le_var (pv 0)) le_str (nomark _)) (lss_one (ls_setLc (i := 3) (own := [("_law_a", 4), ("_law_b", 5)]) rfl sc__law_compared.nd (sw_true rfl rfl rfl (by decide +kernel)) (li_zip (pi_zipA (by rfl) T.z_zip (la_cons (le_ix ix_D (le_var (pv 1)) le_int (fun _ _ => rfl)) (la_cons (le_ix ix_D (le_var (pv 2)) le_int (fun _ _ => rfl)) la_nil)))) (blkOk_by (own := [("_law_a", 4), ("_law_b", 5)]) (N := ["_law_word", "_law_now", "_law_kept", "_law_truths", "_law_a", "_law_b"]) (sc := defScope s__law_compared) (by decide +kernel)) (fun _ _ _ _ _ => (lgw_tup rfl (lgws_cons (lgw_name (pg_name (i := 4) sc__law_compared.nd rfl (by first | exact Or.inl rfl | exact Or.inr rfl)) (by decide)) (lgws_cons (lgw_name (pg_name (i := 5) sc__law_compared.nd rfl (by first | exact Or.inl rfl | exact Or.inr rfl)) (by decide)) lgws_nil)))) (fun _ _ _ _ _ => lts_nil) (fun _ _ _ _ _ => (le_cmp (op_eqDD hr.units) (le_var (pv 4)) (le_var (pv 5)) (nomark _))))) (lss_one (ls_setLc (i := 3) (own := [("_law_a", 4), ("_law_b", 5)]) rfl sc__law_compared.nd (sw_true rfl rfl rfl (by decide +kernel)) (li_zip (pi_zipA (by rfl) T.z_zip (la_cons (le_ix ix_D (le_var (pv 1)) le_int (fun _ _ => rfl)) (la_cons (le_ix ix_D (le_var (pv 2)) le_int (fun _ _ => rfl)) la_nil)))) (blkOk_by (own := [("_law_a", 4), ("_law_b", 5)]) (N := ["_law_word", "_law_now", "_law_kept", "_law_truths", "_law_a", "_law_b"]) (sc := defScope s__law_compared) (by decide +kernel)) (fun _ _ _ _ _ => (lgw_tup rfl (lgws_cons (lgw_name (pg_name (i := 4) sc__law_compared.nd rfl (by first | exact Or.inl rfl | exact Or.inr rfl)) (by decide)) (lgws_cons (lgw_name (pg_name (i := 5) sc__law_compared.nd rfl (by first | exact Or.inl rfl | exact Or.inr rfl)) (by decide)) lgws_nil)))) (fun _ _ _ _ _ => lts_nil) (fun _ _ _ _ _ => (le_call0 (ok__law_comes T TB) (hr.mono (by omega)) T.g__law_comes T.F__law_comes.kp T.b__law_comes (la_cons (le_var (pv 4)) (la_cons (le_var (pv 5)) la_nil)) (len_cons (len_cons (fun _ _ _ _ h => len_nil h))))))))
    (lss_one (ls_ret (le_tup (la_cons (le_tup (la_cons (le_var (pv 0)) (la_cons (le_ix ix_D (le_var (pv 1)) le_int (fun _ _ => rfl)) (la_cons (le_ix ix_D (le_var (pv 2)) le_int (fun _ _ => rfl)) la_nil)))) (la_cons (le_var (pv 3)) (la_cons (le_op op_addD (le_op op_addD le_int (le_ix ix_D (le_var (pv 1)) le_int (fun _ _ => rfl))) (le_ix ix_D (le_var (pv 2)) le_int (fun _ _ => rfl))) (la_cons (le_op op_addD le_int (le_callB (call_maxD rfl) (by rfl) T.z_max (by decide +kernel) (la_cons (le_ix ix_D (le_var (pv 1)) le_int (fun _ _ => rfl)) (la_cons (le_ix ix_D (le_var (pv 2)) le_int (fun _ _ => rfl)) la_nil)))) la_nil))))))))
theorem ok__law_fits (T : Tx K mg Ts cs) (TB : ∀ p ∈ cs, TabB base mg p.1 p.2) : FnOk P w K mg base CX0 (2) T.a__law_fits T.d__law_fits ["_law_found", "_law_due"] (Sp0 ⟨P, w, K, mg, ⟨Ts, nfs⟩⟩ 2 f__law_fits) := by
  refine fn0 T.F__law_fits sc__law_fits rfl rfl fun cdv A outer s H E hr => ?_
  exact (lss_cons (ls_if (lt_cmp op_isND (le_var (pv 1)) le_non (nomark _)) (lss_one (ls_ret (le_cmp op_isND (le_var (pv 0)) le_non (nomark _)))) lss_nil)
    (lss_cons (ls_if (lt_val (le_callB call_isiD (by rfl) T.z_isinstance (by decide +kernel) (la_cons (le_var (pv 1)) (la_cons (le_ty (by rfl) T.z_bool (by decide +kernel)) la_nil)))) (lss_one (ls_ret (le_and (le_callB call_isiD (by rfl) T.z_isinstance (by decide +kernel) (la_cons (le_var (pv 0)) (la_cons (le_ty (by rfl) T.z_bool (by decide +kernel)) la_nil))) (le_and1 (le_cmp (op_eqDD hr.units) (le_var (pv 0)) (le_var (pv 1)) (nomark _)))))) lss_nil)
    (lss_one (ls_ret (le_and (le_call0 (ok__law_whole T TB) (hr.mono (by omega)) T.g__law_whole T.F__law_whole.kp T.b__law_whole (la_cons (le_var (pv 0)) la_nil) (len_cons (fun _ _ _ _ h => len_nil h))) (le_and1 (le_cmp (op_eqDD hr.units) (le_var (pv 0)) (le_var (pv 1)) (nomark _))))))))
theorem ok__law_test (T : Tx K mg Ts cs) (TB : ∀ p ∈ cs, TabB base mg p.1 p.2) : FnOk P w K mg base CX0 (3) T.a__law_test T.d__law_test ["_law_cell", "_law_now", "_law_kept", "_law_asked"] (Sp0 ⟨P, w, K, mg, ⟨Ts, nfs⟩⟩ 4 f__law_test) := by
  refine fn0 T.F__law_test sc__law_test rfl rfl fun cdv A outer s H E hr => ?_
  exact (lss_cons (ls_if (lt_cmp op_ltD (le_op op_modD (le_var (pv 0)) le_int) le_int (nomark _)) (lss_one (ls_ret (le_call0 (ok__law_compared T TB) (hr.mono (by omega)) T.g__law_compared T.F__law_compared.kp T.b__law_compared (la_cons (le_ix ix_D (le_lst (la_cons le_str (la_cons le_str la_nil))) (le_op op_modD (le_var (pv 0)) le_int) (fun _ _ => rfl)) (la_cons (le_var (pv 1)) (la_cons (le_var (pv 2)) la_nil))) (len_cons (len_cons (len_cons (fun _ _ _ _ h => len_nil h))))))) lss_nil)
    (lss_cons (ls_if (lt_cmp (op_eqDD hr.units) (le_op op_modD (le_var (pv 0)) le_int) le_int (nomark _)) (lss_one (ls_ret (le_tup (la_cons (le_tup (la_cons le_str (la_cons (le_ix ix_D (le_var (pv 3)) le_int (fun _ _ => rfl)) la_nil))) (la_cons (le_lc (own := [("_law_so", 4)]) rfl sc__law_test.nd (li_seq (le_ix ix_D (le_var (pv 3)) le_int (fun _ _ => rfl))) (blkOk_by (own := [("_law_so", 4)]) (N := ["_law_cell", "_law_now", "_law_kept", "_law_asked", "_law_so", "_law_beside", "_law_truths", "_law_a", "_law_b", "_law_word"]) (sc := defScope s__law_test) (by decide +kernel)) (fun _ _ _ _ _ => (lgw_name (pg_name (i := 4) sc__law_test.nd rfl (by first | exact Or.inl rfl | exact Or.inr rfl)) (by decide))) (fun _ _ _ _ _ => lts_nil) (fun _ _ _ _ _ => (le_not (le_var (pv 4))))) (la_cons (le_op op_addD le_int (le_ix ix_D (le_var (pv 3)) le_int (fun _ _ => rfl))) (la_cons (le_op op_addD le_int (le_ix ix_D (le_var (pv 3)) le_int (fun _ _ => rfl))) la_nil))))))) lss_nil)
    (lss_cons (ls_set (i := 5) sc__law_test.nd (le_call0 (ok__law_compared T TB) (hr.mono (by omega)) T.g__law_compared T.F__law_compared.kp T.b__law_compared (la_cons (le_ix ix_D (le_lst (la_cons le_str (la_cons le_str la_nil))) (le_op op_modD (le_op op_divD (le_var (pv 0)) le_int) le_int) (fun _ _ => rfl)) (la_cons (le_var (pv 2)) (la_cons (le_var (pv 1)) la_nil))) (len_cons (len_cons (len_cons (fun _ _ _ _ h => len_nil h))))))
    (lss_cons (ls_if (lt_cmp (op_eqDD hr.units) (le_op op_modD (le_var (pv 0)) le_int) le_int (nomark _)) (lss_one (ls_setLc (i := 6) (own := [("_law_a", 7), ("_law_b", 8)]) rfl sc__law_test.nd (sw_true rfl rfl rfl (by decide +kernel)) (li_zip (pi_zipA (by rfl) T.z_zip (la_cons (le_ix ix_D (le_var (pv 3)) le_int (fun _ _ => rfl)) (la_cons (le_ix ix_D (le_var (pv 5)) le_int (fun _ _ => rfl)) la_nil)))) (blkOk_by (own := [("_law_a", 7), ("_law_b", 8)]) (N := ["_law_cell", "_law_now", "_law_kept", "_law_asked", "_law_so", "_law_beside", "_law_truths", "_law_a", "_law_b", "_law_word"]) (sc := defScope s__law_test) (by decide +kernel)) (fun _ _ _ _ _ => (lgw_tup rfl (lgws_cons (lgw_name (pg_name (i := 7) sc__law_test.nd rfl (by first | exact Or.inl rfl | exact Or.inr rfl)) (by decide)) (lgws_cons (lgw_name (pg_name (i := 8) sc__law_test.nd rfl (by first | exact Or.inl rfl | exact Or.inr rfl)) (by decide)) lgws_nil)))) (fun _ _ _ _ _ => lts_nil) (fun _ _ _ _ _ => (le_and (le_var (pv 7)) (le_and1 (le_var (pv 8))))))) (lss_one (ls_setLc (i := 6) (own := [("_law_a", 7), ("_law_b", 8)]) rfl sc__law_test.nd (sw_true rfl rfl rfl (by decide +kernel)) (li_zip (pi_zipA (by rfl) T.z_zip (la_cons (le_ix ix_D (le_var (pv 3)) le_int (fun _ _ => rfl)) (la_cons (le_ix ix_D (le_var (pv 5)) le_int (fun _ _ => rfl)) la_nil)))) (blkOk_by (own := [("_law_a", 7), ("_law_b", 8)]) (N := ["_law_cell", "_law_now", "_law_kept", "_law_asked", "_law_so", "_law_beside", "_law_truths", "_law_a", "_law_b", "_law_word"]) (sc := defScope s__law_test) (by decide +kernel)) (fun _ _ _ _ _ => (lgw_tup rfl (lgws_cons (lgw_name (pg_name (i := 7) sc__law_test.nd rfl (by first | exact Or.inl rfl | exact Or.inr rfl)) (by decide)) (lgws_cons (lgw_name (pg_name (i := 8) sc__law_test.nd rfl (by first | exact Or.inl rfl | exact Or.inr rfl)) (by decide)) lgws_nil)))) (fun _ _ _ _ _ => lts_nil) (fun _ _ _ _ _ => (le_or (le_var (pv 7)) (le_and1 (le_var (pv 8))))))))
    (lss_cons (ls_set (i := 9) sc__law_test.nd (le_ix ix_D (le_lst (la_cons le_str (la_cons le_str la_nil))) (le_op op_subD (le_op op_modD (le_var (pv 0)) le_int) le_int) (fun _ _ => rfl)))
    (lss_one (ls_ret (le_tup (la_cons (le_tup (la_cons (le_var (pv 9)) (la_cons (le_ix ix_D (le_var (pv 3)) le_int (fun _ _ => rfl)) (la_cons (le_ix ix_D (le_var (pv 5)) le_int (fun _ _ => rfl)) la_nil)))) (la_cons (le_var (pv 6)) (la_cons (le_op op_addD (le_op op_addD le_int (le_ix ix_D (le_var (pv 3)) le_int (fun _ _ => rfl))) (le_ix ix_D (le_var (pv 5)) le_int (fun _ _ => rfl))) (la_cons (le_op op_addD le_int (le_callB (call_maxD rfl) (by rfl) T.z_max (by decide +kernel) (la_cons (le_ix ix_D (le_var (pv 3)) le_int (fun _ _ => rfl)) (la_cons (le_ix ix_D (le_var (pv 5)) le_int (fun _ _ => rfl)) la_nil)))) la_nil))))))))))))
theorem okb_column (T : Tx K mg Ts cs) (TB : ∀ p ∈ cs, TabB base mg p.1 p.2) (d : Nat) (r_column : Fn) (r_test : Fn) (ih_column : FnOk P w K mg base CX0 (1 + d) T.a_column T.d_column ["expr"] (Sp0 ⟨P, w, K, mg, ⟨Ts, nfs⟩⟩ 1 r_column)) (ih_test : FnOk P w K mg base CX0 (1 + d) T.a_test T.d_test ["expr"] (Sp0 ⟨P, w, K, mg, ⟨Ts, nfs⟩⟩ 1 r_test)) : FnOk P w K mg base CX0 (1 + d + 1) T.a_column T.d_column ["expr"] (Sp0 ⟨P, w, K, mg, ⟨Ts, nfs⟩⟩ 1 (fnF 2 (b_column r_column r_test))) := by
  refine fn0 T.F_column sc_column rfl rfl fun cdv A outer s H E hr => ?_
  exact (lss_cons (ls_set (i := 1) sc_column.nd (le_ix ix_D (le_var (pv 0)) le_int (fun _ _ => rfl)))
    (lss_cons (ls_if (lt_cmp (op_eqDD hr.units) (le_var (pv 1)) le_str (nomark _)) (lss_one (ls_ret (le_call0 (ok_at_place T TB) (hr.mono (by omega)) T.g_at_place T.F_at_place.kp T.b_at_place (la_cons (le_ix ix_D (le_var (pv 0)) le_int (fun _ _ => rfl)) la_nil) (len_cons (fun _ _ _ _ h => len_nil h))))) lss_nil)
    (lss_cons (ls_if (lt_cmp (op_eqDD hr.units) (le_var (pv 1)) le_str (nomark _)) (lss_one (ls_ret (le_call0 (ok_always_told T TB) (hr.mono (by omega)) T.g_always_told T.F_always_told.kp T.b_always_told (la_cons (le_ix ix_D (le_var (pv 0)) le_int (fun _ _ => rfl)) la_nil) (len_cons (fun _ _ _ _ h => len_nil h))))) lss_nil)
    (lss_cons (ls_if (lt_cmp (op_eqDD hr.units) (le_var (pv 1)) le_str (nomark _)) (lss_one (ls_ret (le_call0 (ok_always_told T TB) (hr.mono (by omega)) T.g_always_told T.F_always_told.kp T.b_always_told (la_cons le_non la_nil) (len_cons (fun _ _ _ _ h => len_nil h))))) lss_nil)
    (lss_cons (ls_if (lt_cmp (op_eqDD hr.units) (le_var (pv 1)) le_str (nomark _)) (lss_one (ls_ret (le_call0 (ok_chosen_by T TB) (hr.mono (by omega)) T.g_chosen_by T.F_chosen_by.kp T.b_chosen_by (la_cons (le_call0 ih_test (hr.mono (by omega)) T.g_test T.F_test.kp T.b_test (la_cons (le_ix ix_D (le_var (pv 0)) le_int (fun _ _ => rfl)) la_nil) (len_cons (fun _ _ _ _ h => len_nil h))) (la_cons (le_call0 ih_column (hr.mono (by omega)) T.g_column T.F_column.kp T.b_column (la_cons (le_ix ix_D (le_var (pv 0)) le_int (fun _ _ => rfl)) la_nil) (len_cons (fun _ _ _ _ h => len_nil h))) (la_cons (le_call0 ih_column (hr.mono (by omega)) T.g_column T.F_column.kp T.b_column (la_cons (le_ix ix_D (le_var (pv 0)) le_int (fun _ _ => rfl)) la_nil) (len_cons (fun _ _ _ _ h => len_nil h))) la_nil))) (len_cons (len_cons (len_cons (fun _ _ _ _ h => len_nil h))))))) lss_nil)
    (lss_cons (ls_if (lt_cmp (op_eqDD hr.units) (le_var (pv 1)) le_str (nomark _)) (lss_one (ls_ret (le_call0 (ok_reckoned_by T TB) (hr.mono (by omega)) T.g_reckoned_by T.F_reckoned_by.kp T.b_reckoned_by (la_cons (le_glb (by rfl) T.g_deed_plus) (la_cons (le_call0 ih_column (hr.mono (by omega)) T.g_column T.F_column.kp T.b_column (la_cons (le_ix ix_D (le_var (pv 0)) le_int (fun _ _ => rfl)) la_nil) (len_cons (fun _ _ _ _ h => len_nil h))) (la_cons (le_call0 ih_column (hr.mono (by omega)) T.g_column T.F_column.kp T.b_column (la_cons (le_ix ix_D (le_var (pv 0)) le_int (fun _ _ => rfl)) la_nil) (len_cons (fun _ _ _ _ h => len_nil h))) la_nil))) (len_cons (len_cons (len_cons (fun _ _ _ _ h => len_nil h))))))) lss_nil)
    (lss_cons (ls_if (lt_cmp (op_eqDD hr.units) (le_var (pv 1)) le_str (nomark _)) (lss_one (ls_ret (le_call0 (ok_reckoned_by T TB) (hr.mono (by omega)) T.g_reckoned_by T.F_reckoned_by.kp T.b_reckoned_by (la_cons (le_glb (by rfl) T.g_deed_minus) (la_cons (le_call0 ih_column (hr.mono (by omega)) T.g_column T.F_column.kp T.b_column (la_cons (le_ix ix_D (le_var (pv 0)) le_int (fun _ _ => rfl)) la_nil) (len_cons (fun _ _ _ _ h => len_nil h))) (la_cons (le_call0 ih_column (hr.mono (by omega)) T.g_column T.F_column.kp T.b_column (la_cons (le_ix ix_D (le_var (pv 0)) le_int (fun _ _ => rfl)) la_nil) (len_cons (fun _ _ _ _ h => len_nil h))) la_nil))) (len_cons (len_cons (len_cons (fun _ _ _ _ h => len_nil h))))))) lss_nil)
    (lss_cons (ls_if (lt_cmp (op_eqDD hr.units) (le_var (pv 1)) le_str (nomark _)) (lss_one (ls_ret (le_call0 (ok_reckoned_by T TB) (hr.mono (by omega)) T.g_reckoned_by T.F_reckoned_by.kp T.b_reckoned_by (la_cons (le_glb (by rfl) T.g_deed_times) (la_cons (le_call0 (ok_always_told T TB) (hr.mono (by omega)) T.g_always_told T.F_always_told.kp T.b_always_told (la_cons (le_ix ix_D (le_var (pv 0)) le_int (fun _ _ => rfl)) la_nil) (len_cons (fun _ _ _ _ h => len_nil h))) (la_cons (le_call0 ih_column (hr.mono (by omega)) T.g_column T.F_column.kp T.b_column (la_cons (le_ix ix_D (le_var (pv 0)) le_int (fun _ _ => rfl)) la_nil) (len_cons (fun _ _ _ _ h => len_nil h))) la_nil))) (len_cons (len_cons (len_cons (fun _ _ _ _ h => len_nil h))))))) lss_nil)
    (lss_cons (ls_if (lt_cmp (op_eqDD hr.units) (le_var (pv 1)) le_str (nomark _)) (lss_one (ls_ret (le_call0 (ok_reckoned_by T TB) (hr.mono (by omega)) T.g_reckoned_by T.F_reckoned_by.kp T.b_reckoned_by (la_cons (le_glb (by rfl) T.g_deed_part) (la_cons (le_call0 ih_column (hr.mono (by omega)) T.g_column T.F_column.kp T.b_column (la_cons (le_ix ix_D (le_var (pv 0)) le_int (fun _ _ => rfl)) la_nil) (len_cons (fun _ _ _ _ h => len_nil h))) (la_cons (le_call0 (ok_always_told T TB) (hr.mono (by omega)) T.g_always_told T.F_always_told.kp T.b_always_told (la_cons (le_ix ix_D (le_var (pv 0)) le_int (fun _ _ => rfl)) la_nil) (len_cons (fun _ _ _ _ h => len_nil h))) la_nil))) (len_cons (len_cons (len_cons (fun _ _ _ _ h => len_nil h))))))) lss_nil)
    (lss_one (ls_ret (le_call0 (ok_reckoned_by T TB) (hr.mono (by omega)) T.g_reckoned_by T.F_reckoned_by.kp T.b_reckoned_by (la_cons (le_glb (by rfl) T.g_deed_rest) (la_cons (le_call0 ih_column (hr.mono (by omega)) T.g_column T.F_column.kp T.b_column (la_cons (le_ix ix_D (le_var (pv 0)) le_int (fun _ _ => rfl)) la_nil) (len_cons (fun _ _ _ _ h => len_nil h))) (la_cons (le_call0 (ok_always_told T TB) (hr.mono (by omega)) T.g_always_told T.F_always_told.kp T.b_always_told (la_cons (le_ix ix_D (le_var (pv 0)) le_int (fun _ _ => rfl)) la_nil) (len_cons (fun _ _ _ _ h => len_nil h))) la_nil))) (len_cons (len_cons (len_cons (fun _ _ _ _ h => len_nil h))))))))))))))))
theorem okb_test (T : Tx K mg Ts cs) (TB : ∀ p ∈ cs, TabB base mg p.1 p.2) (d : Nat) (r_column : Fn) (r_test : Fn) (ih_column : FnOk P w K mg base CX0 (1 + d) T.a_column T.d_column ["expr"] (Sp0 ⟨P, w, K, mg, ⟨Ts, nfs⟩⟩ 1 r_column)) (ih_test : FnOk P w K mg base CX0 (1 + d) T.a_test T.d_test ["expr"] (Sp0 ⟨P, w, K, mg, ⟨Ts, nfs⟩⟩ 1 r_test)) : FnOk P w K mg base CX0 (1 + d + 1) T.a_test T.d_test ["expr"] (Sp0 ⟨P, w, K, mg, ⟨Ts, nfs⟩⟩ 1 (fnF 4 (b_test r_column r_test))) := by
  refine fnM (B := ⟨Ts, nfs⟩) T.F_test sc_test rfl rfl T.cc_test fun A outer s H E hr => ?_
  exact (pm_cons (ls_set (i := 1) sc_test.nd (le_ix ix_D (le_var (pv 0)) le_int (fun _ _ => rfl)))
    (pm_cons (ls_if (PW.pt (lw_or (lt_cmp (op_eqDD hr.units) (le_var (pv 1)) le_str (nomark _)) (lw_or1 (lt_cmp (op_eqDD hr.units) (le_var (pv 1)) le_str (nomark _))))) (lss_one (ls_ret (le_call0 (ok_compared_by T TB) (hr.mono (by omega)) T.g_compared_by T.F_compared_by.kp T.b_compared_by (la_cons (le_var (pv 1)) (la_cons (le_call0 ih_column (hr.mono (by omega)) T.g_column T.F_column.kp T.b_column (la_cons (le_ix ix_D (le_var (pv 0)) le_int (fun _ _ => rfl)) la_nil) (len_cons (fun _ _ _ _ h => len_nil h))) (la_cons (le_call0 ih_column (hr.mono (by omega)) T.g_column T.F_column.kp T.b_column (la_cons (le_ix ix_D (le_var (pv 0)) le_int (fun _ _ => rfl)) la_nil) (len_cons (fun _ _ _ _ h => len_nil h))) la_nil))) (len_cons (len_cons (len_cons (fun _ _ _ _ h => len_nil h))))))) lss_nil)
    (pm_cons (ls_set (i := 2) sc_test.nd (le_call0 ih_test (hr.mono (by omega)) T.g_test T.F_test.kp T.b_test (la_cons (le_ix ix_D (le_var (pv 0)) le_int (fun _ _ => rfl)) la_nil) (len_cons (fun _ _ _ _ h => len_nil h))))
    (pm_if (lt_cmp (op_eqDD hr.units) (le_var (pv 1)) le_str (nomark _)) (pm_lam (B := ⟨Ts, nfs⟩) (S := S_5) (k := 5) (js := [2]) ⟨TB _ T.m_test, T.tq_test.1, T.tq_test.2⟩ rfl rfl rfl rfl (show S_5.qual = ("test" : Str) ++ ".<locals>." ++ "<lambda>" from by decide) (show CapsOk (defScope s_test) S_5 from caps_by (by decide +kernel)) rfl (by rfl)) (pm_of lss_nil)
    (pm_cons (ls_set (i := 3) sc_test.nd (le_call0 ih_test (hr.mono (by omega)) T.g_test T.F_test.kp T.b_test (la_cons (le_ix ix_D (le_var (pv 0)) le_int (fun _ _ => rfl)) la_nil) (len_cons (fun _ _ _ _ h => len_nil h))))
    (pm_if (lt_cmp (op_eqDD hr.units) (le_var (pv 1)) le_str (nomark _)) (pm_lam (B := ⟨Ts, nfs⟩) (S := S_6) (k := 6) (js := [2, 3]) ⟨TB _ T.m_test, T.tq_test.1, T.tq_test.2⟩ rfl rfl rfl rfl (show S_6.qual = ("test" : Str) ++ ".<locals>." ++ "<lambda>" from by decide) (show CapsOk (defScope s_test) S_6 from caps_by (by decide +kernel)) rfl (by rfl)) (pm_of lss_nil)
    (pm_lam (B := ⟨Ts, nfs⟩) (S := S_7) (k := 7) (js := [2, 3]) ⟨TB _ T.m_test, T.tq_test.1, T.tq_test.2⟩ rfl rfl rfl rfl (show S_7.qual = ("test" : Str) ++ ".<locals>." ++ "<lambda>" from by decide) (show CapsOk (defScope s_test) S_7 from caps_by (by decide +kernel)) rfl (by rfl))))))))
theorem okA_column (T : Tx K mg Ts cs) (TB : ∀ p ∈ cs, TabB base mg p.1 p.2) : ∀ d : Nat, (FnOk P w K mg base CX0 (1 + d) T.a_column T.d_column ["expr"] (Sp0 ⟨P, w, K, mg, ⟨Ts, nfs⟩⟩ 1 (f_column d))) ∧ (FnOk P w K mg base CX0 (1 + d) T.a_test T.d_test ["expr"] (Sp0 ⟨P, w, K, mg, ⟨Ts, nfs⟩⟩ 1 (f_test d)))
  | 0 => ⟨fn_bad rfl, fn_bad rfl⟩
  | d + 1 => by
    obtain ⟨h_column, h_test⟩ := okA_column T TB d
    exact ⟨okb_column T TB d _ _ h_column h_test, okb_test T TB d _ _ h_column h_test⟩
theorem ok_column (T : Tx K mg Ts cs) (TB : ∀ p ∈ cs, TabB base mg p.1 p.2) (d : Nat) : FnOk P w K mg base CX0 (1 + d) T.a_column T.d_column ["expr"] (Sp0 ⟨P, w, K, mg, ⟨Ts, nfs⟩⟩ 1 (f_column d)) := (okA_column T TB d).1
theorem ok_test (T : Tx K mg Ts cs) (TB : ∀ p ∈ cs, TabB base mg p.1 p.2) (d : Nat) : FnOk P w K mg base CX0 (1 + d) T.a_test T.d_test ["expr"] (Sp0 ⟨P, w, K, mg, ⟨Ts, nfs⟩⟩ 1 (f_test d)) := (okA_column T TB d).2
theorem ok_law (T : Tx K mg Ts cs) (TB : ∀ p ∈ cs, TabB base mg p.1 p.2) : FnOk P w K mg base CX0 (33) T.a_law T.d_law ["_law_script"] (Sp0 ⟨P, w, K, mg, ⟨Ts, nfs⟩⟩ 1 f_law) := by
  refine fn0 T.F_law sc_law rfl rfl fun cdv A outer s H E hr => ?_
  exact (lss_cons (ls_asg (le_lc (own := [("_law_k", 4)]) rfl sc_law.nd (li_rng1 (by rfl) T.z_range (la_cons le_int la_nil)) (blkOk_by (own := [("_law_k", 4)]) (N := ["_law_script", "_law_x", "_law_y", "_law_z", "_law_k", "_law_rows", "_law_now", "_law_kept", "_law_asked", "_law_cell", "_law_number", "_law_made_here", "_law_tell", "_law_turn", "_law_row", "_law_due"]) (sc := defScope s_law) (by decide +kernel)) (fun _ _ _ _ _ => (lgw_name (pg_name (i := 4) sc_law.nd rfl (by first | exact Or.inl rfl | exact Or.inr rfl)) (by decide))) (fun _ _ _ _ _ => lts_nil) (fun _ _ _ _ _ => (le_call0 (ok__law_number_by T TB) (hr.mono (by omega)) T.g__law_number_by T.F__law_number_by.kp T.b__law_number_by (la_cons (le_call0 (ok__law_cell_at T TB) (hr.mono (by omega)) T.g__law_cell_at T.F__law_cell_at.kp T.b__law_cell_at (la_cons (le_var (pv 0)) (la_cons (le_var (pv 4)) la_nil)) (len_cons (len_cons (fun _ _ _ _ h => len_nil h)))) la_nil) (len_cons (fun _ _ _ _ h => len_nil h))))) (lg_unl rfl (lgs_cons (lg_name (pg_name (i := 1) sc_law.nd rfl (by first | exact Or.inl rfl | exact Or.inr rfl))) (lgs_cons (lg_name (pg_name (i := 2) sc_law.nd rfl (by first | exact Or.inl rfl | exact Or.inr rfl))) (lgs_cons (lg_name (pg_name (i := 3) sc_law.nd rfl (by first | exact Or.inl rfl | exact Or.inr rfl))) lgs_nil)))))
    (lss_cons (ls_set (i := 5) sc_law.nd (le_lst (la_cons (le_tup (la_cons (le_var (pv 1)) (la_cons (le_var (pv 2)) (la_cons (le_var (pv 3)) la_nil)))) (la_cons (le_tup (la_cons (le_var (pv 2)) (la_cons (le_var (pv 3)) (la_cons (le_var (pv 1)) la_nil)))) (la_cons (le_tup (la_cons le_non (la_cons (le_var (pv 1)) (la_cons (le_var (pv 2)) la_nil)))) la_nil)))))
    (lss_cons (ls_set (i := 6) sc_law.nd (le_call0 (ok__law_leaf T TB) (hr.mono (by omega)) T.g__law_leaf T.F__law_leaf.kp T.b__law_leaf (la_cons le_int (la_cons (le_var (pv 5)) la_nil)) (len_cons (len_cons (fun _ _ _ _ h => len_nil h)))))
    (lss_cons (ls_set (i := 7) sc_law.nd (le_call0 (ok__law_leaf T TB) (hr.mono (by omega)) T.g__law_leaf T.F__law_leaf.kp T.b__law_leaf (la_cons le_int (la_cons (le_var (pv 5)) la_nil)) (len_cons (len_cons (fun _ _ _ _ h => len_nil h)))))
    (lss_cons (ls_set (i := 8) sc_law.nd (le_call0 (ok__law_compared T TB) (hr.mono (by omega)) T.g__law_compared T.F__law_compared.kp T.b__law_compared (la_cons le_str (la_cons (le_var (pv 6)) (la_cons (le_var (pv 7)) la_nil))) (len_cons (len_cons (len_cons (fun _ _ _ _ h => len_nil h))))))
    (lss_cons (ls_for PassesOwn.never rfl (li_seq (le_slice (le_var (pv 0)) (lo_some le_int) (lo_some le_int))) (lg_name (pg_name (i := 9) sc_law.nd rfl (by first | exact Or.inl rfl | exact Or.inr rfl))) (lss_cons (ls_set (i := 10) sc_law.nd (le_op op_divD (le_var (pv 9)) le_int))
    (lss_cons (ls_if (lt_cmp (op_eqDD hr.units) (le_op op_modD (le_var (pv 9)) le_int) le_int (nomark _)) (lss_cons (ls_set (i := 7) sc_law.nd (le_var (pv 6)))
    (lss_one (ls_set (i := 6) sc_law.nd (le_call0 (ok__law_leaf T TB) (hr.mono (by omega)) T.g__law_leaf T.F__law_leaf.kp T.b__law_leaf (la_cons (le_var (pv 10)) (la_cons (le_var (pv 5)) la_nil)) (len_cons (len_cons (fun _ _ _ _ h => len_nil h))))))) (lss_one (ls_if (lt_cmp (op_eqDD hr.units) (le_op op_modD (le_var (pv 9)) le_int) le_int (nomark _)) (lss_one (ls_set (i := 8) sc_law.nd (le_call0 (ok__law_test T TB) (hr.mono (by omega)) T.g__law_test T.F__law_test.kp T.b__law_test (la_cons (le_var (pv 10)) (la_cons (le_var (pv 6)) (la_cons (le_var (pv 7)) (la_cons (le_var (pv 8)) la_nil)))) (len_cons (len_cons (len_cons (len_cons (fun _ _ _ _ h => len_nil h)))))))) (lss_one (ls_set (i := 6) sc_law.nd (le_call0 (ok__law_column T TB) (hr.mono (by omega)) T.g__law_column T.F__law_column.kp T.b__law_column (la_cons (le_var (pv 10)) (la_cons (le_var (pv 6)) (la_cons (le_var (pv 7)) (la_cons (le_var (pv 8)) la_nil)))) (len_cons (len_cons (len_cons (len_cons (fun _ _ _ _ h => len_nil h)))))))))))
    (lss_cons (ls_if (PW.pt (lw_or (lt_cmp op_gtD (le_ix ix_D (le_var (pv 6)) le_int (fun _ _ => rfl)) le_int (nomark _)) (lw_or1 (lt_cmp op_gtD (le_ix ix_D (le_var (pv 6)) le_int (fun _ _ => rfl)) le_int (nomark _))))) (lss_one (ls_set (i := 6) sc_law.nd (le_call0 (ok__law_leaf T TB) (hr.mono (by omega)) T.g__law_leaf T.F__law_leaf.kp T.b__law_leaf (la_cons le_int (la_cons (le_var (pv 5)) la_nil)) (len_cons (len_cons (fun _ _ _ _ h => len_nil h)))))) lss_nil)
    (lss_one (ls_if (PW.pt (lw_or (lt_cmp op_gtD (le_ix ix_D (le_var (pv 8)) le_int (fun _ _ => rfl)) le_int (nomark _)) (lw_or1 (lt_cmp op_gtD (le_ix ix_D (le_var (pv 8)) le_int (fun _ _ => rfl)) le_int (nomark _))))) (lss_one (ls_set (i := 8) sc_law.nd (le_call0 (ok__law_compared T TB) (hr.mono (by omega)) T.g__law_compared T.F__law_compared.kp T.b__law_compared (la_cons le_str (la_cons (le_call0 (ok__law_leaf T TB) (hr.mono (by omega)) T.g__law_leaf T.F__law_leaf.kp T.b__law_leaf (la_cons (le_var (pv 10)) (la_cons (le_var (pv 5)) la_nil)) (len_cons (len_cons (fun _ _ _ _ h => len_nil h)))) (la_cons (le_call0 (ok__law_leaf T TB) (hr.mono (by omega)) T.g__law_leaf T.F__law_leaf.kp T.b__law_leaf (la_cons le_int (la_cons (le_var (pv 5)) la_nil)) (len_cons (len_cons (fun _ _ _ _ h => len_nil h)))) la_nil))) (len_cons (len_cons (len_cons (fun _ _ _ _ h => len_nil h))))))) lss_nil))))))
    (lss_cons (ls_for PassesOwn.never rfl (li_seq (le_lst (la_cons (le_tup (la_cons (le_var (pv 6)) (la_cons (le_call0 (ok_column T TB 30) (hr.mono (by omega)) T.g_column T.F_column.kp T.b_column (la_cons (le_ix ix_D (le_var (pv 6)) le_int (fun _ _ => rfl)) la_nil) (len_cons (fun _ _ _ _ h => len_nil h))) la_nil))) (la_cons (le_tup (la_cons (le_var (pv 7)) (la_cons (le_call0 (ok_column T TB 30) (hr.mono (by omega)) T.g_column T.F_column.kp T.b_column (la_cons (le_ix ix_D (le_var (pv 7)) le_int (fun _ _ => rfl)) la_nil) (len_cons (fun _ _ _ _ h => len_nil h))) la_nil))) (la_cons (le_tup (la_cons (le_var (pv 8)) (la_cons (le_call0 (ok_test T TB 30) (hr.mono (by omega)) T.g_test T.F_test.kp T.b_test (la_cons (le_ix ix_D (le_var (pv 8)) le_int (fun _ _ => rfl)) la_nil) (len_cons (fun _ _ _ _ h => len_nil h))) la_nil))) la_nil))))) (lg_tup rfl (lgs_cons (lg_name (pg_name (i := 11) sc_law.nd rfl (by first | exact Or.inl rfl | exact Or.inr rfl))) (lgs_cons (lg_name (pg_name (i := 12) sc_law.nd rfl (by first | exact Or.inl rfl | exact Or.inr rfl))) lgs_nil))) (lss_one (ls_for PassesOwn.never rfl (li_rng1 (by rfl) T.z_range (la_cons le_int la_nil)) (lg_name (pg_name (i := 13) sc_law.nd rfl (by first | exact Or.inl rfl | exact Or.inr rfl))) (lss_one (ls_for PassesOwn.never rfl (li_zip (pi_zipA (by rfl) T.z_zip (la_cons (le_var (pv 5)) (la_cons (le_ix ix_D (le_var (pv 11)) le_int (fun _ _ => rfl)) la_nil)))) (lg_tup rfl (lgs_cons (lg_name (pg_name (i := 14) sc_law.nd rfl (by first | exact Or.inl rfl | exact Or.inr rfl))) (lgs_cons (lg_name (pg_name (i := 15) sc_law.nd rfl (by first | exact Or.inl rfl | exact Or.inr rfl))) lgs_nil))) (lss_one (ls_if (lt_not (lt_val (le_call0 (ok__law_fits T TB) (hr.mono (by omega)) T.g__law_fits T.F__law_fits.kp T.b__law_fits (la_cons (le_callV (B := ⟨Ts, nfs⟩) (k := (2 + 30)) (okC T TB 30) (okG_1 T TB (2 + 30) (by omega)) (hr.mono (by omega)) rfl (by first | exact .inl rfl | exact .inr (.inl rfl) | exact .inr (.inr rfl)) (la_cons (le_var (pv 14)) la_nil) (len_cons (fun _ _ _ _ h => len_nil h))) (la_cons (le_var (pv 15)) la_nil)) (len_cons (len_cons (fun _ _ _ _ h => len_nil h)))))) (lss_one (ls_ret le_bl)) lss_nil)))))))
    (lss_one (ls_ret le_bl)))))))))
end
/-! ### what the top has written -/
theorem all_mk {l : PySem.W.OpenLaw} {w : World} {K : PySem.W.Frag} {h : Heap} {mg : Str → Option Value} {fa f0 f1 f2 f3 f4 f5 f6 f7 f8 f9 f10 f11 f12 f13 f14 f15 f16 f17 f18 f19 f20 f21 f22 f23 f24 : Addr} (X : K.In h) (G : h.Ns mainGlobals mg) (hfa : mg "law" = some (.ref fa))
    {od0 an0 od1 an1 od2 an2 od3 an3 od4 an4 od5 an5 od6 an6 od7 an7 od8 an8 od9 an9 od10 an10 od11 an11 od12 an12 od13 an13 od14 an14 od15 an15 od16 an16 od17 an17 od18 an18 od19 an19 od20 an20 od21 an21 od22 an22 od23 an23 od24 an24 : Option Addr} {sl0 sl1 sl2 sl3 sl4 sl5 sl6 sl7 sl8 sl9 sl10 sl11 sl12 sl13 sl14 sl15 sl16 sl17 sl18 sl19 sl20 sl21 sl22 sl23 sl24 : Array (Option Value)} {oc0 kV0 dc0 pm0 cd0 ct0 oc1 kV1 dc1 pm1 cd1 ct1 oc2 kV2 dc2 pm2 cd2 ct2 oc3 kV3 dc3 pm3 cd3 ct3 oc4 kV4 dc4 pm4 cd4 ct4 oc5 kV5 dc5 pm5 cd5 ct5 oc6 kV6 dc6 pm6 cd6 ct6 oc7 kV7 dc7 pm7 cd7 ct7 oc8 kV8 dc8 pm8 cd8 ct8 oc9 kV9 dc9 pm9 cd9 ct9 oc10 kV10 dc10 pm10 cd10 ct10 oc11 kV11 dc11 pm11 cd11 ct11 oc12 kV12 dc12 pm12 cd12 ct12 oc13 kV13 dc13 pm13 cd13 ct13 oc14 kV14 dc14 pm14 cd14 ct14 oc15 kV15 dc15 pm15 cd15 ct15 oc16 kV16 dc16 pm16 cd16 ct16 oc17 kV17 dc17 pm17 cd17 ct17 oc18 kV18 dc18 pm18 cd18 ct18 oc19 kV19 dc19 pm19 cd19 ct19 oc20 kV20 dc20 pm20 cd20 ct20 oc21 kV21 dc21 pm21 cd21 ct21 oc22 kV22 dc22 pm22 cd22 ct22 oc23 kV23 dc23 pm23 cd23 ct23 oc24 kV24 dc24 pm24 cd24 ct24 : Value}
    (a0 : PySem.W.nsIn K mainGlobals "earlier" = some (some (.ref f0))) (l0 : K.lookup f0 = some ⟨oc0, od0, .func (PySem.W.fnOf "earlier" "earlier" (defArgs s_earlier) (defBody s_earlier) (defScope s_earlier) .none kV0 dc0 pm0 an0 cd0 ct0), sl0⟩) (c0 : PySem.W.codeIn K cd0 "earlier" = true) (k0 : PySem.W.keepIn K (.ref f0) = true)
    (a1 : PySem.W.nsIn K mainGlobals "always_told" = some (some (.ref f1))) (l1 : K.lookup f1 = some ⟨oc1, od1, .func (PySem.W.fnOf "always_told" "always_told" (defArgs s_always_told) (defBody s_always_told) (defScope s_always_told) .none kV1 dc1 pm1 an1 cd1 ct1), sl1⟩) (c1 : PySem.W.codeIn K cd1 "always_told" = true) (k1 : PySem.W.keepIn K (.ref f1) = true)
    (a2 : PySem.W.nsIn K mainGlobals "at_place" = some (some (.ref f2))) (l2 : K.lookup f2 = some ⟨oc2, od2, .func (PySem.W.fnOf "at_place" "at_place" (defArgs s_at_place) (defBody s_at_place) (defScope s_at_place) .none kV2 dc2 pm2 an2 cd2 ct2), sl2⟩) (c2 : PySem.W.codeIn K cd2 "at_place" = true) (k2 : PySem.W.keepIn K (.ref f2) = true)
    (a3 : PySem.W.nsIn K mainGlobals "deed_plus" = some (some (.ref f3))) (l3 : K.lookup f3 = some ⟨oc3, od3, .func (PySem.W.fnOf "deed_plus" "deed_plus" (defArgs s_deed_plus) (defBody s_deed_plus) (defScope s_deed_plus) .none kV3 dc3 pm3 an3 cd3 ct3), sl3⟩) (c3 : PySem.W.codeIn K cd3 "deed_plus" = true) (k3 : PySem.W.keepIn K (.ref f3) = true)
    (a4 : PySem.W.nsIn K mainGlobals "deed_minus" = some (some (.ref f4))) (l4 : K.lookup f4 = some ⟨oc4, od4, .func (PySem.W.fnOf "deed_minus" "deed_minus" (defArgs s_deed_minus) (defBody s_deed_minus) (defScope s_deed_minus) .none kV4 dc4 pm4 an4 cd4 ct4), sl4⟩) (c4 : PySem.W.codeIn K cd4 "deed_minus" = true) (k4 : PySem.W.keepIn K (.ref f4) = true)
    (a5 : PySem.W.nsIn K mainGlobals "deed_times" = some (some (.ref f5))) (l5 : K.lookup f5 = some ⟨oc5, od5, .func (PySem.W.fnOf "deed_times" "deed_times" (defArgs s_deed_times) (defBody s_deed_times) (defScope s_deed_times) .none kV5 dc5 pm5 an5 cd5 ct5), sl5⟩) (c5 : PySem.W.codeIn K cd5 "deed_times" = true) (k5 : PySem.W.keepIn K (.ref f5) = true)
    (a6 : PySem.W.nsIn K mainGlobals "deed_part" = some (some (.ref f6))) (l6 : K.lookup f6 = some ⟨oc6, od6, .func (PySem.W.fnOf "deed_part" "deed_part" (defArgs s_deed_part) (defBody s_deed_part) (defScope s_deed_part) .none kV6 dc6 pm6 an6 cd6 ct6), sl6⟩) (c6 : PySem.W.codeIn K cd6 "deed_part" = true) (k6 : PySem.W.keepIn K (.ref f6) = true)
    (a7 : PySem.W.nsIn K mainGlobals "deed_rest" = some (some (.ref f7))) (l7 : K.lookup f7 = some ⟨oc7, od7, .func (PySem.W.fnOf "deed_rest" "deed_rest" (defArgs s_deed_rest) (defBody s_deed_rest) (defScope s_deed_rest) .none kV7 dc7 pm7 an7 cd7 ct7), sl7⟩) (c7 : PySem.W.codeIn K cd7 "deed_rest" = true) (k7 : PySem.W.keepIn K (.ref f7) = true)
    (a8 : PySem.W.nsIn K mainGlobals "reckoned_by" = some (some (.ref f8))) (l8 : K.lookup f8 = some ⟨oc8, od8, .func (PySem.W.fnOf "reckoned_by" "reckoned_by" (defArgs s_reckoned_by) (defBody s_reckoned_by) (defScope s_reckoned_by) .none kV8 dc8 pm8 an8 cd8 ct8), sl8⟩) (c8 : PySem.W.codeIn K cd8 "reckoned_by" = true) (k8 : PySem.W.keepIn K (.ref f8) = true)
    (a9 : PySem.W.nsIn K mainGlobals "chosen_by" = some (some (.ref f9))) (l9 : K.lookup f9 = some ⟨oc9, od9, .func (PySem.W.fnOf "chosen_by" "chosen_by" (defArgs s_chosen_by) (defBody s_chosen_by) (defScope s_chosen_by) .none kV9 dc9 pm9 an9 cd9 ct9), sl9⟩) (c9 : PySem.W.codeIn K cd9 "chosen_by" = true) (k9 : PySem.W.keepIn K (.ref f9) = true)
    (a10 : PySem.W.nsIn K mainGlobals "compared_by" = some (some (.ref f10))) (l10 : K.lookup f10 = some ⟨oc10, od10, .func (PySem.W.fnOf "compared_by" "compared_by" (defArgs s_compared_by) (defBody s_compared_by) (defScope s_compared_by) .none kV10 dc10 pm10 an10 cd10 ct10), sl10⟩) (c10 : PySem.W.codeIn K cd10 "compared_by" = true) (k10 : PySem.W.keepIn K (.ref f10) = true)
    (a11 : PySem.W.nsIn K mainGlobals "_law_cell_at" = some (some (.ref f11))) (l11 : K.lookup f11 = some ⟨oc11, od11, .func (PySem.W.fnOf "_law_cell_at" "_law_cell_at" (defArgs s__law_cell_at) (defBody s__law_cell_at) (defScope s__law_cell_at) .none kV11 dc11 pm11 an11 cd11 ct11), sl11⟩) (c11 : PySem.W.codeIn K cd11 "_law_cell_at" = true) (k11 : PySem.W.keepIn K (.ref f11) = true)
    (a12 : PySem.W.nsIn K mainGlobals "_law_whole" = some (some (.ref f12))) (l12 : K.lookup f12 = some ⟨oc12, od12, .func (PySem.W.fnOf "_law_whole" "_law_whole" (defArgs s__law_whole) (defBody s__law_whole) (defScope s__law_whole) .none kV12 dc12 pm12 an12 cd12 ct12), sl12⟩) (c12 : PySem.W.codeIn K cd12 "_law_whole" = true) (k12 : PySem.W.keepIn K (.ref f12) = true)
    (a13 : PySem.W.nsIn K mainGlobals "_law_number_by" = some (some (.ref f13))) (l13 : K.lookup f13 = some ⟨oc13, od13, .func (PySem.W.fnOf "_law_number_by" "_law_number_by" (defArgs s__law_number_by) (defBody s__law_number_by) (defScope s__law_number_by) .none kV13 dc13 pm13 an13 cd13 ct13), sl13⟩) (c13 : PySem.W.codeIn K cd13 "_law_number_by" = true) (k13 : PySem.W.keepIn K (.ref f13) = true)
    (a14 : PySem.W.nsIn K mainGlobals "_law_comes" = some (some (.ref f14))) (l14 : K.lookup f14 = some ⟨oc14, od14, .func (PySem.W.fnOf "_law_comes" "_law_comes" (defArgs s__law_comes) (defBody s__law_comes) (defScope s__law_comes) .none kV14 dc14 pm14 an14 cd14 ct14), sl14⟩) (c14 : PySem.W.codeIn K cd14 "_law_comes" = true) (k14 : PySem.W.keepIn K (.ref f14) = true)
    (a15 : PySem.W.nsIn K mainGlobals "_law_made" = some (some (.ref f15))) (l15 : K.lookup f15 = some ⟨oc15, od15, .func (PySem.W.fnOf "_law_made" "_law_made" (defArgs s__law_made) (defBody s__law_made) (defScope s__law_made) .none kV15 dc15 pm15 an15 cd15 ct15), sl15⟩) (c15 : PySem.W.codeIn K cd15 "_law_made" = true) (k15 : PySem.W.keepIn K (.ref f15) = true)
    (a16 : PySem.W.nsIn K mainGlobals "before" = some (some (.ref f16))) (l16 : K.lookup f16 = some ⟨oc16, od16, .func (PySem.W.fnOf "before" "before" (defArgs s_before) (defBody s_before) (defScope s_before) .none kV16 dc16 pm16 an16 cd16 ct16), sl16⟩) (c16 : PySem.W.codeIn K cd16 "before" = true) (k16 : PySem.W.keepIn K (.ref f16) = true)
    (a17 : PySem.W.nsIn K mainGlobals "_law_leaf" = some (some (.ref f17))) (l17 : K.lookup f17 = some ⟨oc17, od17, .func (PySem.W.fnOf "_law_leaf" "_law_leaf" (defArgs s__law_leaf) (defBody s__law_leaf) (defScope s__law_leaf) .none kV17 dc17 pm17 an17 cd17 ct17), sl17⟩) (c17 : PySem.W.codeIn K cd17 "_law_leaf" = true) (k17 : PySem.W.keepIn K (.ref f17) = true)
    (a18 : PySem.W.nsIn K mainGlobals "_law_column" = some (some (.ref f18))) (l18 : K.lookup f18 = some ⟨oc18, od18, .func (PySem.W.fnOf "_law_column" "_law_column" (defArgs s__law_column) (defBody s__law_column) (defScope s__law_column) .none kV18 dc18 pm18 an18 cd18 ct18), sl18⟩) (c18 : PySem.W.codeIn K cd18 "_law_column" = true) (k18 : PySem.W.keepIn K (.ref f18) = true)
    (a19 : PySem.W.nsIn K mainGlobals "_law_compared" = some (some (.ref f19))) (l19 : K.lookup f19 = some ⟨oc19, od19, .func (PySem.W.fnOf "_law_compared" "_law_compared" (defArgs s__law_compared) (defBody s__law_compared) (defScope s__law_compared) .none kV19 dc19 pm19 an19 cd19 ct19), sl19⟩) (c19 : PySem.W.codeIn K cd19 "_law_compared" = true) (k19 : PySem.W.keepIn K (.ref f19) = true)
    (a20 : PySem.W.nsIn K mainGlobals "_law_fits" = some (some (.ref f20))) (l20 : K.lookup f20 = some ⟨oc20, od20, .func (PySem.W.fnOf "_law_fits" "_law_fits" (defArgs s__law_fits) (defBody s__law_fits) (defScope s__law_fits) .none kV20 dc20 pm20 an20 cd20 ct20), sl20⟩) (c20 : PySem.W.codeIn K cd20 "_law_fits" = true) (k20 : PySem.W.keepIn K (.ref f20) = true)
    (a21 : PySem.W.nsIn K mainGlobals "_law_test" = some (some (.ref f21))) (l21 : K.lookup f21 = some ⟨oc21, od21, .func (PySem.W.fnOf "_law_test" "_law_test" (defArgs s__law_test) (defBody s__law_test) (defScope s__law_test) .none kV21 dc21 pm21 an21 cd21 ct21), sl21⟩) (c21 : PySem.W.codeIn K cd21 "_law_test" = true) (k21 : PySem.W.keepIn K (.ref f21) = true)
    (a22 : PySem.W.nsIn K mainGlobals "column" = some (some (.ref f22))) (l22 : K.lookup f22 = some ⟨oc22, od22, .func (PySem.W.fnOf "column" "column" (defArgs s_column) (defBody s_column) (defScope s_column) .none kV22 dc22 pm22 an22 cd22 ct22), sl22⟩) (c22 : PySem.W.codeIn K cd22 "column" = true) (k22 : PySem.W.keepIn K (.ref f22) = true)
    (a23 : PySem.W.nsIn K mainGlobals "test" = some (some (.ref f23))) (l23 : K.lookup f23 = some ⟨oc23, od23, .func (PySem.W.fnOf "test" "test" (defArgs s_test) (defBody s_test) (defScope s_test) .none kV23 dc23 pm23 an23 cd23 ct23), sl23⟩) (c23 : PySem.W.codeIn K cd23 "test" = true) (k23 : PySem.W.keepIn K (.ref f23) = true)
    (a24 : PySem.W.nsIn K mainGlobals "law" = some (some (.ref f24))) (l24 : K.lookup f24 = some ⟨oc24, od24, .func (PySem.W.fnOf "law" "law" (defArgs s_law) (defBody s_law) (defScope s_law) .none kV24 dc24 pm24 an24 cd24 ct24), sl24⟩) (c24 : PySem.W.codeIn K cd24 "law" = true) (k24 : PySem.W.keepIn K (.ref f24) = true)
    (z_bool : PySem.W.nsIn K mainGlobals "bool" = some none)
    (z_int : PySem.W.nsIn K mainGlobals "int" = some none)
    (z_isinstance : PySem.W.nsIn K mainGlobals "isinstance" = some none)
    (z_len : PySem.W.nsIn K mainGlobals "len" = some none)
    (z_max : PySem.W.nsIn K mainGlobals "max" = some none)
    (z_range : PySem.W.nsIn K mainGlobals "range" = some none)
    (z_zip : PySem.W.nsIn K mainGlobals "zip" = some none)
    {ts : List Addr} (hts : ∀ P ∈ ts, h.get? P = some (PySem.W.tabObj #[])) (true_law : ∀ (ns : List Int) (o : O), ns.length ≤ 63 → (o = .rl (ns.map D.int) ∨ o = .lst (ns.map D.int)) → ∃ st, f_law [.ref 0] [o] = .ok (.bl true) st)
    (hc : mkChk K ts [(f1, ("always_told.<locals>.tell" : Str)), (f2, ("at_place.<locals>.tell" : Str)), (f8, ("reckoned_by.<locals>.tell" : Str)), (f9, ("chosen_by.<locals>.tell" : Str)), (f10, ("compared_by.<locals>.tell" : Str)), (f23, ("test.<locals>.<lambda>" : Str))] = true) : LawAtS l w K CX0 33 63 "_law_script" mg fa h := by
  have e := hfa.symm.trans (PySem.W.mg_of X G a24)
  cases e
  have F0 := fun_mk (st := s_earlier) l0 c0 k0
  have b0 := F0.binds (ps := ["one", "other"]) fun _ _ _ _ _ _ us hl => match us, hl with | [_, _], _ => rfl
  have F1 := fun_mk (st := s_always_told) l1 c1 k1
  have b1 := F1.binds (ps := ["cell"]) fun _ _ _ _ _ _ us hl => match us, hl with | [_], _ => rfl
  have F2 := fun_mk (st := s_at_place) l2 c2 k2
  have b2 := F2.binds (ps := ["place"]) fun _ _ _ _ _ _ us hl => match us, hl with | [_], _ => rfl
  have F3 := fun_mk (st := s_deed_plus) l3 c3 k3
  have b3 := F3.binds (ps := ["one", "other"]) fun _ _ _ _ _ _ us hl => match us, hl with | [_, _], _ => rfl
  have F4 := fun_mk (st := s_deed_minus) l4 c4 k4
  have b4 := F4.binds (ps := ["one", "other"]) fun _ _ _ _ _ _ us hl => match us, hl with | [_, _], _ => rfl
  have F5 := fun_mk (st := s_deed_times) l5 c5 k5
  have b5 := F5.binds (ps := ["one", "other"]) fun _ _ _ _ _ _ us hl => match us, hl with | [_, _], _ => rfl
  have F6 := fun_mk (st := s_deed_part) l6 c6 k6
  have b6 := F6.binds (ps := ["one", "other"]) fun _ _ _ _ _ _ us hl => match us, hl with | [_, _], _ => rfl
  have F7 := fun_mk (st := s_deed_rest) l7 c7 k7
  have b7 := F7.binds (ps := ["one", "other"]) fun _ _ _ _ _ _ us hl => match us, hl with | [_, _], _ => rfl
  have F8 := fun_mk (st := s_reckoned_by) l8 c8 k8
  have b8 := F8.binds (ps := ["deed", "first", "second"]) fun _ _ _ _ _ _ us hl => match us, hl with | [_, _, _], _ => rfl
  have F9 := fun_mk (st := s_chosen_by) l9 c9 k9
  have b9 := F9.binds (ps := ["asked", "first", "second"]) fun _ _ _ _ _ _ us hl => match us, hl with | [_, _, _], _ => rfl
  have F10 := fun_mk (st := s_compared_by) l10 c10 k10
  have b10 := F10.binds (ps := ["word", "first", "second"]) fun _ _ _ _ _ _ us hl => match us, hl with | [_, _, _], _ => rfl
  have F11 := fun_mk (st := s__law_cell_at) l11 c11 k11
  have b11 := F11.binds (ps := ["_law_script", "_law_k"]) fun _ _ _ _ _ _ us hl => match us, hl with | [_, _], _ => rfl
  have F12 := fun_mk (st := s__law_whole) l12 c12 k12
  have b12 := F12.binds (ps := ["_law_found"]) fun _ _ _ _ _ _ us hl => match us, hl with | [_], _ => rfl
  have F13 := fun_mk (st := s__law_number_by) l13 c13 k13
  have b13 := F13.binds (ps := ["_law_cell"]) fun _ _ _ _ _ _ us hl => match us, hl with | [_], _ => rfl
  have F14 := fun_mk (st := s__law_comes) l14 c14 k14
  have b14 := F14.binds (ps := ["_law_one", "_law_other"]) fun _ _ _ _ _ _ us hl => match us, hl with | [_, _], _ => rfl
  have F15 := fun_mk (st := s__law_made) l15 c15 k15
  have b15 := F15.binds (ps := ["_law_word", "_law_by", "_law_one", "_law_other"]) fun _ _ _ _ _ _ us hl => match us, hl with | [_, _, _, _], _ => rfl
  have F16 := fun_mk (st := s_before) l16 c16 k16
  have b16 := F16.binds (ps := ["one", "other"]) fun _ _ _ _ _ _ us hl => match us, hl with | [_, _], _ => rfl
  have F17 := fun_mk (st := s__law_leaf) l17 c17 k17
  have b17 := F17.binds (ps := ["_law_cell", "_law_rows"]) fun _ _ _ _ _ _ us hl => match us, hl with | [_, _], _ => rfl
  have F18 := fun_mk (st := s__law_column) l18 c18 k18
  have b18 := F18.binds (ps := ["_law_cell", "_law_now", "_law_kept", "_law_asked"]) fun _ _ _ _ _ _ us hl => match us, hl with | [_, _, _, _], _ => rfl
  have F19 := fun_mk (st := s__law_compared) l19 c19 k19
  have b19 := F19.binds (ps := ["_law_word", "_law_now", "_law_kept"]) fun _ _ _ _ _ _ us hl => match us, hl with | [_, _, _], _ => rfl
  have F20 := fun_mk (st := s__law_fits) l20 c20 k20
  have b20 := F20.binds (ps := ["_law_found", "_law_due"]) fun _ _ _ _ _ _ us hl => match us, hl with | [_, _], _ => rfl
  have F21 := fun_mk (st := s__law_test) l21 c21 k21
  have b21 := F21.binds (ps := ["_law_cell", "_law_now", "_law_kept", "_law_asked"]) fun _ _ _ _ _ _ us hl => match us, hl with | [_, _, _, _], _ => rfl
  have F22 := fun_mk (st := s_column) l22 c22 k22
  have b22 := F22.binds (ps := ["expr"]) fun _ _ _ _ _ _ us hl => match us, hl with | [_], _ => rfl
  have F23 := fun_mk (st := s_test) l23 c23 k23
  have b23 := F23.binds (ps := ["expr"]) fun _ _ _ _ _ _ us hl => match us, hl with | [_], _ => rfl
  have F24 := fun_mk (st := s_law) l24 c24 k24
  have b24 := F24.binds (ps := ["_law_script"]) fun _ _ _ _ _ _ us hl => match us, hl with | [_], _ => rfl
  refine law_at (k := 33) X hts hc ?hb fun base _ _ TB => (ok_law (P := l.prog) (w := w) (base := base) (Ts := mkT K [(f1, ("always_told.<locals>.tell" : Str)), (f2, ("at_place.<locals>.tell" : Str)), (f8, ("reckoned_by.<locals>.tell" : Str)), (f9, ("chosen_by.<locals>.tell" : Str)), (f10, ("compared_by.<locals>.tell" : Str)), (f23, ("test.<locals>.<lambda>" : Str))]) (cs := mkC K [(f1, ("always_told.<locals>.tell" : Str)), (f2, ("at_place.<locals>.tell" : Str)), (f8, ("reckoned_by.<locals>.tell" : Str)), (f9, ("chosen_by.<locals>.tell" : Str)), (f10, ("compared_by.<locals>.tell" : Str)), (f23, ("test.<locals>.<lambda>" : Str))]) ⟨_, _, F0, PySem.W.mg_of X G a0, b0, _, _, F1, PySem.W.mg_of X G a1, b1, _, _, F2, PySem.W.mg_of X G a2, b2, _, _, F3, PySem.W.mg_of X G a3, b3, _, _, F4, PySem.W.mg_of X G a4, b4, _, _, F5, PySem.W.mg_of X G a5, b5, _, _, F6, PySem.W.mg_of X G a6, b6, _, _, F7, PySem.W.mg_of X G a7, b7, _, _, F8, PySem.W.mg_of X G a8, b8, _, _, F9, PySem.W.mg_of X G a9, b9, _, _, F10, PySem.W.mg_of X G a10, b10, _, _, F11, PySem.W.mg_of X G a11, b11, _, _, F12, PySem.W.mg_of X G a12, b12, _, _, F13, PySem.W.mg_of X G a13, b13, _, _, F14, PySem.W.mg_of X G a14, b14, _, _, F15, PySem.W.mg_of X G a15, b15, _, _, F16, PySem.W.mg_of X G a16, b16, _, _, F17, PySem.W.mg_of X G a17, b17, _, _, F18, PySem.W.mg_of X G a18, b18, _, _, F19, PySem.W.mg_of X G a19, b19, _, _, F20, PySem.W.mg_of X G a20, b20, _, _, F21, PySem.W.mg_of X G a21, b21, _, _, F22, PySem.W.mg_of X G a22, b22, _, _, F23, PySem.W.mg_of X G a23, b23, _, _, F24, PySem.W.mg_of X G a24, b24, cO K f1, pO K f1, cO_eq l1 c1, mkC_mem (q := "always_told.<locals>.tell") (List.Mem.head _), ⟨mkT_mem (List.Mem.head _), mkT_uni hc (List.Mem.head _)⟩, cO K f2, pO K f2, cO_eq l2 c2, mkC_mem (q := "at_place.<locals>.tell") (List.Mem.tail _ (List.Mem.head _)), ⟨mkT_mem (List.Mem.tail _ (List.Mem.head _)), mkT_uni hc (List.Mem.tail _ (List.Mem.head _))⟩, cO K f8, pO K f8, cO_eq l8 c8, mkC_mem (q := "reckoned_by.<locals>.tell") (List.Mem.tail _ (List.Mem.tail _ (List.Mem.head _))), ⟨mkT_mem (List.Mem.tail _ (List.Mem.tail _ (List.Mem.head _))), mkT_uni hc (List.Mem.tail _ (List.Mem.tail _ (List.Mem.head _)))⟩, cO K f9, pO K f9, cO_eq l9 c9, mkC_mem (q := "chosen_by.<locals>.tell") (List.Mem.tail _ (List.Mem.tail _ (List.Mem.tail _ (List.Mem.head _)))), ⟨mkT_mem (List.Mem.tail _ (List.Mem.tail _ (List.Mem.tail _ (List.Mem.head _)))), mkT_uni hc (List.Mem.tail _ (List.Mem.tail _ (List.Mem.tail _ (List.Mem.head _))))⟩, cO K f10, pO K f10, cO_eq l10 c10, mkC_mem (q := "compared_by.<locals>.tell") (List.Mem.tail _ (List.Mem.tail _ (List.Mem.tail _ (List.Mem.tail _ (List.Mem.head _))))), ⟨mkT_mem (List.Mem.tail _ (List.Mem.tail _ (List.Mem.tail _ (List.Mem.tail _ (List.Mem.head _))))), mkT_uni hc (List.Mem.tail _ (List.Mem.tail _ (List.Mem.tail _ (List.Mem.tail _ (List.Mem.head _)))))⟩, cO K f23, pO K f23, cO_eq l23 c23, mkC_mem (q := "test.<locals>.<lambda>") (List.Mem.tail _ (List.Mem.tail _ (List.Mem.tail _ (List.Mem.tail _ (List.Mem.tail _ (List.Mem.head _)))))), ⟨mkT_mem (List.Mem.tail _ (List.Mem.tail _ (List.Mem.tail _ (List.Mem.tail _ (List.Mem.tail _ (List.Mem.head _)))))), mkT_uni hc (List.Mem.tail _ (List.Mem.tail _ (List.Mem.tail _ (List.Mem.tail _ (List.Mem.tail _ (List.Mem.head _))))))⟩, PySem.W.mg_none_of X G z_bool, PySem.W.mg_none_of X G z_int, PySem.W.mg_none_of X G z_isinstance, PySem.W.mg_none_of X G z_len, PySem.W.mg_none_of X G z_max, PySem.W.mg_none_of X G z_range, PySem.W.mg_none_of X G z_zip⟩ TB).imp (law_endT (g := ⟨l.prog, w, K, mg, ⟨mkT K [(f1, ("always_told.<locals>.tell" : Str)), (f2, ("at_place.<locals>.tell" : Str)), (f8, ("reckoned_by.<locals>.tell" : Str)), (f9, ("chosen_by.<locals>.tell" : Str)), (f10, ("compared_by.<locals>.tell" : Str)), (f23, ("test.<locals>.<lambda>" : Str))], nfs⟩⟩) true_law)
  case hb => exact fun s v => .of_eq rfl
end Law
open PySem PySem.W PyProof.Rows in
set_option maxRecDepth 100000 in
set_option maxHeartbeats 0 in
theorem PySem.Challenge.cw_viewkeep_k09_columns_within_holds : PySem.Challenge.rw_viewkeep_k09_columns_within.Holds := by
  w_on; o_law; k_head; (case hw => w_witness2)
  k_fill
  refine LamX.walk_ofTs (l := PySem.Challenge.rw_viewkeep_k09_columns_within) (n := 63) (k := 33) (x := "_law_script") (CX := fun _ => L2.CX0) rfl (by decide) rfl ⟨rfl, by decide, by decide⟩ (fun w h Y => PySem.W.km_in_of Y) ?F (fun _ _ _ _ _ h => h)
  case F =>
    intro w mg fa h Y KX G hmg
    refine' Law.all_mk KX G hmg ?a0 ?l0 ?c0 ?k0 ?a1 ?l1 ?c1 ?k1 ?a2 ?l2 ?c2 ?k2 ?a3 ?l3 ?c3 ?k3 ?a4 ?l4 ?c4 ?k4 ?a5 ?l5 ?c5 ?k5 ?a6 ?l6 ?c6 ?k6 ?a7 ?l7 ?c7 ?k7 ?a8 ?l8 ?c8 ?k8 ?a9 ?l9 ?c9 ?k9 ?a10 ?l10 ?c10 ?k10 ?a11 ?l11 ?c11 ?k11 ?a12 ?l12 ?c12 ?k12 ?a13 ?l13 ?c13 ?k13 ?a14 ?l14 ?c14 ?k14 ?a15 ?l15 ?c15 ?k15 ?a16 ?l16 ?c16 ?k16 ?a17 ?l17 ?c17 ?k17 ?a18 ?l18 ?c18 ?k18 ?a19 ?l19 ?c19 ?k19 ?a20 ?l20 ?c20 ?k20 ?a21 ?l21 ?c21 ?k21 ?a22 ?l22 ?c22 ?k22 ?a23 ?l23 ?c23 ?k23 ?a24 ?l24 ?c24 ?k24 ?z0 ?z1 ?z2 ?z3 ?z4 ?z5 ?z6 (PySem.W.km_tabs_of Y) Law.true_law ?chk
    (case a0 => k_is)
    (case l0 => k_is)
    (case c0 => k_is)
    (case k0 => k_is)
    (case a1 => k_is)
    (case l1 => k_is)
    (case c1 => k_is)
    (case k1 => k_is)
    (case a2 => k_is)
    (case l2 => k_is)
    (case c2 => k_is)
    (case k2 => k_is)
    (case a3 => k_is)
    (case l3 => k_is)
    (case c3 => k_is)
    (case k3 => k_is)
    (case a4 => k_is)
    (case l4 => k_is)
    (case c4 => k_is)
    (case k4 => k_is)
    (case a5 => k_is)
    (case l5 => k_is)
    (case c5 => k_is)
    (case k5 => k_is)
    (case a6 => k_is)
    (case l6 => k_is)
    (case c6 => k_is)
    (case k6 => k_is)
    (case a7 => k_is)
    (case l7 => k_is)
    (case c7 => k_is)
    (case k7 => k_is)
    (case a8 => k_is)
    (case l8 => k_is)
    (case c8 => k_is)
    (case k8 => k_is)
    (case a9 => k_is)
    (case l9 => k_is)
    (case c9 => k_is)
    (case k9 => k_is)
    (case a10 => k_is)
    (case l10 => k_is)
    (case c10 => k_is)
    (case k10 => k_is)
    (case a11 => k_is)
    (case l11 => k_is)
    (case c11 => k_is)
    (case k11 => k_is)
    (case a12 => k_is)
    (case l12 => k_is)
    (case c12 => k_is)
    (case k12 => k_is)
    (case a13 => k_is)
    (case l13 => k_is)
    (case c13 => k_is)
    (case k13 => k_is)
    (case a14 => k_is)
    (case l14 => k_is)
    (case c14 => k_is)
    (case k14 => k_is)
    (case a15 => k_is)
    (case l15 => k_is)
    (case c15 => k_is)
    (case k15 => k_is)
    (case a16 => k_is)
    (case l16 => k_is)
    (case c16 => k_is)
    (case k16 => k_is)
    (case a17 => k_is)
    (case l17 => k_is)
    (case c17 => k_is)
    (case k17 => k_is)
    (case a18 => k_is)
    (case l18 => k_is)
    (case c18 => k_is)
    (case k18 => k_is)
    (case a19 => k_is)
    (case l19 => k_is)
    (case c19 => k_is)
    (case k19 => k_is)
    (case a20 => k_is)
    (case l20 => k_is)
    (case c20 => k_is)
    (case k20 => k_is)
    (case a21 => k_is)
    (case l21 => k_is)
    (case c21 => k_is)
    (case k21 => k_is)
    (case a22 => k_is)
    (case l22 => k_is)
    (case c22 => k_is)
    (case k22 => k_is)
    (case a23 => k_is)
    (case l23 => k_is)
    (case c23 => k_is)
    (case k23 => k_is)
    (case a24 => k_is)
    (case l24 => k_is)
    (case c24 => k_is)
    (case k24 => k_is)
    (case z0 => k_is)
    (case z1 => k_is)
    (case z2 => k_is)
    (case z3 => k_is)
    (case z4 => k_is)
    (case z5 => k_is)
    (case z6 => k_is)
    (case chk => kernel_rfl)

