import PyProof.Rows.All
import Wide.All
import OpenK.AllK
import Wide.FinOn
import HandS.ForMost
import HandS.Exc
import HandS.TryOnly
import HandS.ExcOwn
import HandS.WordsExc
import HandS.IsInst
import HandS.Style
import HandS.Zip
import HandS.Strs
import HandS.More
import PyProof.Rows.StrRev
import HandS.Conv
import HandS.Nested
import HandS.EndTab
import HandS.ExcIs
import HandS.ExcInit
import HandS.TupAny
import KE.KLam
import KE.KNestM
import KE.DataEq
import KE.Datum
import HandS.SetFor
import KE.DataMinMax
import HandS.SortKw
import HandS.Text
import KE.KeyNested
import HandS.Dict
import KE.KDictKeyed
import HandS.DictEq
import PyProof.DictDisplay
import HandS.ExcInit
import HandS.ExcField
import PySem.Challenge.RW_regrowth_k50_single_words_aside
set_option Elab.async false
set_option linter.all false
set_option maxRecDepth 100000
/-! The value layer: what the slots of a frame hold, as trees; the containers that a frame alone holds; what is frozen. -/
namespace VL
open PySem PySem.Spec PyProof.Rows L2
/-- the tables of code objects that are known; the lambdas, by their makers and numbers; the world -/
class Tabs where
  T : List NdefX.NTab
  L : Str → Nat → Option (Arguments × Expr × Scope)
  W : World
  /-- the exception classes, by their numbers -/
  C : Nat → Addr
/-- keys of any kind -/
inductive GK where
  | i (n : Int) | s (x : Str) | t (ks : List GK)
mutual
def GK.dec : (a b : GK) → Decidable (a = b)
  | .i n, .i m => if h : n = m then Decidable.isTrue (by rw [h]) else Decidable.isFalse (fun z => h (GK.i.inj z))
  | .s x, .s y => if h : x = y then Decidable.isTrue (by rw [h]) else Decidable.isFalse (fun z => h (GK.s.inj z))
  | .t ks, .t ls => match GK.decL ks ls with
    | Decidable.isTrue h => Decidable.isTrue (by rw [h])
    | Decidable.isFalse h => Decidable.isFalse (fun z => h (GK.t.inj z))
  | .i _, .s _ => Decidable.isFalse (fun z => nomatch z)
  | .i _, .t _ => Decidable.isFalse (fun z => nomatch z)
  | .s _, .i _ => Decidable.isFalse (fun z => nomatch z)
  | .s _, .t _ => Decidable.isFalse (fun z => nomatch z)
  | .t _, .i _ => Decidable.isFalse (fun z => nomatch z)
  | .t _, .s _ => Decidable.isFalse (fun z => nomatch z)
def GK.decL : (a b : List GK) → Decidable (a = b)
  | [], [] => Decidable.isTrue rfl
  | [], _ :: _ => Decidable.isFalse (fun z => nomatch z)
  | _ :: _, [] => Decidable.isFalse (fun z => nomatch z)
  | k :: ks, l :: ls => match GK.dec k l with
    | Decidable.isFalse h => Decidable.isFalse (fun z => h (List.cons.inj z).1)
    | Decidable.isTrue h => match GK.decL ks ls with
      | Decidable.isTrue h2 => Decidable.isTrue (by rw [h, h2])
      | Decidable.isFalse h2 => Decidable.isFalse (fun z => h2 (List.cons.inj z).2)
end
instance : DecidableEq GK := GK.dec
mutual
def gkDep : GK → Nat
  | .i _ => 0
  | .s _ => 0
  | .t ks => gkDepL ks + 1
def gkDepL : List GK → Nat
  | [] => 0
  | k :: ks => max (gkDep k) (gkDepL ks)
end
/-- keys that a dict may have: unlike, not too deep -/
def GKs (l : List GK) : Prop := l.Nodup ∧ ∀ k ∈ l, gkDep k ≤ 8
mutual
def gkH (w : World) : GK → Int
  | .i n => hashInt n
  | .s x => hashStr w x
  | .t ks => reduceHash (Builtin.Tuple.tupleHashOf (gkHL w ks))
def gkHL (w : World) : List GK → List Int
  | [] => []
  | k :: ks => gkH w k :: gkHL w ks
end
/-- an exception's object -/
def XcO (a C : Addr) (d : Option Addr) : HO := .ext fun h => ∃ oe : Obj, h.get? a = some oe ∧ oe.cls = .ref C ∧ oe.dict = d ∧ ∃ vs, oe.data = .fields vs
/-- the words of a function that is made in a def: parameters, body, scope -/
abbrev FW := Arguments × FuncBody × Scope
def fwOf (st : Stmt) : FW := (C8.fnArgs st, .stmts (C8.fnBody st), C8.fnScope st)
/-- the object at f is such a function -/
def FnG (f : Addr) (F : FW) (name qual : Str) (cl : List (Str × Addr)) (c : Addr) : HO := .ext fun h => ∃ (od : Option Addr) (sl : Array (Option Value)) (doc pm ctv : Value),
  h.get? f = some (⟨.type "function", od, .func { name, qualname := qual, params := F.1, body := F.2.1, scope := F.2.2, globals := mainGlobals, closure := cl, defaults := .none, kwdefaults := .none, doc, pyModule := pm, annotations := none, code := .ref c, closureTuple := ctv, builtins := builtinsNs }, sl⟩ : Obj)
def frS (sc : Scope) : List Str := (sc.names.filter fun y => decide (y.2 = .free)).map (·.1)
/-- the n-th statement of the def q of the written part -/
def NthDef (K : PySem.W.Frag) (q : Str) (n : Nat) (st : Stmt) : Prop := ∃ (f : Addr) (o : Obj) (fd : FuncData) (body : List Stmt), PySem.W.nsIn K mainGlobals q = some (some (.ref f)) ∧ K.lookup f = some o ∧ o.data = .func fd ∧ fd.body = .stmts body ∧ body[n]? = some st
abbrev frOf (st : Stmt) : List Str := frS (C8.fnScope st)
variable [Tabs]
/-- a dict with keys of any kind -/
def DMo (a : Addr) (kvs : List (GK × V × V)) : HO := .ext fun h => (a == sysModules) = false ∧ kvs.length ≤ sizeLine ∧ ∃ (o : Obj) (es : Array DictEntry) (ep : Nat), h.get? a = some o ∧ o.ExactDict ∧ o.data = .dict es ep ∧ Paired (fun (p : GK × V × V) (e : DictEntry) => e.hash = gkH Tabs.W p.1 ∧ RelV p.2.1 e.key ∧ RelV p.2.2 e.val) kvs es.toList
/-- the words of the n-th function that the def q makes -/
def NthFn (K : PySem.W.Frag) (q : Str) (n : Nat) (F : FW) : Prop := match Tabs.L q n with
  | some (p, e, s) => F = (p, .expr e, s)
  | none => ∃ st, NthDef K q n st ∧ F = fwOf st
def HO.cell (o : Obj) : HO := .frz o (.own 0)
/-- the captured cells, laid frozen -/
structure CellG (G : Hp) (cl : List (Str × Addr)) (fr : List Str) (vs : List V) : Prop where
  len : vs.length = fr.length
  inj : ∀ x y c, cl.lookup x = some c → cl.lookup y = some c → x = y
  all : ∀ y c, cl.lookup y = some c → ∃ (o : Obj) (v : Option Value), G c = some (HO.cell o) ∧ o.data = .cell v
  has : ∀ (i : Nat) (y : Str) (v : V), fr[i]? = some y → vs[i]? = some v → ∃ (c : Addr) (o : Obj) (u : Value), cl.lookup y = some c ∧ G c = some (HO.cell o) ∧ o.data = .cell (some u) ∧ RelV v u

/-- a value as a tree; raw: an object as it is; gh: the k-th shared container; kt, kl: a tuple, a list that is read alone (the module's, the script) -/
inductive D where
  | non | bl (b : Bool) | int (i : Int) | str (x : Str) | raw (v : V) | gh (k : Nat)
  | tup (ds : List D) | lst (ds : List D) | kt (ds : List D) | kl (ds : List D) | fn (q : Str) (n : Nat) (cs : List (Str × Addr)) | clo (q : Str) (n : Nat) (caps : List D) | dK (kvs : List (Key × D)) | dT (kvs : List (List Key × D))
  | dM (kvs : List (GK × D)) | exc (C : Nat) (fs : List (Str × D)) | ins (C : Addr) (fs : List (Str × D))
mutual
def gkD : GK → D
  | .i n => .int n
  | .s x => .str x
  | .t ks => .tup (gkDL ks)
def gkDL : List GK → List D
  | [] => []
  | k :: ks => gkD k :: gkDL ks
end

mutual
inductive Rep (K : PySem.W.Frag) (γ : List Addr) (G : Hp) : V → D → Prop
  | non : Rep K γ G .non .non
  | bl (b : Bool) : Rep K γ G (.bl b) (.bl b)
  | int (i : Int) : Rep K γ G (.int i) (.int i)
  | str (x : Str) : Rep K γ G (.str x) (.str x)
  | raw (v : V) : Rep K γ G v (.raw v)
  | gh {k : Nat} {a : Addr} : γ[k]? = some a → Rep K γ G (.ref a) (.gh k)
  | tup {a : Addr} {xs : List V} {ds : List D} : G a = some (.tup xs) → RepL K γ G xs ds → Rep K γ G (.ref a) (.tup ds)
  | lst {a : Addr} {xs : List V} {ds : List D} : G a = some (.lst xs) → RepL K γ G xs ds → Rep K γ G (.ref a) (.lst ds)
  | kt {a : Addr} {xs : List V} {ds : List D} : SqT K G a xs → RepL K γ G xs ds → Rep K γ G (.ref a) (.kt ds)
  | kl {a : Addr} {xs : List V} {ds : List D} : SqL K G a xs → RepL K γ G xs ds → Rep K γ G (.ref a) (.kl ds)
  | fn {a c : Addr} {q name qual : Str} {n : Nat} {F : FW} {cs : List (Str × Addr)} : NthFn K q n F → G a = some (FnG a F name qual (cloFrom cs F.2.2.names []) c) → G c = some (LamX.CodeO c qual) → Rep K γ G (.ref a) (.fn q n cs)
  | clo {a c : Addr} {q name qual : Str} {n : Nat} {F : FW} {cl : List (Str × Addr)} {vs : List V} {ds : List D} : NthFn K q n F → G a = some (FnG a F name qual cl c) → G c = some (LamX.CodeO c qual) → CellG G cl (frS F.2.2) vs → RepL K γ G vs ds → Rep K γ G (.ref a) (.clo q n ds)
  | dK {a : Addr} {kvs : List (Key × V)} {es : List (Key × D)} : G a = some (.dK kvs) → kvs.map (·.1) = es.map (·.1) → RepL K γ G (kvs.map (·.2)) (es.map (·.2)) → Rep K γ G (.ref a) (.dK es)
  | dT {a : Addr} {kvs : List (List Key × V)} {es : List (List Key × D)} : G a = some (.dT kvs) → kvs.map (·.1) = es.map (·.1) → RepL K γ G (kvs.map (·.2)) (es.map (·.2)) → Rep K γ G (.ref a) (.dT es)
  | dM {a b : Addr} {kvs : List (GK × V × V)} {es : List (GK × D)} : G a = some (DMo b kvs) → kvs.map (·.1) = es.map (·.1) → GKs (es.map (·.1)) → RepL K γ G (kvs.map (·.2.1)) (es.map fun e => gkD e.1) → RepL K γ G (kvs.map (·.2.2)) (es.map (·.2)) → Rep K γ G (.ref a) (.dM es)
  | exc0 {a : Addr} {C : Nat} : G a = some (XcO a (Tabs.C C) none) → Rep K γ G (.ref a) (.exc C [])
  | exc1 {a dd : Addr} {C : Nat} {fv : List (Str × V)} {fs : List (Str × D)} : G a = some (XcO a (Tabs.C C) (some dd)) → G dd = some (.xd fv) → fv.map (·.1) = fs.map (·.1) → RepL K γ G (fv.map (·.2)) (fs.map (·.2)) → Rep K γ G (.ref a) (.exc C fs)
  | ins {a C dx : Addr} {fv : List (Str × V)} {fs : List (Str × D)} : G a = some (.ins C dx fv) → fv.map (·.1) = fs.map (·.1) → RepL K γ G (fv.map (·.2)) (fs.map (·.2)) → Rep K γ G (.ref a) (.ins C fs)
inductive RepL (K : PySem.W.Frag) (γ : List Addr) (G : Hp) : List V → List D → Prop
  | nil : RepL K γ G [] []
  | cons {v : V} {vs : List V} {d : D} {ds : List D} : Rep K γ G v d → RepL K γ G vs ds → RepL K γ G (v :: vs) (d :: ds)
end

/-- the content of a container that is not frozen -/
inductive ORep (K : PySem.W.Frag) (γ : List Addr) (G : Hp) : HO → D → Prop
  | lst {xs : List V} {ds : List D} : RepL K γ G xs ds → ORep K γ G (.lst xs) (.lst ds)
  | dK {kvs : List (Key × V)} {es : List (Key × D)} : kvs.map (·.1) = es.map (·.1) → RepL K γ G (kvs.map (·.2)) (es.map (·.2)) → ORep K γ G (.dK kvs) (.dK es)
  | dT {kvs : List (List Key × V)} {es : List (List Key × D)} : kvs.map (·.1) = es.map (·.1) → RepL K γ G (kvs.map (·.2)) (es.map (·.2)) → ORep K γ G (.dT kvs) (.dT es)
  | dM {b : Addr} {kvs : List (GK × V × V)} {es : List (GK × D)} : kvs.map (·.1) = es.map (·.1) → GKs (es.map (·.1)) → RepL K γ G (kvs.map (·.2.1)) (es.map fun e => gkD e.1) → RepL K γ G (kvs.map (·.2.2)) (es.map (·.2)) → ORep K γ G (DMo b kvs) (.dM es)
  | ins {C dx : Addr} {fv : List (Str × V)} {fs : List (Str × D)} : fv.map (·.1) = fs.map (·.1) → RepL K γ G (fv.map (·.2)) (fs.map (·.2)) → ORep K γ G (.ins C dx fv) (.ins C fs)

def Ext (G G' : Hp) : Prop := ∀ a o, G a = some o → G' a = some o
def Pre (γ γ' : List Addr) : Prop := ∃ more, γ' = γ ++ more
theorem Ext.refl (G : Hp) : Ext G G := fun _ _ h => h
theorem Ext.trans {G G1 G2 : Hp} (a : Ext G G1) (b : Ext G1 G2) : Ext G G2 := fun x o h => b x o (a x o h)
theorem Pre.refl (γ : List Addr) : Pre γ γ := ⟨[], by simp⟩
theorem Pre.trans {γ γ1 γ2 : List Addr} (a : Pre γ γ1) (b : Pre γ1 γ2) : Pre γ γ2 := by
  obtain ⟨m, rfl⟩ := a
  obtain ⟨n, rfl⟩ := b
  exact ⟨m ++ n, by simp⟩
theorem Pre.get {γ γ' : List Addr} (p : Pre γ γ') {k : Nat} {a : Addr} (h : γ[k]? = some a) : γ'[k]? = some a := by
  obtain ⟨m, rfl⟩ := p
  rw [List.getElem?_append_left (List.getElem?_eq_some_iff.mp h).1]
  exact h
theorem Pre.mem {γ γ' : List Addr} (p : Pre γ γ') {a : Addr} (h : a ∈ γ) : a ∈ γ' := by
  obtain ⟨m, rfl⟩ := p
  exact List.mem_append_left _ h

theorem sqL_ext {K : PySem.W.Frag} {G G' : Hp} (e : Ext G G') {a : Addr} {xs : List V} (h : SqL K G a xs) : SqL K G' a xs := by
  rcases h with (h | ⟨o, h⟩) | h
  · exact .inl (.inl (e _ _ h))
  · exact .inl (.inr ⟨o, e _ _ h⟩)
  · exact .inr h
theorem sqT_ext {K : PySem.W.Frag} {G G' : Hp} (e : Ext G G') {a : Addr} {xs : List V} (h : SqT K G a xs) : SqT K G' a xs := by
  rcases h with (h | ⟨o, h⟩) | h
  · exact .inl (.inl (e _ _ h))
  · exact .inl (.inr ⟨o, e _ _ h⟩)
  · exact .inr h

theorem CellG.ext {G G' : Hp} (e : Ext G G') {cl : List (Str × Addr)} {fr : List Str} {vs : List V} (h : CellG G cl fr vs) : CellG G' cl fr vs :=
  ⟨h.len, h.inj, fun y c q => let ⟨o, v, h1, h2⟩ := h.all y c q; ⟨o, v, e _ _ h1, h2⟩, fun i y v h1 h2 => let ⟨c, o, u, q1, q2, q3, q4⟩ := h.has i y v h1 h2; ⟨c, o, u, q1, e _ _ q2, q3, q4⟩⟩
section
variable {K : PySem.W.Frag} {γ γ' : List Addr} {G G' : Hp}
mutual
theorem Rep.mono (p : Pre γ γ') (e : Ext G G') : ∀ {v : V} {d : D}, Rep K γ G v d → Rep K γ' G' v d
  | _, _, .non => .non
  | _, _, .bl b => .bl b
  | _, _, .int i => .int i
  | _, _, .str x => .str x
  | _, _, .raw v => .raw v
  | _, _, .gh h => .gh (p.get h)
  | _, _, .tup h r => .tup (e _ _ h) (RepL.mono p e r)
  | _, _, .lst h r => .lst (e _ _ h) (RepL.mono p e r)
  | _, _, .kt h r => .kt (sqT_ext e h) (RepL.mono p e r)
  | _, _, .kl h r => .kl (sqL_ext e h) (RepL.mono p e r)
  | _, _, .fn h1 h2 h3 => .fn h1 (e _ _ h2) (e _ _ h3)
  | _, _, .clo h1 h2 h3 h4 r => .clo h1 (e _ _ h2) (e _ _ h3) (h4.ext e) (RepL.mono p e r)
  | _, _, .dK h k r => .dK (e _ _ h) k (RepL.mono p e r)
  | _, _, .dT h k r => .dT (e _ _ h) k (RepL.mono p e r)
  | _, _, .dM h k n r1 r2 => .dM (e _ _ h) k n (RepL.mono p e r1) (RepL.mono p e r2)
  | _, _, .exc0 h => .exc0 (e _ _ h)
  | _, _, .exc1 h h2 k r => .exc1 (e _ _ h) (e _ _ h2) k (RepL.mono p e r)
  | _, _, .ins h k r => .ins (e _ _ h) k (RepL.mono p e r)
theorem RepL.mono (p : Pre γ γ') (e : Ext G G') : ∀ {vs : List V} {ds : List D}, RepL K γ G vs ds → RepL K γ' G' vs ds
  | _, _, .nil => .nil
  | _, _, .cons h r => .cons (Rep.mono p e h) (RepL.mono p e r)
end
theorem ORep.mono (p : Pre γ γ') (e : Ext G G') {o : HO} {d : D} (h : ORep K γ G o d) : ORep K γ' G' o d := by
  cases h with
  | lst r => exact .lst (r.mono p e)
  | dK k r => exact .dK k (r.mono p e)
  | dT k r => exact .dT k (r.mono p e)
  | dM k n r1 r2 => exact .dM k n (r1.mono p e) (r2.mono p e)
  | ins k r => exact .ins k (r.mono p e)
theorem Rep.ofO {a : Addr} {o : HO} {d : D} (h : G a = some o) (r : ORep K γ G o d) : Rep K γ G (.ref a) d := by
  cases r with
  | lst r => exact .lst h r
  | dK k r => exact .dK h k r
  | dT k r => exact .dT h k r
  | dM k n r1 r2 => exact .dM h k n r1 r2
  | ins k r => exact .ins h k r
theorem RepL.length : ∀ {vs : List V} {ds : List D}, RepL K γ G vs ds → vs.length = ds.length
  | _, _, .nil => rfl
  | _, _, .cons _ r => by rw [List.length_cons, List.length_cons, RepL.length r]
theorem RepL.get : ∀ {vs : List V} {ds : List D} {i : Nat} {d : D}, RepL K γ G vs ds → ds[i]? = some d → ∃ v, vs[i]? = some v ∧ Rep K γ G v d
  | _, _, _, _, .nil, e => by simp at e
  | _, _, 0, _, .cons h _, e => by simp at e; subst e; exact ⟨_, rfl, h⟩
  | _, _, i + 1, d, .cons _ r, e => by
    obtain ⟨v, e1, h⟩ := RepL.get (i := i) r (by simpa using e)
    exact ⟨v, by simpa using e1, h⟩
theorem RepL.get' : ∀ {vs : List V} {ds : List D} {i : Nat} {v : V}, RepL K γ G vs ds → vs[i]? = some v → ∃ d, ds[i]? = some d ∧ Rep K γ G v d
  | _, _, _, _, .nil, e => by simp at e
  | _, _, 0, _, .cons h _, e => by simp at e; subst e; exact ⟨_, rfl, h⟩
  | _, _, i + 1, d, .cons _ r, e => by
    obtain ⟨v, e1, h⟩ := RepL.get' (i := i) r (by simpa using e)
    exact ⟨v, by simpa using e1, h⟩
theorem RepL.append : ∀ {vs ws : List V} {ds es : List D}, RepL K γ G vs ds → RepL K γ G ws es → RepL K γ G (vs ++ ws) (ds ++ es)
  | _, _, _, _, .nil, s => s
  | _, _, _, _, .cons h r, s => .cons h (RepL.append r s)
theorem RepL.take : ∀ {vs : List V} {ds : List D} (n : Nat), RepL K γ G vs ds → RepL K γ G (vs.take n) (ds.take n)
  | _, _, 0, _ => by simpa using RepL.nil
  | _, _, _ + 1, .nil => by simpa using RepL.nil
  | _, _, n + 1, .cons h r => by simpa using RepL.cons h (RepL.take n r)
theorem RepL.drop : ∀ {vs : List V} {ds : List D} (n : Nat), RepL K γ G vs ds → RepL K γ G (vs.drop n) (ds.drop n)
  | _, _, 0, r => by simpa using r
  | _, _, _ + 1, .nil => by simpa using RepL.nil
  | _, _, n + 1, .cons h r => by simpa using RepL.drop n r
theorem RepL.set : ∀ {vs : List V} {ds : List D} (i : Nat) {v : V} {d : D}, Rep K γ G v d → RepL K γ G vs ds → RepL K γ G (vs.set i v) (ds.set i d)
  | _, _, _, _, _, _, .nil => by simpa using RepL.nil
  | _, _, 0, _, _, q, .cons _ r => by simpa using RepL.cons q r
  | _, _, i + 1, _, _, q, .cons h r => by simpa using RepL.cons h (RepL.set i q r)
theorem RepL.reverse {vs : List V} {ds : List D} (h : RepL K γ G vs ds) : RepL K γ G vs.reverse ds.reverse := by
  induction vs generalizing ds with
  | nil => cases h; simpa using RepL.nil
  | cons v vs ih =>
    cases h with
    | cons a r => simpa using RepL.append (ih r) (.cons a .nil)
theorem RepL.dropLast {vs : List V} {ds : List D} (h : RepL K γ G vs ds) : RepL K γ G vs.dropLast ds.dropLast := by
  rw [List.dropLast_eq_take, List.dropLast_eq_take, h.length]
  exact h.take _
theorem RepL.eraseIdx : ∀ {vs : List V} {ds : List D} (i : Nat), RepL K γ G vs ds → RepL K γ G (vs.eraseIdx i) (ds.eraseIdx i)
  | _, _, _, .nil => by simpa using RepL.nil
  | _, _, 0, .cons _ r => by simpa using r
  | _, _, i + 1, .cons h r => by simpa using RepL.cons h (RepL.eraseIdx i r)
theorem RepL.flat : ∀ {vss : List (List V)} {dss : List (List D)}, List.length vss = List.length dss → (∀ (i : Nat) (vs : List V) (ds : List D), vss[i]? = some vs → dss[i]? = some ds → RepL K γ G vs ds) → RepL K γ G vss.flatten dss.flatten
  | [], [], _, _ => by simpa using RepL.nil
  | [], _ :: _, e, _ => by simp at e
  | _ :: _, [], e, _ => by simp at e
  | vs :: vss, ds :: dss, e, h => by
    rw [List.flatten_cons, List.flatten_cons]
    exact RepL.append (h 0 vs ds rfl rfl) (RepL.flat (by simpa using e) fun i vs ds h1 h2 => h (i + 1) vs ds (by simpa using h1) (by simpa using h2))
end

/-! ### the state -/
/-- what a slot holds: nothing known; a value; a container that this slot alone holds -/
inductive Sl where
  | no | val (d : D) | own (d : D)
/-- the slots, the shared containers -/
structure M where
  env : List Sl
  gs : List D
/-- the concrete side: what is frozen, all, the shared containers' addresses, the slots -/
structure Wd where
  G : Hp
  H : Hp
  γ : List Addr
  σ : L2.St

/-- a heap with one object alone -/
def oneH (a : Addr) (o : Obj) : Heap := { objs := ((List.replicate a ({ o with data := .freed } : Obj)) ++ [o]).toArray }
theorem oneH_at {a : Addr} {o : Obj} (n : o.data ≠ .freed) : (oneH a o).get? a = some o := by
  have e : (oneH a o).objs[a]? = some o := by
    unfold oneH
    rw [List.getElem?_toArray, List.getElem?_append_right (by simp)]
    simp
  unfold Heap.get?
  rw [e]
  obtain ⟨c, d, dt, sl⟩ := o
  cases dt <;> first | rfl | exact absurd rfl n
theorem oneH_ne {a b : Addr} {o : Obj} (h : b ≠ a) : (oneH a o).get? b = none := by
  unfold Heap.get? oneH
  rw [List.getElem?_toArray]
  rcases Nat.lt_trichotomy b a with c | c | c
  · rw [List.getElem?_append_left (by rw [List.length_replicate]; exact c), List.getElem?_replicate, if_pos c]
  · exact absurd c h
  · have hl : (List.replicate a ({ o with data := .freed } : Obj) ++ [o]).length ≤ b := by rw [List.length_append, List.length_replicate]; exact c
    rw [List.getElem?_eq_none hl]
/-- none of the layer's containers is -/
def Odd (o : HO) : Prop := (∃ c q, o = LamX.CodeO c q) ∨ (∃ ps, o = .tbl ps) ∨ ∃ fs, o = .xd fs
theorem dmo_code {a c : Addr} {q : Str} {kvs : List (GK × V × V)} : DMo a kvs ≠ LamX.CodeO c q := fun z => by
  unfold DMo LamX.CodeO at z
  have z := HO.ext.inj z
  have y := congrFun z (oneH c { cls := .none, data := .fields #[.none, .str q 0] })
  have at_ : (oneH c { cls := .none, data := .fields #[.none, .str q 0] }).get? c = some { cls := .none, data := .fields #[.none, .str q 0] } := oneH_at (by intro z; cases z)
  obtain ⟨_, _, o, es, ep, h1, _, h2, _⟩ := y.mpr ⟨_, _, 0, at_, rfl, rfl⟩
  by_cases e : a = c
  · rw [e, at_] at h1
    cases h1
    cases h2
  · rw [oneH_ne e] at h1; cases h1
theorem ORep.odd {K : PySem.W.Frag} {γ : List Addr} {G : Hp} {o : HO} {d : D} (h : ORep K γ G o d) : ¬ Odd o := by
  rintro (⟨c, q, z⟩ | ⟨ps, z⟩ | ⟨ps, z⟩)
  · cases h with
    | dM _ _ _ _ => exact dmo_code z
    | _ => cases z
  · cases h with
    | dM _ _ _ _ => cases z
    | _ => cases z
  · cases h with
    | dM _ _ _ _ => cases z
    | _ => cases z
theorem ORep.nt {K : PySem.W.Frag} {γ : List Addr} {G : Hp} {o : HO} {d : D} (h : ORep K γ G o d) : ∀ ps, o ≠ .tbl ps := fun ps z => h.odd (.inr (.inl ⟨ps, z⟩))
theorem tabs_upd {T : List NdefX.NTab} {H : Hp} {a : Addr} {o o' : HO} (t : NdefX.TabsN T H) (h : H a = some o) (n : ¬ Odd o) : NdefX.TabsN T (upd H a o') := fun p hp => by
  obtain ⟨ps, h1, h2, h3⟩ := t p hp
  refine ⟨ps, (upd_ne (fun z => ?_)).trans h1, h2, fun pos cv hc => ?_⟩
  · subst z; rw [h] at h1; cases h1; exact n (.inr (.inl ⟨_, rfl⟩))
  · obtain ⟨c, e1, e2⟩ := h3 pos cv hc
    refine ⟨c, e1, (upd_ne (fun z => ?_)).trans e2⟩
    subst z; rw [h] at e2; cases e2; exact n (.inl ⟨_, _, rfl⟩)
theorem tabs_new {T : List NdefX.NTab} {H : Hp} {a : Addr} {o : HO} (t : NdefX.TabsN T H) (h : H a = none) : NdefX.TabsN T (upd H a o) := t.ext fun b u e => (upd_ne (ne_of_none e h)).trans e
theorem nt_upd {G : Hp} {a : Addr} {o : HO} (h : ∀ b ps, G b ≠ some (.tbl ps)) (n : ∀ ps, o ≠ .tbl ps) : ∀ b ps, upd G a o b ≠ some (.tbl ps) := fun b ps z => by
  by_cases hb : b = a
  · subst hb; rw [upd_same] at z; cases z; exact n _ rfl
  · rw [upd_ne hb] at z; exact h b ps z
structure SOk (K : PySem.W.Frag) (w : Wd) (m : M) : Prop where
  sub : Ext w.G w.H
  len : m.env.length = w.σ.length
  val : ∀ (i : Nat) d, m.env[i]? = some (.val d) → ∃ v, w.σ[i]? = some (some v) ∧ Rep K w.γ w.G v d
  own : ∀ (i : Nat) d, m.env[i]? = some (.own d) → ∃ a o, w.σ[i]? = some (some (.ref a)) ∧ w.G a = none ∧ a ∉ w.γ ∧ w.H a = some o ∧ ORep K w.γ w.G o d
  inj : ∀ (i j : Nat) d e a, m.env[i]? = some (.own d) → m.env[j]? = some (.own e) → w.σ[i]? = some (some (.ref a)) → w.σ[j]? = some (some (.ref a)) → i = j
  gl : m.gs.length = w.γ.length
  gh : ∀ (k : Nat) a d, w.γ[k]? = some a → m.gs[k]? = some d → w.G a = none ∧ ∃ o, w.H a = some o ∧ ORep K w.γ w.G o d
  gnd : w.γ.Nodup
  tb : NdefX.TabsN Tabs.T w.H ∧ ∀ b ps, w.G b ≠ some (.tbl ps)

def Own (w : Wd) (m : M) (a : Addr) : Prop := a ∈ w.γ ∨ ∃ (i : Nat) (d : D), m.env[i]? = some (.own d) ∧ w.σ[i]? = some (some (.ref a))

structure Step (w : Wd) (O : Addr → Prop) (w' : Wd) (O' : Addr → Prop) : Prop where
  gg : Ext w.G w'.G
  fr : ∀ a o, w.H a = some o → ¬ O a → (∀ ps, o ≠ .tbl ps) → w'.H a = some o
  gn : ∀ a o, w'.G a = some o → w.G a = some o ∨ O a ∨ w.H a = none ∨ ∃ u, w.H a = some u ∧ Odd u
  on : ∀ a, O' a → O a ∨ w.H a = none
  al : ∀ a o, w.H a = some o → ∃ o', w'.H a = some o'
  gp : Pre w.γ w'.γ

theorem Step.refl (w : Wd) (O : Addr → Prop) : Step w O w O := ⟨Ext.refl _, fun _ _ h _ _ => h, fun _ _ h => .inl h, fun _ h => .inl h, fun _ o h => ⟨o, h⟩, Pre.refl _⟩
theorem none_or {α : Type} (x : Option α) : x = none ∨ ∃ o, x = some o := by cases x with | none => exact .inl rfl | some o => exact .inr ⟨o, rfl⟩
theorem Step.back {w w' : Wd} {O O' : Addr → Prop} (s : Step w O w' O') {a : Addr} (h : w'.H a = none) : w.H a = none := by
  rcases none_or (w.H a) with e | ⟨o, e⟩
  · exact e
  · obtain ⟨o', e'⟩ := s.al a o e
    rw [h] at e'; cases e'
theorem Step.trans {w w1 w2 : Wd} {O O1 O2 : Addr → Prop} (a : Step w O w1 O1) (b : Step w1 O1 w2 O2) : Step w O w2 O2 where
  gg := a.gg.trans b.gg
  fr := fun x o h n t => b.fr x o (a.fr x o h n t) (fun z => (a.on x z).elim n fun e => by rw [h] at e; cases e) t
  gn := fun x o h => by
    rcases b.gn x o h with h | h | h | ⟨u, h, hu⟩
    · exact a.gn x o h
    · exact .inr ((a.on x h).imp_right .inl)
    · exact .inr (.inr (.inl (a.back h)))
    · rcases none_or (w.H x) with e | ⟨u0, e⟩
      · exact .inr (.inr (.inl e))
      · by_cases ho : O x
        · exact .inr (.inl ho)
        · by_cases ht : ∃ ps, u0 = .tbl ps
          · exact .inr (.inr (.inr ⟨u0, e, .inr (.inl ht)⟩))
          · have z := a.fr x u0 e ho (fun ps z => ht ⟨ps, z⟩)
            rw [h] at z; cases z
            exact .inr (.inr (.inr ⟨u, e, hu⟩))
  on := fun x h => by
    rcases b.on x h with h | h
    · exact a.on x h
    · exact .inr (a.back h)
  al := fun x o h => by
    obtain ⟨o1, h1⟩ := a.al x o h
    exact b.al x o1 h1
  gp := a.gp.trans b.gp
theorem Step.weak {w w' : Wd} {O O' O2 : Addr → Prop} (s : Step w O w' O') (h : ∀ a, O2 a → O' a ∨ w'.H a = none) : Step w O w' O2 :=
  ⟨s.gg, s.fr, s.gn, fun a q => (h a q).elim (s.on a) fun z => .inr (s.back z), s.al, s.gp⟩

/-- what an expression gives: a frozen value; a new container that nobody else holds; what the i-th slot holds -/
inductive Ret where
  | fz (d : D) | tmp (d : D) | sl (i : Nat)

def RetOk (K : PySem.W.Frag) (H0 : Hp) (w : Wd) (m : M) (v : V) : Ret → Prop
  | .fz d => Rep K w.γ w.G v d
  | .tmp d => ∃ p o, v = .ref p ∧ H0 p = none ∧ w.G p = none ∧ ¬ Own w m p ∧ w.H p = some o ∧ ORep K w.γ w.G o d
  | .sl i => w.σ[i]? = some (some v)

theorem RetOk.step {K : PySem.W.Frag} {H0 : Hp} {w w' : Wd} {m m' : M} {v : V} {r : Ret} (h : RetOk K H0 w m v r) (s : Step w (Own w m) w' (Own w' m')) (e : w'.σ = w.σ) : RetOk K H0 w' m' v r := by
  cases r with
  | fz d => exact Rep.mono s.gp s.gg h
  | tmp d =>
    obtain ⟨p, o, rfl, h1, h2, h3, h4, h5⟩ := h
    refine ⟨p, o, rfl, h1, ?_, ?_, s.fr _ _ h4 h3 h5.nt, h5.mono s.gp s.gg⟩
    · rcases none_or (w'.G p) with e | ⟨u, e⟩
      · exact e
      · rcases s.gn p u e with z | z | z | ⟨u, z, hu⟩
        · rw [h2] at z; cases z
        · exact absurd z h3
        · rw [h4] at z; cases z
        · rw [h4] at z; cases z; exact absurd hu h5.odd
    · intro z
      rcases s.on p z with z | z
      · exact h3 z
      · rw [h4] at z; cases z
  | sl i => show w'.σ[i]? = some (some v); rw [e]; exact h
theorem RetOk.from {K : PySem.W.Frag} {H0 H1 : Hp} {w : Wd} {m : M} {v : V} {r : Ret} (h : RetOk K H1 w m v r) (b : ∀ a, H1 a = none → H0 a = none) : RetOk K H0 w m v r := by
  cases r with
  | fz d => exact h
  | tmp d =>
    obtain ⟨p, o, rfl, h1, h2, h3, h4, h5⟩ := h
    exact ⟨p, o, rfl, b _ h1, h2, h3, h4, h5⟩
  | sl i => exact h

/-- what is seen of a value -/
def Vw (K : PySem.W.Frag) (w : Wd) (v : V) : D → Prop
  | .non => v = .non
  | .bl b => v = .bl b
  | .int i => v = .int i
  | .str x => v = .str x
  | .raw u => v = u
  | .gh k => ∃ a, v = .ref a ∧ w.γ[k]? = some a
  | .tup ds => ∃ a xs, v = .ref a ∧ w.G a = some (.tup xs) ∧ RepL K w.γ w.G xs ds
  | .lst ds => ∃ a xs, v = .ref a ∧ w.H a = some (.lst xs) ∧ RepL K w.γ w.G xs ds
  | .kt ds => ∃ a xs, v = .ref a ∧ SqT K w.G a xs ∧ RepL K w.γ w.G xs ds
  | .kl ds => ∃ a xs, v = .ref a ∧ SqL K w.G a xs ∧ RepL K w.γ w.G xs ds
  | .fn q n cs => Rep K w.γ w.G v (.fn q n cs)
  | .clo q n ds => Rep K w.γ w.G v (.clo q n ds)
  | .dK es => ∃ a kvs, v = .ref a ∧ w.H a = some (.dK kvs) ∧ kvs.map (·.1) = es.map (·.1) ∧ RepL K w.γ w.G (kvs.map (·.2)) (es.map (·.2))
  | .dT es => ∃ a kvs, v = .ref a ∧ w.H a = some (.dT kvs) ∧ kvs.map (·.1) = es.map (·.1) ∧ RepL K w.γ w.G (kvs.map (·.2)) (es.map (·.2))
  | .dM es => ∃ a b kvs, v = .ref a ∧ w.H a = some (DMo b kvs) ∧ kvs.map (·.1) = es.map (·.1) ∧ GKs (es.map (·.1)) ∧ RepL K w.γ w.G (kvs.map (·.2.1)) (es.map fun e => gkD e.1) ∧ RepL K w.γ w.G (kvs.map (·.2.2)) (es.map (·.2))
  | .exc C fs => Rep K w.γ w.G v (.exc C fs)
  | .ins C fs => ∃ a dx fv, v = .ref a ∧ w.H a = some (.ins C dx fv) ∧ fv.map (·.1) = fs.map (·.1) ∧ RepL K w.γ w.G (fv.map (·.2)) (fs.map (·.2))
theorem Vw.ofRep {K : PySem.W.Frag} {w : Wd} {v : V} {d : D} (e : Ext w.G w.H) (h : Rep K w.γ w.G v d) : Vw K w v d := by
  cases h with
  | non => rfl
  | bl b => rfl
  | int i => rfl
  | str x => rfl
  | raw v => rfl
  | gh h => exact ⟨_, rfl, h⟩
  | tup h r => exact ⟨_, _, rfl, h, r⟩
  | lst h r => exact ⟨_, _, rfl, e _ _ h, r⟩
  | kt h r => exact ⟨_, _, rfl, h, r⟩
  | kl h r => exact ⟨_, _, rfl, h, r⟩
  | fn h1 h2 h3 => exact .fn h1 h2 h3
  | clo h1 h2 h3 h4 r => exact .clo h1 h2 h3 h4 r
  | dK h k r => exact ⟨_, _, rfl, e _ _ h, k, r⟩
  | dT h k r => exact ⟨_, _, rfl, e _ _ h, k, r⟩
  | dM h k n r1 r2 => exact ⟨_, _, _, rfl, e _ _ h, k, n, r1, r2⟩
  | exc0 h => exact .exc0 h
  | exc1 h h2 k r => exact .exc1 h h2 k r
  | ins h k r => exact ⟨_, _, _, rfl, e _ _ h, k, r⟩
theorem Vw.ofO {K : PySem.W.Frag} {w : Wd} {a : Addr} {o : HO} {d : D} (h : w.H a = some o) (r : ORep K w.γ w.G o d) : Vw K w (.ref a) d := by
  cases r with
  | lst r => exact ⟨_, _, rfl, h, r⟩
  | dK k r => exact ⟨_, _, rfl, h, k, r⟩
  | dT k r => exact ⟨_, _, rfl, h, k, r⟩
  | dM k n r1 r2 => exact ⟨_, _, _, rfl, h, k, n, r1, r2⟩
  | ins k r => exact ⟨_, _, _, rfl, h, k, r⟩

def deg (m : M) : D → Option D
  | .gh k => m.gs[k]?
  | d => some d
/-- the content that is seen -/
def view (m : M) : Ret → Option D
  | .fz d => deg m d
  | .tmp d => some d
  | .sl i => match m.env[i]? with
    | some (.own d) => some d
    | some (.val d) => deg m d
    | _ => none

section
variable {K : PySem.W.Frag} {w w' : Wd} {m m' : M}
theorem SOk.ghAt (s : SOk K w m) {k : Nat} {d : D} (h : m.gs[k]? = some d) : ∃ a o, w.γ[k]? = some a ∧ w.G a = none ∧ w.H a = some o ∧ ORep K w.γ w.G o d := by
  have hk := (List.getElem?_eq_some_iff.mp h).1
  have e : w.γ[k]? = some (w.γ[k]'(by rw [← s.gl]; exact hk)) := List.getElem?_eq_getElem _
  obtain ⟨h1, o, h2, h3⟩ := s.gh k _ d e h
  exact ⟨_, o, e, h1, h2, h3⟩
theorem SOk.seen (s : SOk K w m) {v : V} {d e : D} (h : Rep K w.γ w.G v d) (q : deg m d = some e) : Vw K w v e := by
  cases d
  case gh k =>
    cases h with
    | gh h =>
      obtain ⟨a, o, h1, h2, h3, h4⟩ := s.ghAt (show m.gs[k]? = some e from q)
      rw [h] at h1
      cases h1
      exact .ofO h3 h4
  all_goals
    dsimp only [deg] at q
    cases q
    exact .ofRep s.sub h
theorem SOk.view (s : SOk K w m) {H0 : Hp} {v : V} {r : Ret} {d : D} (h : RetOk K H0 w m v r) (q : view m r = some d) : Vw K w v d := by
  cases r with
  | fz e => exact s.seen h q
  | tmp e =>
    cases q
    obtain ⟨p, o, rfl, _, _, _, h4, h5⟩ := h
    exact .ofO h4 h5
  | sl i =>
    have h : w.σ[i]? = some (some v) := h
    dsimp only [VL.view] at q
    split at q
    · rename_i e he
      cases q
      obtain ⟨a, o, h1, _, _, h4, h5⟩ := s.own i _ he
      rw [h] at h1
      cases h1
      exact .ofO h4 h5
    · rename_i e he
      obtain ⟨v', h1, h2⟩ := s.val i _ he
      rw [h] at h1
      cases h1
      exact s.seen h2 q
    · cases q

/-- a new object is laid, frozen -/
def Wd.lay (w : Wd) (p : Addr) (o : HO) : Wd := ⟨upd w.G p o, upd w.H p o, w.γ, w.σ⟩
def Wd.put (w : Wd) (p : Addr) (o : HO) : Wd := ⟨w.G, upd w.H p o, w.γ, w.σ⟩
def Wd.frz (w : Wd) (p : Addr) (o : HO) : Wd := ⟨upd w.G p o, w.H, w.γ, w.σ⟩
def Wd.slot (w : Wd) (i : Nat) (v : V) : Wd := ⟨w.G, w.H, w.γ, w.σ.set i (some v)⟩
theorem ext_upd {G : Hp} {p : Addr} {o : HO} (h : G p = none) : Ext G (upd G p o) := fun a u e => by
  rw [upd_ne (ne_of_none e h)]; exact e
theorem ext_upd2 {G H : Hp} {p : Addr} {o : HO} (s : Ext G H) : Ext (upd G p o) (upd H p o) := fun a u e => by
  by_cases ha : a = p
  · subst ha; rw [upd_same] at e ⊢; exact e
  · rw [upd_ne ha] at e ⊢; exact s a u e
theorem SOk.gnone (s : SOk K w m) {p : Addr} (h : w.H p = none) : w.G p = none := by
  rcases none_or (w.G p) with e | ⟨o, e⟩
  · exact e
  · rw [s.sub _ _ e] at h; cases h
theorem SOk.ownAl (s : SOk K w m) {p : Addr} (h : Own w m p) : w.G p = none ∧ ∃ o, w.H p = some o := by
  rcases h with h | ⟨i, d, h1, h2⟩
  · obtain ⟨k, hk⟩ := List.mem_iff_getElem?.mp h
    have hl : k < m.gs.length := by rw [s.gl]; exact (List.getElem?_eq_some_iff.mp hk).1
    obtain ⟨e1, o, e2, _⟩ := s.gh k p _ hk (List.getElem?_eq_getElem hl)
    exact ⟨e1, o, e2⟩
  · obtain ⟨a, o, e1, e2, _, e4, _⟩ := s.own i d h1
    rw [h2] at e1
    cases e1
    exact ⟨e2, o, e4⟩
theorem SOk.notOwn (s : SOk K w m) {p : Addr} (h : w.H p = none) : ¬ Own w m p := fun z => by
  obtain ⟨_, o, e⟩ := s.ownAl z
  rw [h] at e; cases e
theorem SOk.lay (s : SOk K w m) {p : Addr} {o : HO} (h : w.H p = none) (nt : ∀ ps, o ≠ .tbl ps := by intro _ z; cases z) : SOk K (w.lay p o) m ∧ Step w (Own w m) (w.lay p o) (Own (w.lay p o) m) := by
  have hg := s.gnone h
  have e := ext_upd (o := o) hg
  have ne : ∀ a, (∃ u, w.H a = some u) → a ≠ p := fun a ⟨u, z⟩ q => by subst q; rw [h] at z; cases z
  refine ⟨⟨ext_upd2 s.sub, s.len, fun i d q => ?_, fun i d q => ?_, s.inj, s.gl, fun k a d h1 h2 => ?_, s.gnd, tabs_new s.tb.1 h, nt_upd s.tb.2 nt⟩, ⟨e, fun a u q _ _ => ?_, fun a u q => ?_, fun a q => .inl q, fun a u q => ?_, Pre.refl _⟩⟩
  · obtain ⟨v, h1, h2⟩ := s.val i d q
    exact ⟨v, h1, h2.mono (Pre.refl _) e⟩
  · obtain ⟨a, u, h1, h2, h3, h4, h5⟩ := s.own i d q
    have n := ne a ⟨u, h4⟩
    exact ⟨a, u, h1, (upd_ne n).trans h2, h3, (upd_ne n).trans h4, h5.mono (Pre.refl _) e⟩
  · obtain ⟨h3, u, h4, h5⟩ := s.gh k a d h1 h2
    have n := ne a ⟨u, h4⟩
    exact ⟨(upd_ne n).trans h3, u, (upd_ne n).trans h4, h5.mono (Pre.refl _) e⟩
  · exact (upd_ne (ne a ⟨u, q⟩)).trans q
  · by_cases ha : a = p
    · subst ha; exact .inr (.inr (.inl h))
    · exact .inl ((upd_ne ha).symm.trans q)
  · exact ⟨u, (upd_ne (ne a ⟨u, q⟩)).trans q⟩
/-- a new object that nobody holds -/
theorem SOk.put (s : SOk K w m) {p : Addr} {o : HO} (h : w.H p = none) : SOk K (w.put p o) m ∧ Step w (Own w m) (w.put p o) (Own (w.put p o) m) := by
  have ne : ∀ a, (∃ u, w.H a = some u) → a ≠ p := fun a ⟨u, z⟩ q => by subst q; rw [h] at z; cases z
  refine ⟨⟨s.sub.trans (ext_upd h), s.len, s.val, fun i d q => ?_, s.inj, s.gl, fun k a d h1 h2 => ?_, s.gnd, tabs_new s.tb.1 h, s.tb.2⟩, ⟨Ext.refl _, fun a u q _ _ => ?_, fun a u q => .inl q, fun a q => .inl q, fun a u q => ?_, Pre.refl _⟩⟩
  · obtain ⟨a, u, h1, h2, h3, h4, h5⟩ := s.own i d q
    exact ⟨a, u, h1, h2, h3, (upd_ne (ne a ⟨u, h4⟩)).trans h4, h5⟩
  · obtain ⟨h3, u, h4, h5⟩ := s.gh k a d h1 h2
    exact ⟨h3, u, (upd_ne (ne a ⟨u, h4⟩)).trans h4, h5⟩
  · exact (upd_ne (ne a ⟨u, q⟩)).trans q
  · exact ⟨u, (upd_ne (ne a ⟨u, q⟩)).trans q⟩
theorem SOk.putRet (s : SOk K w m) {p : Addr} {o : HO} {d : D} (h : w.H p = none) (r : ORep K w.γ w.G o d) : RetOk K w.H (w.put p o) m (.ref p) (.tmp d) := by
  refine ⟨p, o, rfl, h, s.gnone h, fun z => ?_, upd_same, r⟩
  exact s.notOwn h z
/-- a container that nobody else holds is frozen -/
theorem SOk.frz (s : SOk K w m) {p : Addr} {o : HO} (h : w.H p = some o) (hg : w.G p = none) (n : ¬ Own w m p) (nt : ∀ ps, o ≠ .tbl ps) : SOk K (w.frz p o) m ∧ (∀ H0 : Hp, H0 p = none → ∀ w0 O0, w0.H = H0 → Step w0 O0 w (Own w m) → Step w0 O0 (w.frz p o) (Own (w.frz p o) m)) := by
  have e := ext_upd (o := o) hg
  refine ⟨⟨fun a u q => ?_, s.len, fun i d q => ?_, fun i d q => ?_, s.inj, s.gl, fun k a d h1 h2 => ?_, s.gnd, s.tb.1, nt_upd s.tb.2 nt⟩, fun H0 h0 w0 O0 e0 st => ⟨st.gg.trans e, st.fr, fun a u q => ?_, st.on, st.al, st.gp⟩⟩
  · by_cases ha : a = p
    · subst ha; rw [show (w.frz a o).G a = some o from upd_same] at q; cases q; exact h
    · exact s.sub a u ((upd_ne ha).symm.trans q)
  · obtain ⟨v, h1, h2⟩ := s.val i d q
    exact ⟨v, h1, h2.mono (Pre.refl _) e⟩
  · obtain ⟨a, u, h1, h2, h3, h4, h5⟩ := s.own i d q
    have na : a ≠ p := fun z => n (.inr ⟨i, d, q, by rw [← z]; exact h1⟩)
    exact ⟨a, u, h1, (upd_ne na).trans h2, h3, h4, h5.mono (Pre.refl _) e⟩
  · obtain ⟨h3, u, h4, h5⟩ := s.gh k a d h1 h2
    have na : a ≠ p := fun z => n (.inl (by rw [← z]; exact List.mem_of_getElem? h1))
    exact ⟨(upd_ne na).trans h3, u, h4, h5.mono (Pre.refl _) e⟩
  · by_cases ha : a = p
    · subst ha; exact .inr (.inr (.inl (by rw [e0]; exact h0)))
    · exact st.gn a u ((upd_ne ha).symm.trans q)
end
end VL

/-! The value layer: slots stored, containers written; the judgements. -/
namespace VL
open PySem PySem.Spec PyProof.Rows L2
variable [Tabs]
section
variable {K : PySem.W.Frag} {w w' : Wd} {m m' : M}
theorem getset {α : Type} {l : List α} {i j : Nat} {x y : α} (h : (l.set i x)[j]? = some y) : (j = i ∧ y = x ∧ i < l.length) ∨ (j ≠ i ∧ l[j]? = some y) := by
  by_cases e : j = i
  · subst e
    have hl : j < l.length := by
      have z := (List.getElem?_eq_some_iff.mp h).1
      rw [List.length_set] at z; exact z
    rw [List.getElem?_set_self hl] at h
    cases h
    exact .inl ⟨rfl, rfl, hl⟩
  · rw [List.getElem?_set_ne (Ne.symm e)] at h
    exact .inr ⟨e, h⟩
def M.set (m : M) (i : Nat) (s : Sl) : M := ⟨m.env.set i s, m.gs⟩
theorem SOk.slotFrz (s : SOk K w m) {i : Nat} {d : D} {a : Addr} {o : HO} (h : m.env[i]? = some (.own d)) (ha : w.σ[i]? = some (some (.ref a))) (ho : w.H a = some o) (hg : w.G a = none) (hn : a ∉ w.γ) (r : ORep K w.γ w.G o d) :
    SOk K (w.frz a o) (m.set i (.val d)) ∧ Step w (Own w m) (w.frz a o) (Own (w.frz a o) (m.set i (.val d))) := by
  have e := ext_upd (o := o) hg
  refine ⟨⟨fun b u q => ?_, by have z := s.len; simpa [M.set, Wd.frz, Wd.put, Wd.slot] using z, fun j d' q => ?_, fun j d' q => ?_, fun j k d1 d2 b q1 q2 => ?_, s.gl, fun k b d' h1 h2 => ?_, s.gnd, s.tb.1, nt_upd s.tb.2 r.nt⟩, ⟨e, fun _ _ q _ _ => q, fun b u q => ?_, fun b q => ?_, fun b u q => ⟨u, q⟩, Pre.refl _⟩⟩
  · by_cases hb : b = a
    · subst hb; rw [show (w.frz b o).G b = some o from upd_same] at q; cases q; exact ho
    · exact s.sub b u ((upd_ne hb).symm.trans q)
  · rcases getset q with ⟨rfl, z, _⟩ | ⟨_, q⟩
    · cases z
      exact ⟨_, ha, Rep.ofO upd_same (r.mono (Pre.refl _) e)⟩
    · obtain ⟨v, h1, h2⟩ := s.val j d' q
      exact ⟨v, h1, h2.mono (Pre.refl _) e⟩
  · rcases getset q with ⟨_, z, _⟩ | ⟨hj, q⟩
    · cases z
    · obtain ⟨b, u, h1, h2, h3, h4, h5⟩ := s.own j d' q
      have nb : b ≠ a := fun z => hj (s.inj j i _ _ a q h (by rw [← z]; exact h1) ha)
      exact ⟨b, u, h1, (upd_ne nb).trans h2, h3, h4, h5.mono (Pre.refl _) e⟩
  · rcases getset q1 with ⟨_, z, _⟩ | ⟨_, q1⟩
    · cases z
    · rcases getset q2 with ⟨_, z, _⟩ | ⟨_, q2⟩
      · cases z
      · exact s.inj j k d1 d2 b q1 q2
  · obtain ⟨h3, u, h4, h5⟩ := s.gh k b d' h1 h2
    have nb : b ≠ a := fun z => hn (by rw [← z]; exact List.mem_of_getElem? h1)
    exact ⟨(upd_ne nb).trans h3, u, h4, h5.mono (Pre.refl _) e⟩
  · by_cases hb : b = a
    · subst hb; exact .inr (.inl (.inr ⟨i, d, h, ha⟩))
    · exact .inl ((upd_ne hb).symm.trans q)
  · rcases q with q | ⟨j, d', q1, q2⟩
    · exact .inl (.inl q)
    · rcases getset q1 with ⟨_, z, _⟩ | ⟨_, q1⟩
      · cases z
      · exact .inl (.inr ⟨j, d', q1, q2⟩)
theorem SOk.setVal (s : SOk K w m) {i : Nat} {v : V} {d : D} (hi : i < w.σ.length) (r : Rep K w.γ w.G v d) :
    SOk K (w.slot i v) (m.set i (.val d)) ∧ Step w (Own w m) (w.slot i v) (Own (w.slot i v) (m.set i (.val d))) := by
  have old : ∀ (j : Nat) s', (m.set i (.val d)).env[j]? = some s' → (j = i ∧ s' = .val d) ∨ (j ≠ i ∧ m.env[j]? = some s') := fun j s' q => (getset q).elim (fun z => .inl ⟨z.1, z.2.1⟩) .inr
  have sg : ∀ {j : Nat}, j ≠ i → (w.slot i v).σ[j]? = w.σ[j]? := fun hj => List.getElem?_set_ne (Ne.symm hj)
  refine ⟨⟨s.sub, by have z := s.len; simpa [M.set, Wd.frz, Wd.put, Wd.slot] using z, fun j d' q => ?_, fun j d' q => ?_, fun j k d1 d2 b q1 q2 e1 e2 => ?_, s.gl, s.gh, s.gnd, s.tb⟩, ⟨Ext.refl _, fun _ _ q _ _ => q, fun _ _ q => .inl q, fun b q => ?_, fun b u q => ⟨u, q⟩, Pre.refl _⟩⟩
  · rcases old j _ q with ⟨rfl, z⟩ | ⟨hj, q⟩
    · cases z; exact ⟨v, List.getElem?_set_self hi, r⟩
    · obtain ⟨u, h1, h2⟩ := s.val j d' q
      exact ⟨u, (sg hj).trans h1, h2⟩
  · rcases old j _ q with ⟨rfl, z⟩ | ⟨hj, q⟩
    · cases z
    · obtain ⟨a, o, h1, h2⟩ := s.own j d' q
      exact ⟨a, o, (sg hj).trans h1, h2⟩
  · rcases old j _ q1 with ⟨_, z⟩ | ⟨hj, q1⟩
    · cases z
    · rcases old k _ q2 with ⟨_, z⟩ | ⟨hk, q2⟩
      · cases z
      · exact s.inj j k d1 d2 b q1 q2 ((sg hj).symm.trans e1) ((sg hk).symm.trans e2)
  · rcases q with q | ⟨j, d', q1, q2⟩
    · exact .inl (.inl q)
    · rcases old j _ q1 with ⟨_, z⟩ | ⟨hj, q1⟩
      · cases z
      · exact .inl (.inr ⟨j, d', q1, (sg hj).symm.trans q2⟩)
theorem SOk.setOwn (s : SOk K w m) {i : Nat} {p : Addr} {o : HO} {d : D} (hi : i < w.σ.length) (hg : w.G p = none) (n : ¬ Own w m p) (hp : w.H p = some o) (r : ORep K w.γ w.G o d) :
    SOk K (w.slot i (.ref p)) (m.set i (.own d)) ∧ ∀ a, Own (w.slot i (.ref p)) (m.set i (.own d)) a → Own w m a ∨ a = p := by
  have old : ∀ (j : Nat) s', (m.set i (.own d)).env[j]? = some s' → (j = i ∧ s' = .own d) ∨ (j ≠ i ∧ m.env[j]? = some s') := fun j s' q => (getset q).elim (fun z => .inl ⟨z.1, z.2.1⟩) .inr
  have sg : ∀ {j : Nat}, j ≠ i → (w.slot i (.ref p)).σ[j]? = w.σ[j]? := fun hj => List.getElem?_set_ne (Ne.symm hj)
  have si : (w.slot i (.ref p)).σ[i]? = some (some (.ref p)) := List.getElem?_set_self hi
  refine ⟨⟨s.sub, by have z := s.len; simpa [M.set, Wd.frz, Wd.put, Wd.slot] using z, fun j d' q => ?_, fun j d' q => ?_, fun j k d1 d2 b q1 q2 e1 e2 => ?_, s.gl, s.gh, s.gnd, s.tb⟩, fun b q => ?_⟩
  · rcases old j _ q with ⟨_, z⟩ | ⟨hj, q⟩
    · cases z
    · obtain ⟨u, h1, h2⟩ := s.val j d' q
      exact ⟨u, (sg hj).trans h1, h2⟩
  · rcases old j _ q with ⟨rfl, z⟩ | ⟨hj, q⟩
    · cases z; exact ⟨p, o, si, hg, fun z => n (.inl z), hp, r⟩
    · obtain ⟨a, o, h1, h2⟩ := s.own j d' q
      exact ⟨a, o, (sg hj).trans h1, h2⟩
  · rcases old j _ q1 with ⟨hj, z1⟩ | ⟨hj, r1⟩
    · rcases old k _ q2 with ⟨hk, _⟩ | ⟨hk, r2⟩
      · rw [hj, hk]
      · subst hj
        have z := e1.symm.trans si
        cases z
        exact absurd (.inr ⟨k, d2, r2, (sg hk).symm.trans e2⟩) n
    · rcases old k _ q2 with ⟨hk, _⟩ | ⟨hk, r2⟩
      · subst hk
        have z := e2.symm.trans si
        cases z
        exact absurd (.inr ⟨j, d1, r1, (sg hj).symm.trans e1⟩) n
      · exact s.inj j k d1 d2 b r1 r2 ((sg hj).symm.trans e1) ((sg hk).symm.trans e2)
  · rcases q with q | ⟨j, d', q1, q2⟩
    · exact .inl (.inl q)
    · rcases old j _ q1 with ⟨hj, z⟩ | ⟨hj, q1⟩
      · subst hj
        have z := q2.symm.trans si
        cases z
        exact .inr rfl
      · exact .inl (.inr ⟨j, d', q1, (sg hj).symm.trans q2⟩)
/-- the i-th slot's own container is written -/
theorem SOk.write (s : SOk K w m) {i : Nat} {d d' : D} {a : Addr} {o' : HO} (h : m.env[i]? = some (.own d)) (ha : w.σ[i]? = some (some (.ref a))) (r : ORep K w.γ w.G o' d') :
    SOk K (w.put a o') (m.set i (.own d')) ∧ Step w (Own w m) (w.put a o') (Own (w.put a o') (m.set i (.own d'))) := by
  obtain ⟨a', o, ha', hg, hn, ho, r0⟩ := s.own i d h
  have z := ha'.symm.trans ha
  cases z
  have old : ∀ (j : Nat) s', (m.set i (.own d')).env[j]? = some s' → (j = i ∧ s' = .own d') ∨ (j ≠ i ∧ m.env[j]? = some s') := fun j s' q => (getset q).elim (fun z => .inl ⟨z.1, z.2.1⟩) .inr
  have ownd : ∀ (j : Nat) e, (m.set i (.own d')).env[j]? = some (.own e) → ∃ e', m.env[j]? = some (.own e') := fun j e q => by
    rcases old j _ q with ⟨hj, _⟩ | ⟨_, q⟩
    · exact ⟨d, by rw [hj]; exact h⟩
    · exact ⟨e, q⟩
  refine ⟨⟨fun b u q => ?_, by have z := s.len; simpa [M.set, Wd.frz, Wd.put, Wd.slot] using z, fun j e q => ?_, fun j e q => ?_, fun j k d1 d2 b q1 q2 e1 e2 => ?_, s.gl, fun k b e h1 h2 => ?_, s.gnd, tabs_upd s.tb.1 ho r0.odd, s.tb.2⟩, ⟨Ext.refl _, fun b u q nb _ => ?_, fun _ _ q => .inl q, fun b q => ?_, fun b u q => ?_, Pre.refl _⟩⟩
  · have nb : b ≠ a := fun z => by rw [z] at q; rw [show w.G a = some u from q] at hg; cases hg
    exact (upd_ne nb).trans (s.sub b u q)
  · rcases old j _ q with ⟨_, z⟩ | ⟨_, q⟩
    · cases z
    · exact s.val j e q
  · rcases old j _ q with ⟨hj, z⟩ | ⟨hj, q⟩
    · subst hj
      cases z
      exact ⟨a, o', ha, hg, hn, upd_same, r⟩
    · obtain ⟨b, u, h1, h2, h3, h4, h5⟩ := s.own j e q
      have nb : b ≠ a := fun z => hj (s.inj j i _ _ a q h (by rw [← z]; exact h1) ha)
      exact ⟨b, u, h1, h2, h3, (upd_ne nb).trans h4, h5⟩
  · obtain ⟨e1', z1⟩ := ownd j _ q1
    obtain ⟨e2', z2⟩ := ownd k _ q2
    exact s.inj j k _ _ b z1 z2 e1 e2
  · obtain ⟨h3, u, h4, h5⟩ := s.gh k b e h1 h2
    have nb : b ≠ a := fun z => hn (by rw [← z]; exact List.mem_of_getElem? h1)
    exact ⟨h3, u, (upd_ne nb).trans h4, h5⟩
  · have : b ≠ a := fun z => nb (.inr ⟨i, d, h, by rw [z]; exact ha⟩)
    exact (upd_ne this).trans q
  · rcases q with q | ⟨j, e, q1, q2⟩
    · exact .inl (.inl q)
    · obtain ⟨e', z⟩ := ownd j _ q1
      exact .inl (.inr ⟨j, e', z, q2⟩)
  · by_cases hb : b = a
    · exact ⟨o', by rw [hb]; exact upd_same⟩
    · exact ⟨u, (upd_ne hb).trans q⟩
/-- the k-th shared container is written -/
theorem SOk.writeG (s : SOk K w m) {k : Nat} {d' : D} {a : Addr} {o' : HO} (hk : w.γ[k]? = some a) (r : ORep K w.γ w.G o' d') :
    SOk K (w.put a o') ⟨m.env, m.gs.set k d'⟩ ∧ Step w (Own w m) (w.put a o') (Own (w.put a o') ⟨m.env, m.gs.set k d'⟩) := by
  have hm : a ∈ w.γ := List.mem_of_getElem? hk
  have hg := (s.ownAl (.inl hm)).1
  have hl0 : k < m.gs.length := by rw [s.gl]; exact (List.getElem?_eq_some_iff.mp hk).1
  obtain ⟨_, o0, h0, r0⟩ := s.gh k a _ hk (List.getElem?_eq_getElem hl0)
  refine ⟨⟨fun b u q => ?_, s.len, s.val, fun j e q => ?_, s.inj, by have z := s.gl; simpa [Wd.put] using z, fun j b e h1 h2 => ?_, s.gnd, tabs_upd s.tb.1 h0 r0.odd, s.tb.2⟩, ⟨Ext.refl _, fun b u q nb _ => ?_, fun _ _ q => .inl q, fun b q => .inl q, fun b u q => ?_, Pre.refl _⟩⟩
  · have nb : b ≠ a := fun z => by rw [z] at q; rw [show w.G a = some u from q] at hg; cases hg
    exact (upd_ne nb).trans (s.sub b u q)
  · obtain ⟨b, u, h1, h2, h3, h4, h5⟩ := s.own j e q
    have nb : b ≠ a := fun z => h3 (by rw [z]; exact hm)
    exact ⟨b, u, h1, h2, h3, (upd_ne nb).trans h4, h5⟩
  · rcases getset h2 with ⟨rfl, z, _⟩ | ⟨hj, h2⟩
    · have h1 : w.γ[j]? = some b := h1
      rw [hk] at h1
      cases h1; cases z
      exact ⟨hg, o', upd_same, r⟩
    · obtain ⟨h3, u, h4, h5⟩ := s.gh j b e h1 h2
      have nb : b ≠ a := fun z => hj (by
        have h1 : w.γ[j]? = some b := h1
        rw [z] at h1
        obtain ⟨l1, e1⟩ := List.getElem?_eq_some_iff.mp h1
        obtain ⟨l2, e2⟩ := List.getElem?_eq_some_iff.mp hk
        exact (List.getElem_inj s.gnd).mp (e1.trans e2.symm))
      exact ⟨h3, u, (upd_ne nb).trans h4, h5⟩
  · have : b ≠ a := fun z => nb (.inl (by rw [z]; exact hm))
    exact (upd_ne this).trans q
  · by_cases hb : b = a
    · exact ⟨o', by rw [hb]; exact upd_same⟩
    · exact ⟨u, (upd_ne hb).trans q⟩
/-- a slot's own container becomes a shared one -/
theorem SOk.share (s : SOk K w m) {i : Nat} {d : D} {a : Addr} (h : m.env[i]? = some (.own d)) (ha : w.σ[i]? = some (some (.ref a))) :
    SOk K ⟨w.G, w.H, w.γ ++ [a], w.σ⟩ ⟨m.env.set i (.val (.gh m.gs.length)), m.gs ++ [d]⟩ ∧ Step w (Own w m) ⟨w.G, w.H, w.γ ++ [a], w.σ⟩ (Own ⟨w.G, w.H, w.γ ++ [a], w.σ⟩ ⟨m.env.set i (.val (.gh m.gs.length)), m.gs ++ [d]⟩) := by
  obtain ⟨a', o, ha', hg, hn, ho, r⟩ := s.own i d h
  have z := ha'.symm.trans ha
  cases z
  have p : Pre w.γ (w.γ ++ [a]) := ⟨[a], rfl⟩
  refine ⟨⟨s.sub, by simpa using s.len, fun j d' q => ?_, fun j d' q => ?_, fun j k d1 d2 b q1 q2 => ?_, by simp [s.gl], fun k b e h1 h2 => ?_, ?_, s.tb⟩, ⟨Ext.refl _, fun _ _ q _ _ => q, fun _ _ q => .inl q, fun b q => ?_, fun b u q => ⟨u, q⟩, p⟩⟩
  · rcases getset q with ⟨rfl, z, _⟩ | ⟨_, q⟩
    · cases z
      refine ⟨_, ha, .gh ?_⟩
      show (w.γ ++ [a])[m.gs.length]? = some a
      rw [s.gl]; simp
    · obtain ⟨v, h1, h2⟩ := s.val j d' q
      exact ⟨v, h1, h2.mono p (Ext.refl _)⟩
  · rcases getset q with ⟨_, z, _⟩ | ⟨hj, q⟩
    · cases z
    · obtain ⟨b, u, h1, h2, h3, h4, h5⟩ := s.own j d' q
      have nb : b ≠ a := fun z => hj (s.inj j i _ _ a q h (by rw [← z]; exact h1) ha)
      exact ⟨b, u, h1, h2, by simp [h3, nb], h4, h5.mono p (Ext.refl _)⟩
  · rcases getset q1 with ⟨_, z, _⟩ | ⟨_, q1⟩
    · cases z
    · rcases getset q2 with ⟨_, z, _⟩ | ⟨_, q2⟩
      · cases z
      · exact s.inj j k d1 d2 b q1 q2
  · by_cases hk : k < w.γ.length
    · have h1 : (w.γ ++ [a])[k]? = some b := h1
      have h2 : (m.gs ++ [d])[k]? = some e := h2
      rw [List.getElem?_append_left hk] at h1
      rw [List.getElem?_append_left (by rw [s.gl]; exact hk)] at h2
      obtain ⟨h3, u, h4, h5⟩ := s.gh k b e h1 h2
      exact ⟨h3, u, h4, h5.mono p (Ext.refl _)⟩
    · have hl := (List.getElem?_eq_some_iff.mp h1).1
      have hl : k < (w.γ ++ [a]).length := hl
      rw [List.length_append, List.length_singleton] at hl
      have hk : k = w.γ.length := by omega
      subst hk
      have h1 : (w.γ ++ [a])[w.γ.length]? = some b := h1
      have h2 : (m.gs ++ [d])[w.γ.length]? = some e := h2
      rw [← s.gl] at h2
      simp at h1 h2
      subst h1; subst h2
      exact ⟨hg, o, ho, r.mono p (Ext.refl _)⟩
  · refine List.nodup_append.mpr ⟨s.gnd, by simp, fun x hx y hy e => ?_⟩
    simp at hy
    rw [hy] at e
    exact hn (by rw [← e]; exact hx)
  · rcases q with q | ⟨j, d', q1, q2⟩
    · have q : b ∈ w.γ ++ [a] := q
      rcases List.mem_append.mp q with q | q
      · exact .inl (.inl q)
      · simp at q
        subst q
        exact .inl (.inr ⟨i, d, h, ha⟩)
    · rcases getset q1 with ⟨_, z, _⟩ | ⟨_, q1⟩
      · cases z
      · exact .inl (.inr ⟨j, d', q1, q2⟩)
end

/-! ### the judgements -/
/-- an exception: its class; its fields -/
structure Xc where
  C : Nat
  fs : List (Str × D)
abbrev PX := Xc → M → Prop
/-- an expression's reading -/
abbrev FE := M → (Ret → M → Prop) → PX → Prop
/-- a test's -/
abbrev FT := M → (Bool → M → Prop) → PX → Prop
/-- an argument list's -/
abbrev FA := M → (List D → M → Prop) → PX → Prop
structure EndsV where
  nx : M → Prop
  rt : Ret → M → Prop
  bk : M → Prop
  ct : M → Prop
  ex : PX
abbrev FS := EndsV → M → Prop

/-- behind a part: the state -/
structure Aft (K : PySem.W.Frag) (w : Wd) (m : M) (w' : Wd) (m' : M) : Prop where
  ok : SOk K w' m'
  st : Step w (Own w m) w' (Own w' m')
theorem Aft.trans {K : PySem.W.Frag} {w w1 w2 : Wd} {m m1 m2 : M} (a : Aft K w m w1 m1) (b : Aft K w1 m1 w2 m2) : Aft K w m w2 m2 := ⟨b.ok, a.st.trans b.st⟩
theorem Aft.refl {K : PySem.W.Frag} {w : Wd} {m : M} (s : SOk K w m) : Aft K w m w m := ⟨s, .refl _ _⟩
/-- the exceptions' fields, as they lie -/
def XRep (K : PySem.W.Frag) (w : Wd) (xc : Xc) (d : Option Addr) : Prop := xc.fs = [] ∧ d = none ∨ ∃ dd fv, d = some dd ∧ w.H dd = some (.xd fv) ∧ fv.map (·.1) = xc.fs.map (·.1) ∧ RepL K w.γ w.G (fv.map (·.2)) (xc.fs.map (·.2))
def ExOk (K : PySem.W.Frag) (W : WX) (w : Wd) (m : M) (Qx : PX) : Prop := ∀ xc m' w' d, w'.σ = w.σ → Aft K w m w' m' → XRep K w' xc d → Qx xc m' → W (.ref (Tabs.C xc.C)) d w'.σ w'.H
structure VE (X : Cx) (W : WX) (e : Expr) (f : FE) : Prop where
  ex : ∃ t, PE X e t ∧ ∀ (w : Wd) (m : M) (Q : Ret → M → Prop) (Qx : PX) (Q' : VK), SOk X.K w m → f m Q Qx →
    (∀ r m' w' v, w'.σ = w.σ → Aft X.K w m w' m' → RetOk X.K w.H w' m' v r → Q r m' → Q' v w'.H) → ExOk X.K W w m Qx → t w.σ w.H Q'
structure VT (X : Cx) (W : WX) (e : Expr) (f : FT) : Prop where
  ex : ∃ t, PT X e t ∧ ∀ (w : Wd) (m : M) (Q : Bool → M → Prop) (Qx : PX) (Q' : Bool → Hp → Prop), SOk X.K w m → f m Q Qx →
    (∀ r m' w', w'.σ = w.σ → Aft X.K w m w' m' → Q r m' → Q' r w'.H) → ExOk X.K W w m Qx → t w.σ w.H Q'
structure VW (X : Cx) (W : WX) (e : Expr) (f : FT) : Prop where
  ex : ∃ t, PW X e t ∧ ∀ (w : Wd) (m : M) (Q : Bool → M → Prop) (Qx : PX) (Q' : Bool → Hp → Prop), SOk X.K w m → f m Q Qx →
    (∀ r m' w', w'.σ = w.σ → Aft X.K w m w' m' → Q r m' → Q' r w'.H) → ExOk X.K W w m Qx → t w.σ w.H Q'
structure VA (X : Cx) (W : WX) (es : List Expr) (f : FA) : Prop where
  ex : ∃ t, PA X es t ∧ ∀ (w : Wd) (m : M) (Q : List D → M → Prop) (Qx : PX) (Q' : List V → Hp → Prop), SOk X.K w m → f m Q Qx →
    (∀ ds m' w' vs, w'.σ = w.σ → Aft X.K w m w' m' → RepL X.K w'.γ w'.G vs ds → Q ds m' → Q' vs w'.H) → ExOk X.K W w m Qx → t w.σ w.H Q'
/-- what is wanted behind a statement, concretely -/
structure EndsOk (K : PySem.W.Frag) (W : WX) (w : Wd) (m : M) (E : EndsV) (D : Ends) : Prop where
  nx : ∀ m' w', Aft K w m w' m' → E.nx m' → D.nx w'.σ w'.H
  rt : ∀ r m' w' v, Aft K w m w' m' → RetOk K w.H w' m' v r → E.rt r m' → D.rt v w'.H
  bk : ∀ m' w', Aft K w m w' m' → E.bk m' → D.bk w'.σ w'.H
  ct : ∀ m' w', Aft K w m w' m' → E.ct m' → D.ct w'.σ w'.H
  ex : ∀ xc m' w' d, Aft K w m w' m' → XRep K w' xc d → E.ex xc m' → W (.ref (Tabs.C xc.C)) d w'.σ w'.H
structure VS (X : Cx) (W : WX) (st : Stmt) (f : FS) : Prop where
  ex : ∃ t, PS X st t ∧ ∀ (w : Wd) (m : M) (E : EndsV) (D : Ends), SOk X.K w m → f E m → EndsOk X.K W w m E D → t D w.σ w.H
structure VSs (X : Cx) (W : WX) (st : List Stmt) (f : FS) : Prop where
  ex : ∃ t, PSs X st t ∧ ∀ (w : Wd) (m : M) (E : EndsV) (D : Ends), SOk X.K w m → f E m → EndsOk X.K W w m E D → t D w.σ w.H
theorem ExOk.aft {K : PySem.W.Frag} {W : WX} {w w1 : Wd} {m m1 : M} {Qx : PX} (h : ExOk K W w m Qx) (a : Aft K w m w1 m1) (e : w1.σ = w.σ) : ExOk K W w1 m1 Qx :=
  fun xc m' w' d e' a' x q => h xc m' w' d (e'.trans e) (a.trans a') x q
theorem EndsOk.aft {K : PySem.W.Frag} {W : WX} {w w1 : Wd} {m m1 : M} {E : EndsV} {D : Ends} (h : EndsOk K W w m E D) (a : Aft K w m w1 m1) : EndsOk K W w1 m1 E D :=
  ⟨fun m' w' a' q => h.nx m' w' (a.trans a') q, fun r m' w' v a' r' q => h.rt r m' w' v (a.trans a') (r'.from fun _ z => a.st.back z) q, fun m' w' a' q => h.bk m' w' (a.trans a') q,
    fun m' w' a' q => h.ct m' w' (a.trans a') q, fun xc m' w' d a' x q => h.ex xc m' w' d (a.trans a') x q⟩
theorem EndsOk.exOk {K : PySem.W.Frag} {W : WX} {w : Wd} {m : M} {E : EndsV} {D : Ends} (h : EndsOk K W w m E D) : ExOk K W w m E.ex := fun xc m' w' d _ a x q => h.ex xc m' w' d a x q
end VL

/-! The value layer: expressions. -/
namespace VL
open PySem PySem.Spec PyProof.Rows L2
variable [Tabs]

def bindO {α : Type} (o : Option α) (k : α → Prop) : Prop := match o with | some a => k a | none => False
/-- both ways of a test -/
def iteP (c : Bool) (A B : Prop) : Prop := (c = true → A) ∧ (c = false → B)
theorem bindO_elim {α : Type} {o : Option α} {k : α → Prop} (h : bindO o k) : ∃ a, o = some a ∧ k a := by
  cases o with
  | none => exact h.elim
  | some a => exact ⟨a, rfl, h⟩
@[simp] theorem bindO_some {α : Type} {a : α} {k : α → Prop} : bindO (some a) k = k a := rfl
theorem bindO_of {α : Type} {o : Option α} {a : α} {k : α → Prop} (e : o = some a) (h : k a) : bindO o k := by subst e; exact h

/-! ### data that is compared -/
mutual
def toPy : D → Option PyData
  | .non => some .none
  | .bl b => some (.bool b)
  | .int i => some (.int i)
  | .str x => some (.str x)
  | .tup ds => match toPyL ds with | some ps => some (.tuple ps) | none => none
  | .kt ds => match toPyL ds with | some ps => some (.tuple ps) | none => none
  | .lst ds => match toPyL ds with | some ps => some (.list ps) | none => none
  | .kl ds => match toPyL ds with | some ps => some (.list ps) | none => none
  | .raw _ => none
  | .gh _ => none
  | .fn _ _ _ => none
  | .clo _ _ _ => none
  | .dK _ => none
  | .dT _ => none
  | .dM _ => none
  | .exc _ _ => none
  | .ins _ _ => none
def toPyL : List D → Option (List PyData)
  | [] => some []
  | d :: ds => match toPy d with
    | some p => match toPyL ds with | some ps => some (p :: ps) | none => none
    | none => none
end
section
variable {K : PySem.W.Frag} {γ : List Addr} {G H : Hp}
mutual
theorem Rep.dp (e : Ext G H) : ∀ (d : D) {v : V} {p : PyData}, Rep K γ G v d → toPy d = some p → Dp K H v p
  | .non, _, _, .non, q => by simp [toPy] at q; subst q; exact .non
  | .bl b, _, _, .bl _, q => by simp [toPy] at q; subst q; exact .bl _
  | .int b, _, _, .int _, q => by simp [toPy] at q; subst q; exact .int _
  | .str b, _, _, .str _, q => by simp [toPy] at q; subst q; exact .str _
  | .raw _, _, _, _, q => by simp [toPy] at q
  | .gh _, _, _, _, q => by simp [toPy] at q
  | .fn _ _ _, _, _, _, q => by simp [toPy] at q
  | .clo _ _ _, _, _, _, q => by simp [toPy] at q
  | .dK _, _, _, _, q => by simp [toPy] at q
  | .dT _, _, _, _, q => by simp [toPy] at q
  | .dM _, _, _, _, q => by simp [toPy] at q
  | .exc _ _, _, _, _, q => by simp [toPy] at q
  | .ins _ _, _, _, _, q => by simp [toPy] at q
  | .tup ds, _, _, .tup h r, q => by
    cases z : toPyL ds with
    | none => simp [toPy, z] at q
    | some ps => simp [toPy, z] at q; subst q; exact .tup (.inl (.inl (e _ _ h))) (RepL.dp e ds r z)
  | .kt ds, _, _, .kt h r, q => by
    cases z : toPyL ds with
    | none => simp [toPy, z] at q
    | some ps => simp [toPy, z] at q; subst q; exact .tup (sqT_ext e h) (RepL.dp e ds r z)
  | .lst ds, _, _, .lst h r, q => by
    cases z : toPyL ds with
    | none => simp [toPy, z] at q
    | some ps => simp [toPy, z] at q; subst q; exact .lst (.inl (.inl (e _ _ h))) (RepL.dp e ds r z)
  | .kl ds, _, _, .kl h r, q => by
    cases z : toPyL ds with
    | none => simp [toPy, z] at q
    | some ps => simp [toPy, z] at q; subst q; exact .lst (sqL_ext e h) (RepL.dp e ds r z)
theorem RepL.dp (e : Ext G H) : ∀ (ds : List D) {vs : List V} {ps : List PyData}, RepL K γ G vs ds → toPyL ds = some ps → DpAll K H vs ps
  | [], _, _, .nil, q => by simp [toPyL] at q; subst q; exact .nil
  | d :: ds, _, _, .cons h r, q => by
    cases z : toPy d with
    | none => simp [toPyL, z] at q
    | some p =>
      cases z2 : toPyL ds with
      | none => simp [toPyL, z, z2] at q
      | some ps => simp [toPyL, z, z2] at q; subst q; exact .cons (Rep.dp e d h z) (RepL.dp e ds r z2)
end
mutual
theorem dp_plain : ∀ (p : PyData) {v : V}, Dp K H v p → p.plain = true
  | .none, _, _ => rfl
  | .bool _, _, _ => rfl
  | .int _, _, _ => rfl
  | .str _, _, _ => rfl
  | .list ps, _, .lst _ r => by simp only [PyData.plain]; exact dp_plainL ps r
  | .tuple ps, _, .tup _ r => by simp only [PyData.plain]; exact dp_plainL ps r
  | .dict _, _, h => by cases h
theorem dp_plainL : ∀ (ps : List PyData) {vs : List V}, DpAll K H vs ps → PyData.plainAll ps = true
  | [], _, _ => rfl
  | p :: ps, _, .cons h r => by simp only [PyData.plainAll, dp_plain p h, dp_plainL ps r, Bool.and_self]
end
end
theorem Vw.dp {K : PySem.W.Frag} {w : Wd} {v : V} {d : D} {p : PyData} (e : Ext w.G w.H) (h : Vw K w v d) (q : toPy d = some p) : Dp K w.H v p := by
  cases d with
  | non => cases h; simp [toPy] at q; subst q; exact .non
  | bl b => cases h; simp [toPy] at q; subst q; exact .bl _
  | int b => cases h; simp [toPy] at q; subst q; exact .int _
  | str b => cases h; simp [toPy] at q; subst q; exact .str _
  | raw _ => simp [toPy] at q
  | gh _ => simp [toPy] at q
  | fn _ _ _ => simp [toPy] at q
  | clo _ _ _ => simp [toPy] at q
  | dK _ => simp [toPy] at q
  | dT _ => simp [toPy] at q
  | dM _ => simp [toPy] at q
  | exc _ _ => simp [toPy] at q
  | ins _ _ => simp [toPy] at q
  | tup ds =>
    obtain ⟨a, xs, rfl, h1, r⟩ := h
    cases z : toPyL ds with
    | none => simp [toPy, z] at q
    | some ps => simp [toPy, z] at q; subst q; exact .tup (.inl (.inl (e _ _ h1))) (RepL.dp e ds r z)
  | kt ds =>
    obtain ⟨a, xs, rfl, h1, r⟩ := h
    cases z : toPyL ds with
    | none => simp [toPy, z] at q
    | some ps => simp [toPy, z] at q; subst q; exact .tup (sqT_ext e h1) (RepL.dp e ds r z)
  | lst ds =>
    obtain ⟨a, xs, rfl, h1, r⟩ := h
    cases z : toPyL ds with
    | none => simp [toPy, z] at q
    | some ps => simp [toPy, z] at q; subst q; exact .lst (.inl (.inl h1)) (RepL.dp e ds r z)
  | kl ds =>
    obtain ⟨a, xs, rfl, h1, r⟩ := h
    cases z : toPyL ds with
    | none => simp [toPy, z] at q
    | some ps => simp [toPy, z] at q; subst q; exact .lst (sqL_ext e h1) (RepL.dp e ds r z)

/-! ### what an expression gives is kept -/
def keep (m : M) : Ret → Option (D × M)
  | .fz d => some (d, m)
  | .tmp d => some (d, m)
  | .sl i => match m.env[i]? with
    | some (.own d) => some (d, m.set i (.val d))
    | some (.val d) => some (d, m)
    | _ => none
theorem SOk.frzA {K : PySem.W.Frag} {w0 w : Wd} {m0 m : M} {p : Addr} {o : HO} (a : Aft K w0 m0 w m) (h : w.H p = some o) (hg : w.G p = none) (n : ¬ Own w m p) (h0 : w0.H p = none) (nt : ∀ ps, o ≠ .tbl ps) : Aft K w0 m0 (w.frz p o) m := by
  obtain ⟨s, k⟩ := a.ok.frz h hg n nt
  exact ⟨s, k w0.H h0 w0 _ rfl a.st⟩
theorem keep_ok {K : PySem.W.Frag} {w0 w : Wd} {m0 m m' : M} {v : V} {r : Ret} {d : D} (a : Aft K w0 m0 w m) (h : RetOk K w0.H w m v r) (e : keep m r = some (d, m')) :
    ∃ w', w'.σ = w.σ ∧ w'.H = w.H ∧ Aft K w0 m0 w' m' ∧ Rep K w'.γ w'.G v d := by
  cases r with
  | fz d' => cases e; exact ⟨w, rfl, rfl, a, h⟩
  | tmp d' =>
    cases e
    obtain ⟨p, o, rfl, h1, h2, h3, h4, h5⟩ := h
    exact ⟨w.frz p o, rfl, rfl, SOk.frzA a h4 h2 h3 h1 h5.nt, Rep.ofO upd_same (h5.mono (Pre.refl _) (ext_upd h2))⟩
  | sl i =>
    have h : w.σ[i]? = some (some v) := h
    dsimp only [keep] at e
    split at e
    · rename_i d' he
      cases e
      obtain ⟨b, o, h1, h2, h3, h4, h5⟩ := a.ok.own i _ he
      rw [h] at h1
      cases h1
      obtain ⟨s, st⟩ := a.ok.slotFrz he h h4 h2 h3 h5
      exact ⟨w.frz b o, rfl, rfl, ⟨s, a.st.trans st⟩, Rep.ofO upd_same (h5.mono (Pre.refl _) (ext_upd h2))⟩
    · rename_i d' he
      cases e
      obtain ⟨v', h1, h2⟩ := a.ok.val i _ he
      rw [h] at h1
      cases h1
      exact ⟨w, rfl, rfl, a, h2⟩
    · cases e

theorem retFz {K : PySem.W.Frag} {H0 : Hp} {w : Wd} {m : M} {v : V} {d : D} (h : Rep K w.γ w.G v d) : RetOk K H0 w m v (.fz d) := h
theorem retSl {K : PySem.W.Frag} {H0 : Hp} {w : Wd} {m : M} {v : V} {i : Nat} (h : w.σ[i]? = some (some v)) : RetOk K H0 w m v (.sl i) := h
section
variable {X : Cx} {W : WX} {a b : Expr} {es : List Expr} {fa fb : FE} {ga : FA} {pos : Pos}
/-! ### names, constants -/
def fVar (i : Nat) : FE := fun m Q _ => match m.env[i]? with
  | some (.val d) => Q (.fz d) m
  | some (.own _) => Q (.sl i) m
  | _ => False
theorem ve_var (i : Nat) {x : Str} (hN : X.N[i]? = some x := by rfl) (hv : Vis X.env.scope x := by first | exact Or.inl rfl | exact Or.inr (Or.inl rfl) | exact Or.inr (Or.inr rfl)) (hd : (x == ("__debug__" : Str)) = false := by decide)
    (hcd : (x == ("__classdict__" : Str)) = false := by decide) : VE X W (.Name x pos) (fVar i) := by
  refine ⟨⟨_, pe_var hN hv hd hcd, fun w m Q Qx Q' s h k kx => ?_⟩⟩
  show ∃ v, w.σ[i]? = some (some v) ∧ Q' v w.H
  unfold fVar at h
  split at h
  · rename_i d e
    obtain ⟨v, h1, h2⟩ := s.val i d e
    exact ⟨v, h1, k _ m w v rfl (.refl s) (retFz h2) h⟩
  · rename_i d e
    obtain ⟨p, o, h1, _⟩ := s.own i d e
    exact ⟨_, h1, k _ m w _ rfl (.refl s) (retSl h1) h⟩
  · exact h.elim
def fC (d : D) : FE := fun m Q _ => Q (.fz d) m
theorem ve_int {i j pos} : VE X W (.Constant (.int i) j pos) (fC (.int i)) := ⟨⟨_, pe_int, fun w m Q Qx Q' s h k kx => k _ m w _ rfl (.refl s) (retFz (.int i)) h⟩⟩
theorem ve_bl {i j pos} : VE X W (.Constant (.bool i) j pos) (fC (.bl i)) := ⟨⟨_, pe_bl, fun w m Q Qx Q' s h k kx => k _ m w _ rfl (.refl s) (retFz (.bl i)) h⟩⟩
theorem ve_non {j pos} : VE X W (.Constant .none j pos) (fC .non) := ⟨⟨_, pe_non, fun w m Q Qx Q' s h k kx => k _ m w _ rfl (.refl s) (retFz .non) h⟩⟩
theorem ve_str {i j pos} : VE X W (.Constant (.str i) j pos) (fC (.str i)) := ⟨⟨_, pe_str, fun w m Q Qx Q' s h k kx => k _ m w _ rfl (.refl s) (retFz (.str i)) h⟩⟩
/-- a global name, as it is -/
theorem ve_glob {x : Str} {v : V} {u : Value} {pos : Pos} (hg : Gl X x) (hm : X.mg x = some u) (r : RelV v u) (hd : (x == ("__debug__" : Str)) = false := by decide) : VE X W (.Name x pos) (fC (.raw v)) :=
  ⟨⟨_, pe_glob hg hm r hd, fun w m Q Qx Q' s h k kx => k _ m w _ rfl (.refl s) (retFz (.raw v)) h⟩⟩
theorem ve_globInt {x : Str} {i : Int} {t : Tok} {pos : Pos} (hg : Gl X x) (hm : X.mg x = some (.int i t)) (hd : (x == ("__debug__" : Str)) = false := by decide) : VE X W (.Name x pos) (fC (.int i)) :=
  ⟨⟨_, pe_glob (v := .int i) hg hm ⟨_, rfl⟩ hd, fun w m Q Qx Q' s h k kx => k _ m w _ rfl (.refl s) (retFz (.int i)) h⟩⟩
theorem ve_globStr {x : Str} {z : Str} {t : Tok} {pos : Pos} (hg : Gl X x) (hm : X.mg x = some (.str z t)) (hd : (x == ("__debug__" : Str)) = false := by decide) : VE X W (.Name x pos) (fC (.str z)) :=
  ⟨⟨_, pe_glob (v := .str z) hg hm ⟨_, rfl⟩ hd, fun w m Q Qx Q' s h k kx => k _ m w _ rfl (.refl s) (retFz (.str z)) h⟩⟩

/-! ### two values, one value: by what is seen -/
abbrev G2 := D → D → (Ret → Prop) → Prop
abbrev G1 := D → (Ret → Prop) → Prop
def OpV (K : PySem.W.Frag) (r2 : R2) (g : G2) : Prop := ∀ (w : Wd) (m : M) (v u : V) (d e : D) (k : Ret → Prop) (Q' : VK), SOk K w m → Vw K w v d → Vw K w u e → g d e k →
  (∀ r w' v', w'.σ = w.σ → Aft K w m w' m → RetOk K w.H w' m v' r → k r → Q' v' w'.H) → r2 v u w.H Q'
def UnV (K : PySem.W.Frag) (r1 : V → Hp → VK → Prop) (g : G1) : Prop := ∀ (w : Wd) (m : M) (v : V) (d : D) (k : Ret → Prop) (Q' : VK), SOk K w m → Vw K w v d → g d k →
  (∀ r w' v', w'.σ = w.σ → Aft K w m w' m → RetOk K w.H w' m v' r → k r → Q' v' w'.H) → r1 v w.H Q'
def fOp (g : G2) (fa fb : FE) : FE := fun m Q Qx => fa m (fun ra m1 => fb m1 (fun rb m2 => bindO (view m2 ra) fun d => bindO (view m2 rb) fun e => g d e fun r => Q r m2) Qx) Qx
def fUn (g : G1) (fa : FE) : FE := fun m Q Qx => fa m (fun ra m1 => bindO (view m1 ra) fun d => g d fun r => Q r m1) Qx
/-- the core of all rules with two operands -/
theorem bin_core {K : PySem.W.Frag} {r2 : R2} {g : G2} (hv : OpV K r2 g) {ta tb : TE} {fa fb : FE} 
    (sa : ∀ (w : Wd) (m : M) (Q : Ret → M → Prop) (Qx : PX) (Q' : VK), SOk K w m → fa m Q Qx → (∀ r m' w' v, w'.σ = w.σ → Aft K w m w' m' → RetOk K w.H w' m' v r → Q r m' → Q' v w'.H) → ExOk K W w m Qx → ta w.σ w.H Q')
    (sb : ∀ (w : Wd) (m : M) (Q : Ret → M → Prop) (Qx : PX) (Q' : VK), SOk K w m → fb m Q Qx → (∀ r m' w' v, w'.σ = w.σ → Aft K w m w' m' → RetOk K w.H w' m' v r → Q r m' → Q' v w'.H) → ExOk K W w m Qx → tb w.σ w.H Q')
    {w : Wd} {m : M} {Q : Ret → M → Prop} {Qx : PX} {Q' : VK} (s : SOk K w m) (h : fOp g fa fb m Q Qx) (k : ∀ r m' w' v, w'.σ = w.σ → Aft K w m w' m' → RetOk K w.H w' m' v r → Q r m' → Q' v w'.H) (kx : ExOk K W w m Qx) : tOp r2 ta tb w.σ w.H Q' := by
  refine sa w m _ Qx _ s h (fun ra m1 w1 x e1 a1 r1 q1 => ?_) kx
  rw [← e1]
  refine sb w1 m1 _ Qx _ a1.ok q1 (fun rb m2 w2 y e2 a2 r2' q2 => ?_) (kx.aft a1 e1)
  obtain ⟨d, hd, q2⟩ := bindO_elim q2
  obtain ⟨e, he, q2⟩ := bindO_elim q2
  have ra' := r1.step a2.st e2
  refine hv w2 m2 x y d e _ Q' a2.ok (a2.ok.view ra' hd) (a2.ok.view r2' he) q2 fun r w3 v' e3 a3 r3 k3 => ?_
  have a12 := a1.trans a2
  exact k r m2 w3 v' (e3.trans (e2.trans e1)) (a12.trans a3) (r3.from fun _ z => a12.st.back z) k3
theorem ve_op {op : Operator} {r2 : R2} {g : G2} (ho : OpR X (binaryOp op) r2) (hv : OpV X.K r2 g) (ha : VE X W a fa) (hb : VE X W b fb) : VE X W (.BinOp a op b pos) (fOp g fa fb) := by
  obtain ⟨ta, pa, sa⟩ := ha.ex
  obtain ⟨tb, pb, sb⟩ := hb.ex
  exact ⟨⟨_, pe_op ho pa pb, fun w m Q Qx Q' s h k kx => bin_core hv sa sb s h k kx⟩⟩
theorem ve_cmp {op : CmpOp} {r2 : R2} {g : G2} (ho : OpR X (compareOp op) r2) (hv : OpV X.K r2 g) (ha : VE X W a fa) (hb : VE X W b fb) (hm : behindInMarks op b = false := by first | rfl | exact nomark _ | (cases b <;> rfl)) : VE X W (.Compare a [op] [b] pos) (fOp g fa fb) := by
  obtain ⟨ta, pa, sa⟩ := ha.ex
  obtain ⟨tb, pb, sb⟩ := hb.ex
  exact ⟨⟨_, pe_cmpR ho pa pb hm, fun w m Q Qx Q' s h k kx => bin_core hv sa sb s h k kx⟩⟩
def asB : Ret → Option Bool
  | .fz (.bl b) => some b
  | _ => none
theorem asB_ok {K : PySem.W.Frag} {H0 : Hp} {w : Wd} {m : M} {v : V} {r : Ret} {c : Bool} (h : RetOk K H0 w m v r) (e : asB r = some c) : v = .bl c := by
  cases r with
  | fz d =>
    cases d <;> simp [asB] at e
    subst e
    cases h
    rfl
  | tmp d => simp [asB] at e
  | sl i => simp [asB] at e
def fTest (f : FE) : FT := fun m Q Qx => f m (fun r m1 => bindO (asB r) fun c => Q c m1) Qx
theorem vt_cmp {op : CmpOp} {r2 : R2} {g : G2} (ho : OpR X (compareOp op) r2) (hv : OpV X.K r2 g) (ha : VE X W a fa) (hb : VE X W b fb) (hm : behindInMarks op b = false := by first | rfl | exact nomark _ | (cases b <;> rfl)) : VT X W (.Compare a [op] [b] pos) (fTest (fOp g fa fb)) := by
  obtain ⟨ta, pa, sa⟩ := ha.ex
  obtain ⟨tb, pb, sb⟩ := hb.ex
  refine ⟨⟨_, pt_cmpR ho pa pb hm, fun w m Q Qx Q' s h k kx => ?_⟩⟩
  refine bin_core hv sa sb s h (fun r m' w' v e a1 r1 q => ?_) kx
  obtain ⟨c, hc, q⟩ := bindO_elim q
  exact ⟨c, asB_ok r1 hc, k c m' w' e a1 q⟩
theorem vt_val {f : FE} (ha : VE X W a f) (he : ∀ whole, isTrue a X.env whole = (do let v ← whole; standAt a.pos; holding [v] (truthy v)) := by intro _; rfl) : VT X W a (fTest f) := by
  obtain ⟨ta, pa, sa⟩ := ha.ex
  refine ⟨⟨_, pt_val pa he, fun w m Q Qx Q' s h k kx => ?_⟩⟩
  refine sa w m _ Qx _ s h (fun r m' w' v e a1 r1 q => ?_) kx
  obtain ⟨c, hc, q⟩ := bindO_elim q
  exact ⟨c, asB_ok r1 hc, k c m' w' e a1 q⟩
theorem ve_un {op : UnaryOp} {r1 : V → Hp → VK → Prop} {g : G1} (ho : UnR X (unaryOp op) r1) (hv : UnV X.K r1 g) (ha : VE X W a fa) : VE X W (.UnaryOp op a pos) (fUn g fa) := by
  obtain ⟨ta, pa, sa⟩ := ha.ex
  refine ⟨⟨_, pe_un ho pa, fun w m Q Qx Q' s h k kx => ?_⟩⟩
  refine sa w m _ Qx _ s h (fun r m' w' v e a1 r1 q => ?_) kx
  obtain ⟨d, hd, q⟩ := bindO_elim q
  refine hv w' m' v d _ Q' a1.ok (a1.ok.view r1 hd) q fun r w3 v' e3 a3 r3 k3 => ?_
  exact k r m' w3 v' (e3.trans e) (a1.trans a3) (r3.from fun _ z => a1.st.back z) k3

/-! ### and, or, not, if .. else -/
def fAnd (f g : FT) : FT := fun m Q Qx => f m (fun c m1 => iteP c (g m1 Q Qx) (Q false m1)) Qx
def fOr (f g : FT) : FT := fun m Q Qx => f m (fun c m1 => iteP c (Q true m1) (g m1 Q Qx)) Qx
def fNot (f : FT) : FT := fun m Q Qx => f m (fun c m1 => Q (!c) m1) Qx
variable {ft gt : FT} {rest : List Expr}
theorem VW.vt (h : VW X W a ft) : VT X W a ft := by
  obtain ⟨t, p, s⟩ := h.ex
  exact ⟨⟨t, p.pt, s⟩⟩
theorem vw_and1 (ha : VT X W a ft) : VW X W (.BoolOp .And [a] pos) ft := by
  obtain ⟨t, p, s⟩ := ha.ex
  exact ⟨⟨t, pw_and1 p, s⟩⟩
theorem vw_or1 (ha : VT X W a ft) : VW X W (.BoolOp .Or [a] pos) ft := by
  obtain ⟨t, p, s⟩ := ha.ex
  exact ⟨⟨t, pw_or1 p, s⟩⟩
theorem vw_and (ha : VT X W a ft) (hb : VW X W (.BoolOp .And (b :: rest) pos) gt) : VW X W (.BoolOp .And (a :: b :: rest) pos) (fAnd ft gt) := by
  obtain ⟨ta, pa, sa⟩ := ha.ex
  obtain ⟨tb, pb, sb⟩ := hb.ex
  refine ⟨⟨_, pw_and pa pb, fun w m Q Qx Q' s h k kx => ?_⟩⟩
  refine sa w m _ Qx _ s h (fun c m1 w1 e1 a1 q => ?_) kx
  cases c with
  | false => exact k false m1 w1 e1 a1 (q.2 rfl)
  | true =>
    rw [if_pos rfl, ← e1]
    exact sb w1 m1 Q Qx Q' a1.ok (q.1 rfl) (fun r m' w' e a' q' => k r m' w' (e.trans e1) (a1.trans a') q') (kx.aft a1 e1)
theorem vw_or (ha : VT X W a ft) (hb : VW X W (.BoolOp .Or (b :: rest) pos) gt) : VW X W (.BoolOp .Or (a :: b :: rest) pos) (fOr ft gt) := by
  obtain ⟨ta, pa, sa⟩ := ha.ex
  obtain ⟨tb, pb, sb⟩ := hb.ex
  refine ⟨⟨_, pw_or pa pb, fun w m Q Qx Q' s h k kx => ?_⟩⟩
  refine sa w m _ Qx _ s h (fun c m1 w1 e1 a1 q => ?_) kx
  cases c with
  | true => exact k true m1 w1 e1 a1 (q.1 rfl)
  | false =>
    rw [if_neg Bool.false_ne_true, ← e1]
    exact sb w1 m1 Q Qx Q' a1.ok (q.2 rfl) (fun r m' w' e a' q' => k r m' w' (e.trans e1) (a1.trans a') q') (kx.aft a1 e1)
theorem vt_not (ha : VT X W a ft) : VT X W (.UnaryOp .Not a pos) (fNot ft) := by
  obtain ⟨ta, pa, sa⟩ := ha.ex
  exact ⟨⟨_, pt_not pa, fun w m Q Qx Q' s h k kx => sa w m _ Qx _ s h (fun c m1 w1 e1 a1 q => k (!c) m1 w1 e1 a1 q) kx⟩⟩
def fIf (ft : FT) (fa fb : FE) : FE := fun m Q Qx => ft m (fun c m1 => iteP c (fa m1 Q Qx) (fb m1 Q Qx)) Qx
theorem ve_if {c : Expr} (hc : VT X W c ft) (ha : VE X W a fa) (hb : VE X W b fb) : VE X W (.IfExp c a b pos) (fIf ft fa fb) := by
  obtain ⟨tc, pc, sc⟩ := hc.ex
  obtain ⟨ta, pa, sa⟩ := ha.ex
  obtain ⟨tb, pb, sb⟩ := hb.ex
  refine ⟨⟨_, pe_ifExp pc pa pb, fun w m Q Qx Q' s h k kx => ?_⟩⟩
  refine sc w m _ Qx _ s h (fun c m1 w1 e1 a1 q => ?_) kx
  cases c with
  | true =>
    rw [if_pos rfl, ← e1]
    exact sa w1 m1 Q Qx Q' a1.ok (q.1 rfl) (fun r m' w' v e a' r' q' => k r m' w' v (e.trans e1) (a1.trans a') (r'.from fun _ z => a1.st.back z) q') (kx.aft a1 e1)
  | false =>
    rw [if_neg Bool.false_ne_true, ← e1]
    exact sb w1 m1 Q Qx Q' a1.ok (q.2 rfl) (fun r m' w' v e a' r' q' => k r m' w' v (e.trans e1) (a1.trans a') (r'.from fun _ z => a1.st.back z) q') (kx.aft a1 e1)
/-- and, or, not as values: truths -/
def fAndV (f g : FE) : FE := fun m Q Qx => f m (fun r m1 => bindO (asB r) fun c => iteP c (g m1 Q Qx) (Q (.fz (.bl false)) m1)) Qx
def fOrV (f g : FE) : FE := fun m Q Qx => f m (fun r m1 => bindO (asB r) fun c => iteP c (Q (.fz (.bl true)) m1) (g m1 Q Qx)) Qx
def fNotV (f : FE) : FE := fun m Q Qx => f m (fun r m1 => bindO (asB r) fun c => Q (.fz (.bl (!c))) m1) Qx
theorem ve_one {op} (ha : VE X W a fa) : VE X W (.BoolOp op [a] pos) fa := by
  obtain ⟨ta, pa, sa⟩ := ha.ex
  exact ⟨⟨_, pe_one pa, sa⟩⟩
theorem ve_and (ha : VE X W a fa) (hb : VE X W (.BoolOp .And (b :: rest) pos) fb) : VE X W (.BoolOp .And (a :: b :: rest) pos) (fAndV fa fb) := by
  obtain ⟨ta, pa, sa⟩ := ha.ex
  obtain ⟨tb, pb, sb⟩ := hb.ex
  refine ⟨⟨_, pe_and pa pb, fun w m Q Qx Q' s h k kx => ?_⟩⟩
  refine sa w m _ Qx _ s h (fun r m1 w1 v e1 a1 r1 q => ?_) kx
  obtain ⟨c, hc, q⟩ := bindO_elim q
  refine ⟨c, asB_ok r1 hc, ?_⟩
  cases c with
  | true =>
    rw [if_pos rfl, ← e1]
    exact sb w1 m1 Q Qx Q' a1.ok (q.1 rfl) (fun r m' w' v e a' r' q' => k r m' w' v (e.trans e1) (a1.trans a') (r'.from fun _ z => a1.st.back z) q') (kx.aft a1 e1)
  | false => exact k (.fz (.bl false)) m1 w1 _ e1 a1 (.bl false) (q.2 rfl)
theorem ve_or (ha : VE X W a fa) (hb : VE X W (.BoolOp .Or (b :: rest) pos) fb) : VE X W (.BoolOp .Or (a :: b :: rest) pos) (fOrV fa fb) := by
  obtain ⟨ta, pa, sa⟩ := ha.ex
  obtain ⟨tb, pb, sb⟩ := hb.ex
  refine ⟨⟨_, pe_or pa pb, fun w m Q Qx Q' s h k kx => ?_⟩⟩
  refine sa w m _ Qx _ s h (fun r m1 w1 v e1 a1 r1 q => ?_) kx
  obtain ⟨c, hc, q⟩ := bindO_elim q
  refine ⟨c, asB_ok r1 hc, ?_⟩
  cases c with
  | false =>
    rw [if_neg Bool.false_ne_true, ← e1]
    exact sb w1 m1 Q Qx Q' a1.ok (q.2 rfl) (fun r m' w' v e a' r' q' => k r m' w' v (e.trans e1) (a1.trans a') (r'.from fun _ z => a1.st.back z) q') (kx.aft a1 e1)
  | true => exact k (.fz (.bl true)) m1 w1 _ e1 a1 (.bl true) (q.1 rfl)
theorem ve_not (ha : VE X W a fa) : VE X W (.UnaryOp .Not a pos) (fNotV fa) := by
  obtain ⟨ta, pa, sa⟩ := ha.ex
  refine ⟨⟨_, pe_not pa, fun w m Q Qx Q' s h k kx => ?_⟩⟩
  refine sa w m _ Qx _ s h (fun r m1 w1 v e1 a1 r1 q => ?_) kx
  obtain ⟨c, hc, q⟩ := bindO_elim q
  exact ⟨c, asB_ok r1 hc, k (.fz (.bl (!c))) m1 w1 _ e1 a1 (.bl _) q⟩

/-! ### argument lists, displays -/
def aNil : FA := fun m Q _ => Q [] m
def aCons (f : FE) (g : FA) : FA := fun m Q Qx => f m (fun r m1 => bindO (keep m1 r) fun p => g p.2 (fun ds m2 => Q (p.1 :: ds) m2) Qx) Qx
theorem va_nil : VA X W [] aNil := ⟨⟨_, pa_nil, fun w m Q Qx Q' s h k kx => k [] m w [] rfl (.refl s) .nil h⟩⟩
theorem va_cons (ha : VE X W a fa) (hb : VA X W es ga) (hs : starEach (a :: es) X.env = (false, eval a X.env) :: starEach es X.env := by rfl) : VA X W (a :: es) (aCons fa ga) := by
  obtain ⟨ta, pa, sa⟩ := ha.ex
  obtain ⟨tb, pb, sb⟩ := hb.ex
  refine ⟨⟨_, pa_cons pa pb hs, fun w m Q Qx Q' s h k kx => ?_⟩⟩
  refine sa w m _ Qx _ s h (fun r m1 w1 v e1 a1 r1 q => ?_) kx
  obtain ⟨⟨d, m2⟩, hk, q⟩ := bindO_elim q
  obtain ⟨w2, e2, eH, a2, r2⟩ := keep_ok a1 r1 hk
  rw [← eH, ← e1, ← e2]
  have e21 := e2.trans e1
  refine sb w2 m2 _ Qx _ a2.ok q (fun ds m3 w3 vs e3 a3 r3 q3 => ?_) (kx.aft a2 e21)
  exact k _ m3 w3 _ (e3.trans e21) (a2.trans a3) (.cons (r2.mono a3.st.gp a3.st.gg) r3) q3
def fTup (g : FA) : FE := fun m Q Qx => g m (fun ds m1 => ds.length ≤ sizeLine ∧ Q (.fz (.tup ds)) m1) Qx
def fLst (g : FA) : FE := fun m Q Qx => g m (fun ds m1 => ds.length ≤ sizeLine ∧ Q (.tmp (.lst ds)) m1) Qx
theorem ve_tup {x1} (hb : VA X W es ga) : VE X W (.Tuple es x1 pos) (fTup ga) := by
  obtain ⟨tb, pb, sb⟩ := hb.ex
  refine ⟨⟨_, pe_tup pb, fun w m Q Qx Q' s h k kx => ?_⟩⟩
  refine sb w m _ Qx _ s h (fun ds m1 w1 vs e1 a1 r1 q => ?_) kx
  refine ⟨by rw [r1.length]; exact q.1, fun p hp => ?_⟩
  obtain ⟨s2, st2⟩ := a1.ok.lay (o := .tup vs) hp
  exact k _ m1 (w1.lay p (.tup vs)) _ e1 (a1.trans ⟨s2, st2⟩) (retFz (.tup upd_same (r1.mono (Pre.refl _) st2.gg))) q.2
theorem ve_lst (hb : VA X W es ga) : VE X W (.List es pos) (fLst ga) := by
  obtain ⟨tb, pb, sb⟩ := hb.ex
  refine ⟨⟨_, pe_lst pb, fun w m Q Qx Q' s h k kx => ?_⟩⟩
  refine sb w m _ Qx _ s h (fun ds m1 w1 vs e1 a1 r1 q => ?_) kx
  refine ⟨by rw [r1.length]; exact q.1, fun p hp => ?_⟩
  obtain ⟨s2, st2⟩ := a1.ok.put (o := .lst vs) hp
  exact k _ m1 (w1.put p (.lst vs)) _ e1 (a1.trans ⟨s2, st2⟩) ((a1.ok.putRet hp (.lst r1)).from fun _ z => a1.st.back z) q.2
/-- what the expression gives is frozen at once -/
def fKeep (f : FE) : FE := fun m Q Qx => f m (fun r m1 => bindO (keep m1 r) fun p => Q (.fz p.1) p.2) Qx
theorem ve_keep (ha : VE X W a fa) : VE X W a (fKeep fa) := by
  obtain ⟨ta, pa, sa⟩ := ha.ex
  refine ⟨⟨ta, pa, fun w m Q Qx Q' s h k kx => ?_⟩⟩
  refine sa w m _ Qx _ s h (fun r m1 w1 v e1 a1 r1 q => ?_) kx
  obtain ⟨⟨d, m2⟩, hk, q⟩ := bindO_elim q
  obtain ⟨w2, e2, eH, a2, r2⟩ := keep_ok a1 r1 hk
  rw [← eH]
  exact k _ m2 w2 v (e2.trans e1) a2 (retFz r2) q
/-- a slot's own container is shared from now on -/
def fShare (i : Nat) : FE := fun m Q _ => match m.env[i]? with
  | some (.own d) => Q (.fz (.gh m.gs.length)) ⟨m.env.set i (.val (.gh m.gs.length)), m.gs ++ [d]⟩
  | some (.val (.gh k)) => Q (.fz (.gh k)) m
  | _ => False
theorem ve_share (i : Nat) {x : Str} (hN : X.N[i]? = some x := by rfl) (hv : Vis X.env.scope x := by first | exact Or.inl rfl | exact Or.inr (Or.inl rfl) | exact Or.inr (Or.inr rfl)) (hd : (x == ("__debug__" : Str)) = false := by decide)
    (hcd : (x == ("__classdict__" : Str)) = false := by decide) : VE X W (.Name x pos) (fShare i) := by
  refine ⟨⟨_, pe_var hN hv hd hcd, fun w m Q Qx Q' s h k kx => ?_⟩⟩
  show ∃ v, w.σ[i]? = some (some v) ∧ Q' v w.H
  unfold fShare at h
  split at h
  · rename_i d e
    obtain ⟨p, o, h1, _⟩ := s.own i d e
    obtain ⟨s2, st2⟩ := s.share e h1
    refine ⟨_, h1, k (.fz (.gh m.gs.length)) ⟨m.env.set i (.val (.gh m.gs.length)), m.gs ++ [d]⟩ ⟨w.G, w.H, w.γ ++ [p], w.σ⟩ _ rfl ⟨s2, st2⟩ (retFz (.gh ?_)) h⟩
    show (w.γ ++ [p])[m.gs.length]? = some p
    rw [s.gl]; simp
  · rename_i j e
    obtain ⟨v, h1, h2⟩ := s.val i _ e
    exact ⟨v, h1, k _ m w v rfl (.refl s) (retFz h2) h⟩
  · exact h.elim
end
end VL

/-! The value layer: operators, subscripts, slices, built-ins. -/
namespace VL
open PySem PySem.Spec PyProof.Rows L2
variable [Tabs]

section
variable {K : PySem.W.Frag}
theorem outFz {w : Wd} {m : M} {v : V} {d : D} {k : Ret → Prop} {Q' : VK} (s : SOk K w m) (q : ∀ r w' v', w'.σ = w.σ → Aft K w m w' m → RetOk K w.H w' m v' r → k r → Q' v' w'.H) (r : Rep K w.γ w.G v d) (h : k (.fz d)) : Q' v w.H :=
  q _ w v rfl (.refl s) (retFz r) h
theorem outTmp {w : Wd} {m : M} {p : Addr} {o : HO} {d : D} {k : Ret → Prop} {Q' : VK} (s : SOk K w m) (q : ∀ r w' v', w'.σ = w.σ → Aft K w m w' m → RetOk K w.H w' m v' r → k r → Q' v' w'.H) (hp : w.H p = none) (r : ORep K w.γ w.G o d) (h : k (.tmp d)) : Q' (.ref p) (upd w.H p o) := by
  obtain ⟨s2, st2⟩ := s.put (o := o) hp
  exact q (.tmp d) (w.put p o) (.ref p) rfl ⟨s2, st2⟩ (s.putRet hp r) h
theorem outNew {w : Wd} {m : M} {p : Addr} {xs : List V} {ds : List D} {k : Ret → Prop} {Q' : VK} (s : SOk K w m) (q : ∀ r w' v', w'.σ = w.σ → Aft K w m w' m → RetOk K w.H w' m v' r → k r → Q' v' w'.H) (hp : w.H p = none) (r : RepL K w.γ w.G xs ds) (h : k (.fz (.tup ds))) : Q' (.ref p) (upd w.H p (.tup xs)) := by
  obtain ⟨s2, st2⟩ := s.lay (o := .tup xs) hp
  exact q (.fz (.tup ds)) (w.lay p (.tup xs)) (.ref p) rfl ⟨s2, st2⟩ (retFz (.tup upd_same (r.mono (Pre.refl _) st2.gg))) h
theorem rep_nil {γ : List Addr} {G : Hp} {xs : List V} {ds : List D} (r : RepL K γ G xs ds) : xs = [] ↔ ds = [] := by
  cases r with
  | nil => simp
  | cons _ _ => simp

/-! ### arithmetic -/
def gAdd : G2 := fun d e k => match d, e with
  | .int i, .int j => k (.fz (.int (i + j)))
  | .int i, .bl b => k (.fz (.int (i + b2i b)))
  | .str x, .str y => x.length + y.length ≤ sizeLine ∧ k (.fz (.str (x ++ y)))
  | .lst a, .lst b => a.length + b.length ≤ sizeLine ∧ k (.tmp (.lst (a ++ b)))
  | .tup a, .tup b => a.length + b.length ≤ sizeLine ∧ k (.fz (.tup (a ++ b)))
  | _, _ => False
def rAddAll (K : PySem.W.Frag) : R2 := fun x y H Q => (∃ i j, x = .int i ∧ y = .int j ∧ Q (.int (i + j)) H) ∨ (∃ i k, x = .int i ∧ y = .bl k ∧ Q (.int (i + b2i k)) H) ∨
  (∃ i j, x = .str i ∧ y = .str j ∧ i.length + j.length ≤ sizeLine ∧ Q (.str (i ++ j)) H) ∨ rCat x y H Q ∨ rCatA K x y H Q
theorem op_addAll {X : Cx} : OpR X (binaryOp .Add) (rAddAll X.K) := op_add.or (op_add_ib.or (op_add_str.or (op_cat.or op_catA)))
theorem addV : OpV K (rAddAll K) gAdd := by
  intro w m v u d e k Q' s hv hu h q
  unfold gAdd at h
  split at h
  · cases hv; cases hu
    exact .inl ⟨_, _, rfl, rfl, outFz s q (.int _) h⟩
  · cases hv; cases hu
    exact .inr (.inl ⟨_, _, rfl, rfl, outFz s q (.int _) h⟩)
  · cases hv; cases hu
    exact .inr (.inr (.inl ⟨_, _, rfl, rfl, h.1, outFz s q (.str _) h.2⟩))
  · obtain ⟨a, xs, rfl, h1, r1⟩ := hv
    obtain ⟨b, ys, rfl, h2, r2⟩ := hu
    refine .inr (.inr (.inr (.inl ⟨_, _, _, _, rfl, rfl, h1, h2, by rw [r1.length, r2.length]; exact h.1, fun p hp => ?_⟩)))
    exact outTmp s q hp (.lst (r1.append r2)) h.2
  · obtain ⟨a, xs, rfl, h1, r1⟩ := hv
    obtain ⟨b, ys, rfl, h2, r2⟩ := hu
    refine .inr (.inr (.inr (.inr ⟨_, _, _, _, rfl, rfl, .inl (.inl (s.sub _ _ h1)), .inl (.inl (s.sub _ _ h2)), by rw [r1.length, r2.length]; exact h.1, fun z => ?_, fun _ z => ?_, fun _ z p hp => ?_⟩)))
    · have z1 := (rep_nil r1).mp z
      subst z1
      have h3 := h.2
      rw [List.nil_append] at h3
      exact outFz s q (.tup h2 r2) h3
    · have z2 := (rep_nil r2).mp z
      subst z2
      have h3 := h.2
      rw [List.append_nil] at h3
      subst z
      exact outFz s q (.tup h1 r1) h3
    · exact outNew s q hp (r1.append r2) h.2
  · exact h.elim
def gInt (C : Int → Int → Prop) (g : Int → Int → Int) : G2 := fun d e k => match d, e with
  | .int i, .int j => C i j ∧ k (.fz (.int (g i j)))
  | _, _ => False
theorem intV {C : Int → Int → Prop} {g : Int → Int → Int} : OpV K (rI C fun i j => .int (g i j)) (gInt C g) := by
  intro w m v u d e k Q' s hv hu h q
  unfold gInt at h
  split at h
  · cases hv; cases hu
    exact ⟨_, _, rfl, rfl, h.1, outFz s q (.int _) h.2⟩
  · exact h.elim
def gSub : G2 := fun d e k => match d, e with
  | .int i, .int j => k (.fz (.int (i - j)))
  | _, _ => False
theorem subV : OpV K (rI0 fun i j => .int (i - j)) gSub := by
  intro w m v u d e k Q' s hv hu h q
  unfold gSub at h
  split at h
  · cases hv; cases hu
    exact ⟨_, _, rfl, rfl, outFz s q (.int _) h⟩
  · exact h.elim
theorem mulOk_of {a : Str} {j : Int} (h0 : 0 ≤ j) (h1 : j < 1000) (h2 : a.length * j.toNat ≤ 1000000) : MulOk a j := by
  refine ⟨?_, fun hj _ h => ?_, fun _ _ => ?_⟩
  · rw [Bool.or_eq_false_iff]
    exact ⟨decide_eq_false (Int.not_lt.mpr (Int.le_trans (by decide) h0)), decide_eq_false (Int.not_le.mpr (Int.lt_of_lt_of_le h1 (by decide)))⟩
  · have hp : 0 < j := by omega
    obtain ⟨n, rfl⟩ := Int.eq_ofNat_of_zero_le h0
    have h3 : ((a.length * n : Nat) : Int) ≤ 1000000 := by rw [Int.toNat_natCast] at h2; omega
    rw [Int.natCast_mul] at h3
    have h4 : ((2 : Int) ^ 63 - 1) / (n : Int) + 1 ≤ a.length := by
      have h : (a.length : Int) > ((2 : Int) ^ 63 - 1) / (n : Int) := h
      exact h
    have h5 := Int.lt_ediv_add_one_mul_self ((2 : Int) ^ 63 - 1) hp
    have h6 := Int.mul_le_mul_of_nonneg_right h4 (Int.natCast_nonneg n)
    exact absurd (Int.lt_of_lt_of_le h5 (Int.le_trans h6 h3)) (by decide)
  · have : ¬ (a.length * j.toNat > sizeLine) := by show ¬ (_ > 16777216); omega
    exact decide_eq_false this
theorem op_mulS {X : Cx} : OpR X (binaryOp .Mult) (fun x y H Q => ∃ a j, x = .str a ∧ y = .int j ∧ MulOk a j ∧ Q (.str (Txt.mul a j)) H) := by
  intro pins s σ H x y v u Q I rx ry h
  obtain ⟨a, j, rfl, rfl, hok, q⟩ := h
  obtain ⟨t, rfl⟩ := rx
  obtain ⟨t', rfl⟩ := ry
  exact SB.mul hok fun t2 n => ⟨.str (Txt.mul a j), H, I.tok n, ⟨t2, rfl⟩, q⟩
def gMul : G2 := fun d e k => match d, e with
  | .int i, .int j => CMul i j ∧ k (.fz (.int (i * j)))
  | .str a, .int j => 0 ≤ j ∧ j < 1000 ∧ a.length * j.toNat ≤ 1000000 ∧ k (.fz (.str (Txt.mul a j)))
  | .lst a, .int j => -(2 ^ 63) ≤ j ∧ j < 2 ^ 63 ∧ a.length * j.toNat ≤ sizeLine ∧ k (.tmp (.lst (List.replicate j.toNat a).flatten))
  | _, _ => False
def rMulAll : R2 := fun x y H Q => rI CMul (fun i j => .int (i * j)) x y H Q ∨ rRep x y H Q ∨ ∃ a j, x = .str a ∧ y = .int j ∧ MulOk a j ∧ Q (.str (Txt.mul a j)) H
theorem op_mulAll {X : Cx} : OpR X (binaryOp .Mult) rMulAll := op_mul.or (op_rep.or op_mulS)
theorem mulV : OpV K rMulAll gMul := by
  intro w m v u d e k Q' s hv hu h q
  unfold gMul at h
  split at h
  · cases hv; cases hu
    exact .inl ⟨_, _, rfl, rfl, h.1, outFz s q (.int _) h.2⟩
  · cases hv; cases hu
    exact .inr (.inr ⟨_, _, rfl, rfl, mulOk_of h.1 h.2.1 h.2.2.1, outFz s q (.str _) h.2.2.2⟩)
  · rename_i ds j
    obtain ⟨a, xs, rfl, h1, r1⟩ := hv
    cases hu
    refine .inr (.inl ⟨_, _, _, rfl, rfl, h1, h.1, h.2.1, by rw [r1.length]; exact h.2.2.1, fun p hp => ?_⟩)
    refine outTmp s q hp (.lst ?_) h.2.2.2
    refine RepL.flat (by simp) fun i vs es e1 e2 => ?_
    rw [List.getElem?_replicate] at e1 e2
    split at e1
    · rename_i hi
      rw [if_pos hi] at e2
      cases e1; cases e2
      exact r1
    · cases e1
  · exact h.elim
abbrev gDiv : G2 := gInt CDiv fun i j => i / j
abbrev gMod : G2 := gInt (fun _ j => 0 < j) fun i j => i % j
abbrev gPow : G2 := gInt CPow fun i j => i ^ j.toNat
def gCmp (p : Int → Int → Bool) : G2 := fun d e k => match d, e with
  | .int i, .int j => k (.fz (.bl (p i j)))
  | _, _ => False
theorem cmpV {p : Int → Int → Bool} : OpV K (rI0 fun i j => .bl (p i j)) (gCmp p) := by
  intro w m v u d e k Q' s hv hu h q
  unfold gCmp at h
  split at h
  · cases hv; cases hu
    exact ⟨_, _, rfl, rfl, outFz s q (.bl _) h⟩
  · exact h.elim
abbrev gLt : G2 := gCmp fun i j => decide (i < j)
abbrev gLe : G2 := gCmp fun i j => decide (i ≤ j)
abbrev gGt : G2 := gCmp fun i j => decide (j < i)
abbrev gGe : G2 := gCmp fun i j => decide (j ≤ i)
def gIsN : G2 := fun d e k => match e with
  | .non => match d with
    | .raw _ => False
    | .gh _ => k (.fz (.bl false))
    | .non => k (.fz (.bl true))
    | _ => k (.fz (.bl false))
  | _ => False
def gIsRaw : G2 := fun d e k => match d, e with
  | .raw v, .non => k (.fz (.bl (decide (v = .non))))
  | d, .non => k (.fz (.bl (match d with | .non => true | _ => false)))
  | _, _ => False
def isNon : D → Bool
  | .non => true
  | .raw v => decide (v = .non)
  | _ => false
theorem isNon_ok {w : Wd} {v : V} {d : D} (h : Vw K w v d) : decide (v = .non) = isNon d := by
  cases d with
  | non => cases h; rfl
  | bl b => cases h; rfl
  | int b => cases h; rfl
  | str b => cases h; rfl
  | raw u => cases h; rfl
  | gh k => obtain ⟨a, rfl, _⟩ := h; rfl
  | fn q n cs => cases h; rfl
  | clo q n ds => cases h; rfl
  | tup ds => obtain ⟨a, xs, rfl, _⟩ := h; rfl
  | lst ds => obtain ⟨a, xs, rfl, _⟩ := h; rfl
  | kt ds => obtain ⟨a, xs, rfl, _⟩ := h; rfl
  | kl ds => obtain ⟨a, xs, rfl, _⟩ := h; rfl
  | dK ds => obtain ⟨a, xs, rfl, _⟩ := h; rfl
  | dT ds => obtain ⟨a, xs, rfl, _⟩ := h; rfl
  | dM ds => obtain ⟨a, b, xs, rfl, _⟩ := h; rfl
  | exc C fs => cases h <;> rfl
  | ins C fs => obtain ⟨a, xs, fv, rfl, _⟩ := h; rfl
def gIs (neg : Bool) : G2 := fun d e k => match e with
  | .non => k (.fz (.bl (if neg then !isNon d else isNon d)))
  | _ => False
theorem isV : OpV K (fun x y H Q => y = .non ∧ Q (.bl (decide (x = .non))) H) (gIs false) := by
  intro w m v u d e k Q' s hv hu h q
  unfold gIs at h
  split at h
  · cases hu
    refine ⟨rfl, outFz s q (d := .bl (decide (v = .non))) (.bl _) ?_⟩
    rw [isNon_ok hv]; exact h
  · exact h.elim
theorem isNotV : OpV K (fun x y H Q => y = .non ∧ Q (.bl (!decide (x = .non))) H) (gIs true) := by
  intro w m v u d e k Q' s hv hu h q
  unfold gIs at h
  split at h
  · cases hu
    refine ⟨rfl, outFz s q (d := .bl (!decide (v = .non))) (.bl _) ?_⟩
    rw [isNon_ok hv]; exact h
  · exact h.elim

/-! ### ==, !=, in, not in of data -/
def rEqP (K : PySem.W.Frag) (neg : Bool) : R2 := fun x y H Q => ∃ d e, Dp K H x d ∧ Dp K H y e ∧ min d.depth e.depth ≤ 64 ∧ Q (.bl (if neg then !PyData.eqv d e else PyData.eqv d e)) H
theorem op_eqP {X : Cx} (hu : X.A.units + 64 < cLine) : OpR X (compareOp .Eq) (rEqP X.K false) := by
  intro pins s σ H x y v u Q I rx ry h
  obtain ⟨d, e, hd, he, sd, q⟩ := h
  obtain ⟨as, r1⟩ := Dp.reads I d x v hd rx
  obtain ⟨bs, r2⟩ := Dp.reads I e y u he ry
  exact PySem.SeqAt.eq_plain r1 r2 (dp_plain d hd) (dp_plain e he) (by omega) ⟨.bl _, H, I, rfl, q⟩
theorem op_neP {X : Cx} (hu : X.A.units + 64 < cLine) : OpR X (compareOp .NotEq) (rEqP X.K true) := by
  intro pins s σ H x y v u Q I rx ry h
  obtain ⟨d, e, hd, he, sd, q⟩ := h
  obtain ⟨as, r1⟩ := Dp.reads I d x v hd rx
  obtain ⟨bs, r2⟩ := Dp.reads I e y u he ry
  exact PySem.SeqAt.ne_plain r1 r2 (dp_plain d hd) (dp_plain e he) (by omega) ⟨.bl _, H, I, rfl, q⟩
/-- == as Python's data say -/
@[irreducible] def eqO (d e : D) : Option Bool := (toPy d).bind fun p => (toPy e).bind fun p' => if min p.depth p'.depth ≤ 64 then some (PyData.eqv p p') else none
theorem eqO_elim {d e : D} {b : Bool} (h : eqO d e = some b) : ∃ p p', toPy d = some p ∧ toPy e = some p' ∧ min p.depth p'.depth ≤ 64 ∧ PyData.eqv p p' = b := by
  unfold eqO at h
  cases h1 : toPy d with
  | none => rw [h1] at h; cases h
  | some p =>
    rw [h1] at h
    cases h2 : toPy e with
    | none => rw [h2] at h; cases h
    | some p' =>
      rw [h2] at h
      by_cases c : min p.depth p'.depth ≤ 64
      · have h : (if min p.depth p'.depth ≤ 64 then some (PyData.eqv p p') else none) = some b := h
        rw [if_pos c] at h
        exact ⟨p, p', rfl, rfl, c, Option.some.inj h⟩
      · have h : (if min p.depth p'.depth ≤ 64 then some (PyData.eqv p p') else none) = some b := h
        rw [if_neg c] at h; cases h
theorem eqO_of {d e : D} {p p' : PyData} (h1 : toPy d = some p) (h2 : toPy e = some p') (h : min p.depth p'.depth ≤ 64) : eqO d e = some (PyData.eqv p p') := by
  unfold eqO
  rw [h1, h2]
  exact if_pos h
def gEq (neg : Bool) : G2 := fun d e k => match d, e with
  | .int i, .int j => k (.fz (.bl (if neg then !decide (i = j) else decide (i = j))))
  | .str i, .str j => k (.fz (.bl (if neg then !decide (i = j) else decide (i = j))))
  | .bl i, .bl j => k (.fz (.bl (if neg then !decide (i = j) else decide (i = j))))
  | d, e => bindO (eqO d e) fun b => k (.fz (.bl (if neg then !b else b)))
theorem eqv_int (i j : Int) : PyData.eqv (.int i) (.int j) = decide (i = j) := PySem.W.Datum.eqv (α := Int) i j
theorem eqv_str (i j : Str) : PyData.eqv (.str i) (.str j) = decide (i = j) := PySem.W.Datum.eqv (α := Str) i j
theorem eqv_bool (i j : Bool) : PyData.eqv (.bool i) (.bool j) = decide (i = j) := PySem.W.Datum.eqv (α := Bool) i j
theorem dep_int (i : Int) : (PyData.int i).depth = 0 := by simp [PyData.depth]
theorem dep_str (i : Str) : (PyData.str i).depth = 0 := by simp [PyData.depth]
theorem dep_bool (i : Bool) : (PyData.bool i).depth = 0 := by simp [PyData.depth]
theorem eqV' {neg : Bool} : OpV K (rEqP K neg) (gEq neg) := by
  intro w m v u d e k Q' s hv hu h q
  unfold gEq at h
  split at h
  · cases hv; cases hu
    exact ⟨_, _, .int _, .int _, by rw [dep_int]; omega, by rw [eqv_int]; exact outFz s q (.bl _) h⟩
  · cases hv; cases hu
    exact ⟨_, _, .str _, .str _, by rw [dep_str]; omega, by rw [eqv_str]; exact outFz s q (.bl _) h⟩
  · cases hv; cases hu
    exact ⟨_, _, .bl _, .bl _, by rw [dep_bool]; omega, by rw [eqv_bool]; exact outFz s q (.bl _) h⟩
  · obtain ⟨b, hb, h⟩ := bindO_elim h
    obtain ⟨p, p', hp, hp', hd, rfl⟩ := eqO_elim hb
    exact ⟨p, p', hv.dp s.sub hp, hu.dp s.sub hp', hd, outFz s q (.bl _) h⟩
/-- the parts of a list, a tuple -/
def seqOf : D → Option (List D)
  | .lst ds => some ds
  | .kl ds => some ds
  | .tup ds => some ds
  | .kt ds => some ds
  | _ => none
def inStr (s t : Str) : Bool := match s.cps.toList with
  | [c] => decide (c ∈ t.cps.toList)
  | _ => !(Builtin.Str.occurrences t s 0 t.length 1).isEmpty
theorem inStr_cases (s t : Str) : (∃ c, s.cps.toList = [c] ∧ inStr s t = decide (c ∈ t.cps.toList)) ∨ inStr s t = !(Builtin.Str.occurrences t s 0 t.length 1).isEmpty := by
  unfold inStr
  split
  · rename_i c hc
    exact .inl ⟨c, hc, rfl⟩
  · exact .inr rfl
def rInP (K : PySem.W.Frag) (neg : Bool) : R2 := fun x y H Q => (∃ d ds, Dp K H x d ∧ (Dp K H y (.list ds) ∨ Dp K H y (.tuple ds)) ∧ min (PyData.depthAll ds) d.depth ≤ 63 ∧ Q (.bl (if neg then !(ds.any fun z => PyData.eqv z d) else ds.any fun z => PyData.eqv z d)) H) ∨
  ∃ s t, x = .str s ∧ y = .str t ∧ Q (.bl (if neg then !inStr s t else inStr s t)) H
theorem str1 {s : Str} {c : Nat} (h : s.cps.toList = [c]) : s = ⟨#[c]⟩ := by
  apply Str.ext'
  apply Array.toList_inj.mp
  rw [h]
theorem op_inP {X : Cx} (hu : X.A.units + 64 < cLine) : OpR X (compareOp .In) (rInP X.K false) := by
  intro pins s σ H x y v u Q I rx ry h
  rcases h with ⟨d, ds, hd, he, sd, q⟩ | ⟨z, t, rfl, rfl, q⟩
  · obtain ⟨as, r1⟩ := Dp.reads I d x v hd rx
    rcases he with he | he
    · obtain ⟨bs, r2⟩ := Dp.reads I _ y u he ry
      have hp := dp_plain _ he
      simp only [PyData.plain] at hp
      exact PySem.SeqAt.in_list_data r2 r1 hp (dp_plain d hd) (by omega) ⟨.bl _, H, I, rfl, q⟩
    · obtain ⟨bs, r2⟩ := Dp.reads I _ y u he ry
      have hp := dp_plain _ he
      simp only [PyData.plain] at hp
      exact PySem.SeqAt.in_tuple_data r2 r1 hp (dp_plain d hd) (by omega) ⟨.bl _, H, I, rfl, q⟩
  · rcases inStr_cases z t with ⟨c, hc, e⟩ | e
    · rw [e] at q
      exact op_in_sign pins s σ H _ _ v u Q I rx ry ⟨c, t, by rw [str1 hc], rfl, q⟩
    · rw [e] at q
      exact op_in_str pins s σ H _ _ v u Q I rx ry ⟨z, t, rfl, rfl, q⟩
theorem op_notInP {X : Cx} (hu : X.A.units + 64 < cLine) : OpR X (compareOp .NotIn) (rInP X.K true) := by
  intro pins s σ H x y v u Q I rx ry h
  rcases h with ⟨d, ds, hd, he, sd, q⟩ | ⟨z, t, rfl, rfl, q⟩
  · obtain ⟨as, r1⟩ := Dp.reads I d x v hd rx
    rcases he with he | he
    · obtain ⟨bs, r2⟩ := Dp.reads I _ y u he ry
      have hp := dp_plain _ he
      simp only [PyData.plain] at hp
      exact PySem.SeqAt.notIn_list_data r2 r1 hp (dp_plain d hd) (by omega) ⟨.bl _, H, I, rfl, q⟩
    · obtain ⟨bs, r2⟩ := Dp.reads I _ y u he ry
      have hp := dp_plain _ he
      simp only [PyData.plain] at hp
      exact PySem.SeqAt.notIn_tuple_data r2 r1 hp (dp_plain d hd) (by omega) ⟨.bl _, H, I, rfl, q⟩
  · rcases inStr_cases z t with ⟨c, hc, e⟩ | e
    · rw [e] at q
      exact op_notIn_sign pins s σ H _ _ v u Q I rx ry ⟨c, t, by rw [str1 hc], rfl, q⟩
    · rw [e] at q
      exact op_notIn_str pins s σ H _ _ v u Q I rx ry ⟨z, t, rfl, rfl, q⟩
/-- x in a list, as Python's data say -/
@[irreducible] def inO (es : List D) (d : D) : Option Bool := (toPyL es).bind fun ps => (toPy d).bind fun p => if min (PyData.depthAll ps) p.depth ≤ 63 then some (ps.any fun z => PyData.eqv z p) else none
theorem inO_elim {es : List D} {d : D} {b : Bool} (h : inO es d = some b) : ∃ ps p, toPyL es = some ps ∧ toPy d = some p ∧ min (PyData.depthAll ps) p.depth ≤ 63 ∧ (ps.any fun z => PyData.eqv z p) = b := by
  unfold inO at h
  cases h1 : toPyL es with
  | none => rw [h1] at h; cases h
  | some ps =>
    rw [h1] at h
    cases h2 : toPy d with
    | none => rw [h2] at h; cases h
    | some p =>
      rw [h2] at h
      by_cases c : min (PyData.depthAll ps) p.depth ≤ 63
      · have h : (if min (PyData.depthAll ps) p.depth ≤ 63 then some (ps.any fun z => PyData.eqv z p) else none) = some b := h
        rw [if_pos c] at h
        exact ⟨ps, p, rfl, rfl, c, Option.some.inj h⟩
      · have h : (if min (PyData.depthAll ps) p.depth ≤ 63 then some (ps.any fun z => PyData.eqv z p) else none) = some b := h
        rw [if_neg c] at h; cases h
theorem inO_of {es : List D} {d : D} {ps : List PyData} {p : PyData} (h1 : toPyL es = some ps) (h2 : toPy d = some p) (h : min (PyData.depthAll ps) p.depth ≤ 63) : inO es d = some (ps.any fun z => PyData.eqv z p) := by
  unfold inO
  rw [h1, h2]
  exact if_pos h
def gIn (neg : Bool) : G2 := fun d e k => match e with
  | .str t => match d with
    | .str s => k (.fz (.bl (if neg then !inStr s t else inStr s t)))
    | _ => False
  | e => bindO (seqOf e) fun es => bindO (inO es d) fun b => k (.fz (.bl (if neg then !b else b)))
theorem inV' {neg : Bool} : OpV K (rInP K neg) (gIn neg) := by
  intro w m v u d e k Q' s hv hu h q
  unfold gIn at h
  split at h
  · split at h
    · cases hv; cases hu
      exact .inr ⟨_, _, rfl, rfl, outFz s q (.bl _) h⟩
    · exact h.elim
  · obtain ⟨es, he, h⟩ := bindO_elim h
    obtain ⟨b, hb, h⟩ := bindO_elim h
    obtain ⟨ps, p, hp, hp', hd, rfl⟩ := inO_elim hb
    refine .inl ⟨p, ps, hv.dp s.sub hp', ?_, hd, outFz s q (.bl _) h⟩
    cases e <;> simp [seqOf] at he <;> subst he
    · exact .inr (hu.dp s.sub (by simp [toPy, hp]))
    · exact .inl (hu.dp s.sub (by simp [toPy, hp]))
    · exact .inr (hu.dp s.sub (by simp [toPy, hp]))
    · exact .inl (hu.dp s.sub (by simp [toPy, hp]))

/-! ### subscripts, slices -/
def rIxAll (K : PySem.W.Frag) : R2 := rIx K
theorem atI_len {α β : Type} {xs : List α} {ys : List β} (e : xs.length = ys.length) {i : Int} {y : β} (h : atI ys i = some y) : ∃ j, ixN xs.length i = some j ∧ ys[j]? = some y := by
  unfold atI at h
  cases z : ixN ys.length i with
  | none => rw [z] at h; cases h
  | some j => rw [z] at h; exact ⟨j, by rw [e]; exact z, h⟩
theorem RepL.atI {γ : List Addr} {G : Hp} {xs : List V} {ds : List D} (r : RepL K γ G xs ds) {i : Int} {d : D} (h : L2.atI ds i = some d) : ∃ v, L2.atI xs i = some v ∧ Rep K γ G v d := by
  obtain ⟨j, h1, h2⟩ := atI_len r.length h
  obtain ⟨v, h3, h4⟩ := r.get h2
  exact ⟨v, by unfold L2.atI; rw [h1]; exact h3, h4⟩
def gIx : G2 := fun d e k => match e with
  | .int i => match d with
    | .str z => z.length ≤ sizeLine ∧ bindO (atI z.cps.toList i) fun c => k (.fz (.str ⟨#[c]⟩))
    | d => bindO (seqOf d) fun ds => bindO (atI ds i) fun x => k (.fz x)
  | _ => False
theorem ixV : OpV K (rIx K) gIx := by
  intro w m v u d e k Q' s hv hu h q
  unfold gIx at h
  split at h
  · cases hu
    split at h
    · cases hv
      obtain ⟨c, hc, h2⟩ := bindO_elim h.2
      exact .inr (.inr ⟨_, _, c, rfl, rfl, h.1, hc, outFz s q (.str _) h2⟩)
    · obtain ⟨ds, he, h'⟩ := bindO_elim h
      obtain ⟨x, hx, h3⟩ := bindO_elim h'
      cases d <;> simp [seqOf] at he <;> subst he
      · obtain ⟨a, xs, rfl, h1, r1⟩ := hv
        obtain ⟨y, h2, r2⟩ := r1.atI hx
        exact .inr (.inl ⟨a, xs, _, y, rfl, rfl, .inl (.inl (s.sub _ _ h1)), h2, outFz s q r2 h3⟩)
      · obtain ⟨a, xs, rfl, h1, r1⟩ := hv
        obtain ⟨y, h2, r2⟩ := r1.atI hx
        exact .inl ⟨a, xs, _, y, rfl, rfl, .inl (.inl h1), h2, outFz s q r2 h3⟩
      · obtain ⟨a, xs, rfl, h1, r1⟩ := hv
        obtain ⟨y, h2, r2⟩ := r1.atI hx
        exact .inr (.inl ⟨a, xs, _, y, rfl, rfl, sqT_ext s.sub h1, h2, outFz s q r2 h3⟩)
      · obtain ⟨a, xs, rfl, h1, r1⟩ := hv
        obtain ⟨y, h2, r2⟩ := r1.atI hx
        exact .inl ⟨a, xs, _, y, rfl, rfl, sqL_ext s.sub h1, h2, outFz s q r2 h3⟩
  · exact h.elim
section
variable {X : Cx} {W : WX} {a b : Expr} {fa fb : FE} {pos : Pos}
theorem ve_ix (ha : VE X W a fa) (hb : VE X W b fb) (hs : PlainIx b := by exact fun _ _ => rfl) : VE X W (.Subscript a b pos) (fOp gIx fa fb) := by
  obtain ⟨ta, pa, sa⟩ := ha.ex
  obtain ⟨tb, pb, sb⟩ := hb.ex
  exact ⟨⟨_, pe_ix ix_seq pa pb hs, fun w m Q Qx Q' s h k kx => bin_core ixV sa sb s h k kx⟩⟩
/-- a bound of a slice -/
abbrev FO := M → (Option Int → M → Prop) → PX → Prop
structure VO (X : Cx) (W : WX) (e : Option Expr) (f : FO) : Prop where
  ex : ∃ t, PO X e t ∧ ∀ (w : Wd) (m : M) (Q : Option Int → M → Prop) (Qx : PX) (Q' : Option Int → Hp → Prop), SOk X.K w m → f m Q Qx →
    (∀ r m' w', w'.σ = w.σ → Aft X.K w m w' m' → Q r m' → Q' r w'.H) → ExOk X.K W w m Qx → t w.σ w.H Q'
def oNone : FO := fun m Q _ => Q none m
def asI : Ret → Option Int
  | .fz (.int i) => some i
  | _ => none
theorem asI_ok {H0 : Hp} {w : Wd} {m : M} {v : V} {r : Ret} {c : Int} (h : RetOk K H0 w m v r) (e : asI r = some c) : v = .int c := by
  cases r with
  | fz d =>
    cases d <;> simp [asI] at e
    subst e
    cases h
    rfl
  | tmp d => simp [asI] at e
  | sl i => simp [asI] at e
def oSome (f : FE) : FO := fun m Q Qx => f m (fun r m1 => bindO (asI r) fun i => Q (some i) m1) Qx
theorem vo_none : VO X W none oNone := ⟨⟨_, po_none, fun w m Q Qx Q' s h k kx => k none m w rfl (.refl s) h⟩⟩
theorem vo_some (ha : VE X W a fa) : VO X W (some a) (oSome fa) := by
  obtain ⟨ta, pa, sa⟩ := ha.ex
  refine ⟨⟨_, po_some pa, fun w m Q Qx Q' s h k kx => ?_⟩⟩
  refine sa w m _ Qx _ s h (fun r m' w' v e a1 r1 q => ?_) kx
  obtain ⟨c, hc, q⟩ := bindO_elim q
  exact ⟨c, asI_ok r1 hc, k (some c) m' w' e a1 q⟩
/-- the cut of a list -/
def cutD {α : Type} (xs : List α) (lo hi : Option Int) : List α := (xs.drop (HT.sIx xs.length 0 lo)).take (HT.sIx xs.length xs.length hi - HT.sIx xs.length 0 lo)
theorem cutD_whole {α : Type} {xs : List α} {lo hi : Option Int} (h : HT.sIx xs.length 0 lo = 0 ∧ HT.sIx xs.length xs.length hi = xs.length) : cutD xs lo hi = xs := by
  unfold cutD
  rw [h.1, h.2, List.drop_zero, Nat.sub_zero, List.take_length]
def gSl (d : D) (lo hi : Option Int) (k : Ret → Prop) : Prop := match d with
  | .str z => z.length ≤ sizeLine ∧ k (.fz (.str (cutS z lo hi)))
  | .tup ds => k (.fz (.tup (cutD ds lo hi)))
  | .lst ds => k (.tmp (.lst (cutD ds lo hi)))
  | .kl ds => k (.tmp (.lst (cutD ds lo hi)))
  | _ => False
def rSlAll (K : PySem.W.Frag) : V → Option Int → Option Int → Hp → VK → Prop := fun x lo hi H Q => rSlS x lo hi H Q ∨ rSlA K x lo hi H Q ∨ rSlL K x lo hi H Q
theorem sl_all : SlR X (rSlAll X.K) := sl_str.or (sl_tupA.or sl_list)
def fSl (fe : FE) (fl fh : FO) : FE := fun m Q Qx => fe m (fun r m1 => fl m1 (fun lo m2 => fh m2 (fun hi m3 => bindO (view m3 r) fun d => gSl d lo hi fun r' => Q r' m3) Qx) Qx) Qx
theorem RepL.cut {γ : List Addr} {G : Hp} {xs : List V} {ds : List D} (r : RepL K γ G xs ds) (lo hi : Option Int) : RepL K γ G (cutV xs lo hi) (cutD ds lo hi) := by
  unfold cutV cutD
  rw [r.length]
  exact (r.drop _).take _
theorem ve_slice {lo hi : Option Expr} {fl fh : FO} {p2 : Pos} (ha : VE X W a fa) (hl : VO X W lo fl) (hh : VO X W hi fh) : VE X W (.Subscript a (.Slice lo hi none p2) pos) (fSl fa fl fh) := by
  obtain ⟨ta, pa, sa⟩ := ha.ex
  obtain ⟨tl, pl, sl⟩ := hl.ex
  obtain ⟨th, ph, sh⟩ := hh.ex
  refine ⟨⟨_, pe_slice sl_all pa pl ph, fun w m Q Qx Q' s h k kx => ?_⟩⟩
  refine sa w m _ Qx _ s h (fun r m1 w1 v e1 a1 r1 q => ?_) kx
  rw [← e1]
  refine sl w1 m1 _ Qx _ a1.ok q (fun lo m2 w2 e2 a2 q => ?_) (kx.aft a1 e1)
  rw [← e2]
  have a12 := a1.trans a2
  refine sh w2 m2 _ Qx _ a2.ok q (fun hi m3 w3 e3 a3 q => ?_) (kx.aft a12 (e2.trans e1))
  obtain ⟨d, hd, q⟩ := bindO_elim q
  have a13 := a12.trans a3
  have r3 := (r1.step a2.st e2).step a3.st e3
  have hv := a3.ok.view r3 hd
  have e13 := e3.trans (e2.trans e1)
  unfold gSl at q
  split at q
  · cases hv
    exact .inl ⟨_, rfl, q.1, k _ m3 w3 _ e13 a13 (retFz (.str _)) q.2⟩
  · obtain ⟨p, xs, rfl, h1, rr⟩ := hv
    refine .inr (.inl ⟨p, xs, rfl, .inl (.inl (a3.ok.sub _ _ h1)), fun z => ?_, fun _ p hp => ?_⟩)
    · rw [rr.length] at z
      rw [cutD_whole z] at q
      exact k _ m3 w3 _ e13 a13 (retFz (.tup h1 rr)) q
    obtain ⟨s4, st4⟩ := a3.ok.lay (o := .tup (cutV xs lo hi)) hp
    exact k _ m3 (w3.lay p (.tup (cutV xs lo hi))) _ e13 (a13.trans ⟨s4, st4⟩) (retFz (.tup upd_same ((rr.cut lo hi).mono (Pre.refl _) st4.gg))) q
  · obtain ⟨p, xs, rfl, h1, rr⟩ := hv
    refine .inr (.inr ⟨p, xs, rfl, .inl (.inl h1), fun p hp => ?_⟩)
    obtain ⟨s4, st4⟩ := a3.ok.put (o := .lst (cutV xs lo hi)) hp
    exact k _ m3 (w3.put p (.lst (cutV xs lo hi))) _ e13 (a13.trans ⟨s4, st4⟩) ((a3.ok.putRet hp (.lst (rr.cut lo hi))).from fun _ z => a13.st.back z) q
  · obtain ⟨p, xs, rfl, h1, rr⟩ := hv
    refine .inr (.inr ⟨p, xs, rfl, sqL_ext a3.ok.sub h1, fun p hp => ?_⟩)
    obtain ⟨s4, st4⟩ := a3.ok.put (o := .lst (cutV xs lo hi)) hp
    exact k _ m3 (w3.put p (.lst (cutV xs lo hi))) _ e13 (a13.trans ⟨s4, st4⟩) ((a3.ok.putRet hp (.lst (rr.cut lo hi))).from fun _ z => a13.st.back z) q
  · exact q.elim
end
end
end VL

/-! The value layer: calls. -/
namespace VL
open PySem PySem.Spec PyProof.Rows L2
variable [Tabs]

section
variable {X : Cx} {W : WX} {a b : Expr} {es : List Expr} {fa fb : FE} {ga : FA} {pos : Pos}
/-! ### built-ins of one and two arguments -/
theorem ve_cb1 {id : String} {x : Str} {r : List V → Hp → VK → Prop} {g : G1} {p : Pos} (hc : CallR X (.builtin id) r) (hv : UnV X.K (fun v H Q => r [v] H Q) g) (hg : Gl X x) (hm : X.mg x = none) (hb : bootBuiltins x = some (.builtin id)) (ha : VE X W a fa)
    (hn : x ≠ "__name__" := by decide) (hdb : (x == ("__debug__" : Str)) = false := by decide) (he : starEach (a :: []) X.env = (false, eval a X.env) :: starEach [] X.env := by rfl) (hpl : (backTo pos (starEach [] X.env)).any (·.1) = false := by rfl) :
    VE X W (.Call (.Name x p) [a] [] pos) (fUn g fa) := by
  obtain ⟨ta, pa, sa⟩ := ha.ex
  refine ⟨⟨_, pe_callB hc hg hm hb (pa_cons pa pa_nil he) hn hdb he hpl, fun w m Q Qx Q' s h k kx => ?_⟩⟩
  refine sa w m _ Qx _ s h (fun r m' w' v e a1 r1 q => ?_) kx
  obtain ⟨d, hd, q⟩ := bindO_elim q
  refine hv w' m' v d _ Q' a1.ok (a1.ok.view r1 hd) q fun r w3 v' e3 a3 r3 k3 => ?_
  exact k r m' w3 v' (e3.trans e) (a1.trans a3) (r3.from fun _ z => a1.st.back z) k3
theorem ve_ct1 {T : String} {x : Str} {r : List V → Hp → VK → Prop} {g : G1} {p : Pos} (hc : CallR X (.type T) r) (hv : UnV X.K (fun v H Q => r [v] H Q) g) (hg : Gl X x) (hm : X.mg x = none) (hb : bootBuiltins x = some (.type T)) (ha : VE X W a fa)
    (hn : x ≠ "__name__" := by decide) (hdb : (x == ("__debug__" : Str)) = false := by decide) (he : starEach (a :: []) X.env = (false, eval a X.env) :: starEach [] X.env := by rfl) (hpl : (backTo pos (starEach [] X.env)).any (·.1) = false := by rfl) :
    VE X W (.Call (.Name x p) [a] [] pos) (fUn g fa) := by
  obtain ⟨ta, pa, sa⟩ := ha.ex
  refine ⟨⟨_, pe_callTy hc hg hm hb (pa_cons pa pa_nil he) hn hdb he hpl, fun w m Q Qx Q' s h k kx => ?_⟩⟩
  refine sa w m _ Qx _ s h (fun r m' w' v e a1 r1 q => ?_) kx
  obtain ⟨d, hd, q⟩ := bindO_elim q
  refine hv w' m' v d _ Q' a1.ok (a1.ok.view r1 hd) q fun r w3 v' e3 a3 r3 k3 => ?_
  exact k r m' w3 v' (e3.trans e) (a1.trans a3) (r3.from fun _ z => a1.st.back z) k3
theorem ve_cb2 {id : String} {x : Str} {r : List V → Hp → VK → Prop} {g : G2} {p : Pos} (hc : CallR X (.builtin id) r) (hv : OpV X.K (fun v u H Q => r [v, u] H Q) g) (hg : Gl X x) (hm : X.mg x = none) (hbt : bootBuiltins x = some (.builtin id)) (ha : VE X W a fa) (hb : VE X W b fb)
    (hn : x ≠ "__name__" := by decide) (hdb : (x == ("__debug__" : Str)) = false := by decide) (he : starEach (a :: b :: []) X.env = (false, eval a X.env) :: starEach (b :: []) X.env := by rfl) (he2 : starEach (b :: []) X.env = (false, eval b X.env) :: starEach [] X.env := by rfl)
    (hpl : (backTo pos (starEach [b] X.env)).any (·.1) = false := by rfl) : VE X W (.Call (.Name x p) [a, b] [] pos) (fOp g fa fb) := by
  obtain ⟨ta, pa, sa⟩ := ha.ex
  obtain ⟨tb, pb, sb⟩ := hb.ex
  refine ⟨⟨_, pe_callB hc hg hm hbt (pa_cons pa (pa_cons pb pa_nil he2) he) hn hdb he hpl, fun w m Q Qx Q' s h k kx => ?_⟩⟩
  exact bin_core hv sa sb s h k kx
/-- len -/
def gLen : G1 := fun d k => match d with
  | .str z => z.length ≤ sizeLine ∧ k (.fz (.int z.length))
  | .dK es => k (.fz (.int es.length))
  | d => bindO (seqOf d) fun ds => k (.fz (.int ds.length))
def rLenAll (K : PySem.W.Frag) : List V → Hp → VK → Prop := fun xs H Q => (∃ p ys, xs = [.ref p] ∧ (SqL K H p ys ∨ SqT K H p ys) ∧ Q (.int ys.length) H) ∨ (∃ z, xs = [.str z] ∧ z.length ≤ sizeLine ∧ Q (.int z.length) H) ∨
  ∃ a kvs, xs = [.ref a] ∧ H a = some (.dK kvs) ∧ Q (.int kvs.length) H
theorem call_lenAll : CallR X (.builtin "len") (rLenAll X.K) := by
  intro pins s σ H xs us Q I r h
  rcases h with h | h | ⟨a, kvs, e, hd, q⟩
  · exact call_len_seq pins s σ H xs us Q I r h
  · exact call_len_str pins s σ H xs us Q I r h
  · exact call_lenD pins s σ H xs us Q I r ⟨a, kvs, e, hd, q⟩
theorem lenV {K : PySem.W.Frag} : UnV K (fun v H Q => rLenAll K [v] H Q) gLen := by
  intro w m v d k Q' s hv h q
  unfold gLen at h
  split at h
  · cases hv
    exact .inr (.inl ⟨_, rfl, h.1, outFz s q (.int _) h.2⟩)
  · obtain ⟨a, kvs, rfl, h1, h2, r1⟩ := hv
    have hl := congrArg List.length h2
    rw [List.length_map, List.length_map] at hl
    refine .inr (.inr ⟨a, kvs, rfl, h1, ?_⟩)
    rw [hl]
    exact outFz s q (.int _) h
  · obtain ⟨ds, he, h⟩ := bindO_elim h
    rename_i h1 h2
    clear h1 h2
    cases d <;> simp [seqOf] at he <;> subst he <;> obtain ⟨a, xs, rfl, h1, r1⟩ := hv
    · exact .inl ⟨a, xs, rfl, .inr (.inl (.inl (s.sub _ _ h1))), by rw [r1.length]; exact outFz s q (.int _) h⟩
    · exact .inl ⟨a, xs, rfl, .inl (.inl (.inl h1)), by rw [r1.length]; exact outFz s q (.int _) h⟩
    · exact .inl ⟨a, xs, rfl, .inr (sqT_ext s.sub h1), by rw [r1.length]; exact outFz s q (.int _) h⟩
    · exact .inl ⟨a, xs, rfl, .inl (sqL_ext s.sub h1), by rw [r1.length]; exact outFz s q (.int _) h⟩
/-- list(..) -/
def gList : G1 := fun d k => bindO (seqOf d) fun ds => k (.tmp (.lst ds))
theorem listV {K : PySem.W.Frag} : UnV K (fun v H Q => (fun xs H Q => ∃ p ys, xs = [V.ref p] ∧ (SqL K H p ys ∨ SqT K H p ys) ∧ ∀ l, H l = none → Q (.ref l) (upd H l (.lst ys)) : List V → Hp → VK → Prop) [v] H Q) gList := by
  intro w m v d k Q' s hv h q
  obtain ⟨ds, he, h⟩ := bindO_elim h
  cases d <;> simp [seqOf] at he <;> subst he <;> obtain ⟨a, xs, rfl, h1, r1⟩ := hv
  · exact ⟨a, xs, rfl, .inr (.inl (.inl (s.sub _ _ h1))), fun l hl => outTmp s q hl (.lst r1) h⟩
  · exact ⟨a, xs, rfl, .inl (.inl (.inl h1)), fun l hl => outTmp s q hl (.lst r1) h⟩
  · exact ⟨a, xs, rfl, .inr (sqT_ext s.sub h1), fun l hl => outTmp s q hl (.lst r1) h⟩
  · exact ⟨a, xs, rfl, .inl (sqL_ext s.sub h1), fun l hl => outTmp s q hl (.lst r1) h⟩
/-- tuple(..) -/
def gTuple : G1 := fun d k => match d with
  | .lst ds => k (.fz (.tup ds))
  | .kl ds => k (.fz (.tup ds))
  | .tup ds => k (.fz (.tup ds))
  | _ => False
theorem tupleV {K : PySem.W.Frag} : UnV K (fun v H Q => (fun xs H Q => ∃ p ys, xs = [V.ref p] ∧ ((SqL K H p ys ∧ ∀ l, H l = none → Q (.ref l) (upd H l (.tup ys))) ∨ (SqT K H p ys ∧ Q (.ref p) H)) : List V → Hp → VK → Prop) [v] H Q) gTuple := by
  intro w m v d k Q' s hv h q
  unfold gTuple at h
  split at h
  · obtain ⟨a, xs, rfl, h1, r1⟩ := hv
    exact ⟨a, xs, rfl, .inl ⟨.inl (.inl h1), fun l hl => outNew s q hl r1 h⟩⟩
  · obtain ⟨a, xs, rfl, h1, r1⟩ := hv
    exact ⟨a, xs, rfl, .inl ⟨sqL_ext s.sub h1, fun l hl => outNew s q hl r1 h⟩⟩
  · obtain ⟨a, xs, rfl, h1, r1⟩ := hv
    exact ⟨a, xs, rfl, .inr ⟨.inl (.inl (s.sub _ _ h1)), outFz s q (.tup h1 r1) h⟩⟩
  · exact h.elim
/-- int(..) of a whole number, of a truth -/
def gToInt : G1 := fun d k => match d with
  | .int i => k (.fz (.int i))
  | .bl b => k (.fz (.int (if b then 1 else 0)))
  | _ => False
theorem toIntV {K : PySem.W.Frag} : UnV K (fun v H Q => (fun xs H Q => (∃ i, xs = [V.int i] ∧ Q (.int i) H) ∨ ∃ k, xs = [.bl k] ∧ Q (.int (if k then 1 else 0)) H : List V → Hp → VK → Prop) [v] H Q) gToInt := by
  intro w m v d k Q' s hv h q
  unfold gToInt at h
  split at h
  · cases hv; exact .inl ⟨_, rfl, outFz s q (.int _) h⟩
  · cases hv; exact .inr ⟨_, rfl, outFz s q (.int _) h⟩
  · exact h.elim
/-- whole numbers, texts, truths as they lie in lists -/
def toInts : List D → Option (List Int)
  | [] => some []
  | .int i :: ds => match toInts ds with | some r => some (i :: r) | none => none
  | _ :: _ => none
def toStrs : List D → Option (List Str)
  | [] => some []
  | .str i :: ds => match toStrs ds with | some r => some (i :: r) | none => none
  | _ :: _ => none
def toBls : List D → Option (List Bool)
  | [] => some []
  | .bl i :: ds => match toBls ds with | some r => some (i :: r) | none => none
  | _ :: _ => none
theorem toInts_map (ns : List Int) : toInts (ns.map .int) = some ns := by
  induction ns with
  | nil => rfl
  | cons n r ih => simp [toInts, ih]
theorem toStrs_map (ns : List Str) : toStrs (ns.map .str) = some ns := by
  induction ns with
  | nil => rfl
  | cons n r ih => simp [toStrs, ih]
theorem toBls_map (ns : List Bool) : toBls (ns.map .bl) = some ns := by
  induction ns with
  | nil => rfl
  | cons n r ih => simp [toBls, ih]
theorem toInts_of : ∀ {ds : List D} {ns : List Int}, toInts ds = some ns → ds = ns.map .int
  | [], ns, h => by cases h; rfl
  | d :: ds, ns, h => by
    cases d <;> simp [toInts] at h
    cases z : toInts ds with
    | none => rw [z] at h; simp at h
    | some r => rw [z] at h; simp at h; subst h; rw [toInts_of z]; rfl
theorem toStrs_of : ∀ {ds : List D} {ns : List Str}, toStrs ds = some ns → ds = ns.map .str
  | [], ns, h => by cases h; rfl
  | d :: ds, ns, h => by
    cases d <;> simp [toStrs] at h
    cases z : toStrs ds with
    | none => rw [z] at h; simp at h
    | some r => rw [z] at h; simp at h; subst h; rw [toStrs_of z]; rfl
theorem toBls_of : ∀ {ds : List D} {ns : List Bool}, toBls ds = some ns → ds = ns.map .bl
  | [], ns, h => by cases h; rfl
  | d :: ds, ns, h => by
    cases d <;> simp [toBls] at h
    cases z : toBls ds with
    | none => rw [z] at h; simp at h
    | some r => rw [z] at h; simp at h; subst h; rw [toBls_of z]; rfl
theorem rep_ints {K : PySem.W.Frag} {γ : List Addr} {G : Hp} : ∀ {ns : List Int} {xs : List V}, RepL K γ G xs (ns.map .int) → xs = ns.map V.int
  | [], _, .nil => rfl
  | n :: r, _, .cons h t => by cases h; rw [rep_ints t]; rfl
theorem rep_strs {K : PySem.W.Frag} {γ : List Addr} {G : Hp} : ∀ {ns : List Str} {xs : List V}, RepL K γ G xs (ns.map .str) → xs = ns.map V.str
  | [], _, .nil => rfl
  | n :: r, _, .cons h t => by cases h; rw [rep_strs t]; rfl
theorem rep_bls {K : PySem.W.Frag} {γ : List Addr} {G : Hp} : ∀ {ns : List Bool} {xs : List V}, RepL K γ G xs (ns.map .bl) → xs = ns.map V.bl
  | [], _, .nil => rfl
  | n :: r, _, .cons h t => by cases h; rw [rep_bls t]; rfl
theorem reps_ints {K : PySem.W.Frag} {γ : List Addr} {G : Hp} : ∀ (ns : List Int), RepL K γ G (ns.map V.int) (ns.map .int)
  | [] => .nil
  | n :: r => .cons (.int n) (reps_ints r)
theorem reps_strs {K : PySem.W.Frag} {γ : List Addr} {G : Hp} : ∀ (ns : List Str), RepL K γ G (ns.map V.str) (ns.map .str)
  | [] => .nil
  | n :: r => .cons (.str n) (reps_strs r)
/-- a list that is seen -/
theorem seq_at {K : PySem.W.Frag} {w : Wd} {m : M} {v : V} {d : D} {ds : List D} (s : SOk K w m) (hv : Vw K w v d) (he : seqOf d = some ds) : ∃ a xs, v = .ref a ∧ (SqL K w.H a xs ∨ SqT K w.H a xs) ∧ RepL K w.γ w.G xs ds := by
  cases d <;> simp [seqOf] at he <;> subst he <;> obtain ⟨a, xs, rfl, h1, r1⟩ := hv
  · exact ⟨a, xs, rfl, .inr (.inl (.inl (s.sub _ _ h1))), r1⟩
  · exact ⟨a, xs, rfl, .inl (.inl (.inl h1)), r1⟩
  · exact ⟨a, xs, rfl, .inr (sqT_ext s.sub h1), r1⟩
  · exact ⟨a, xs, rfl, .inl (sqL_ext s.sub h1), r1⟩
def lstOf : D → Option (List D)
  | .lst ds => some ds
  | .kl ds => some ds
  | _ => none
theorem lst_at {K : PySem.W.Frag} {w : Wd} {m : M} {v : V} {d : D} {ds : List D} (s : SOk K w m) (hv : Vw K w v d) (he : lstOf d = some ds) : ∃ a xs, v = .ref a ∧ SqL K w.H a xs ∧ RepL K w.γ w.G xs ds := by
  cases d <;> simp [lstOf] at he <;> subst he <;> obtain ⟨a, xs, rfl, h1, r1⟩ := hv
  · exact ⟨a, xs, rfl, .inl (.inl h1), r1⟩
  · exact ⟨a, xs, rfl, sqL_ext s.sub h1, r1⟩
def gSum : G1 := fun d k => bindO (lstOf d) fun ds => bindO (toInts ds) fun ns => k (.fz (.int ns.sum))
theorem sumV {K : PySem.W.Frag} : UnV K (fun v H Q => rSum K [v] H Q) gSum := by
  intro w m v d k Q' s hv h q
  obtain ⟨ds, he, h⟩ := bindO_elim h
  obtain ⟨ns, hn, h⟩ := bindO_elim h
  obtain ⟨a, xs, rfl, h1, r1⟩ := lst_at s hv he
  rw [toInts_of hn] at r1
  rw [rep_ints r1] at h1
  exact ⟨a, ns, rfl, h1, outFz s q (.int _) h⟩
def gAll : G1 := fun d k => bindO (lstOf d) fun ds => bindO (toBls ds) fun ns => k (.fz (.bl (ns.all id)))
theorem allV {K : PySem.W.Frag} : UnV K (fun v H Q => rAll K [v] H Q) gAll := by
  intro w m v d k Q' s hv h q
  obtain ⟨ds, he, h⟩ := bindO_elim h
  obtain ⟨ns, hn, h⟩ := bindO_elim h
  obtain ⟨a, xs, rfl, h1, r1⟩ := lst_at s hv he
  rw [toBls_of hn] at r1
  rw [rep_bls r1] at h1
  exact ⟨a, ns, rfl, h1, outFz s q (.bl _) h⟩
def gAny : G1 := fun d k => bindO (lstOf d) fun ds => bindO (toBls ds) fun ns => k (.fz (.bl (ns.any id)))
theorem anyV {K : PySem.W.Frag} : UnV K (fun v H Q => rAny K [v] H Q) gAny := by
  intro w m v d k Q' s hv h q
  obtain ⟨ds, he, h⟩ := bindO_elim h
  obtain ⟨ns, hn, h⟩ := bindO_elim h
  obtain ⟨a, xs, rfl, h1, r1⟩ := lst_at s hv he
  rw [toBls_of hn] at r1
  rw [rep_bls r1] at h1
  exact ⟨a, ns, rfl, h1, outFz s q (.bl _) h⟩
/-- max, min of two -/
def gMax : G2 := gInt (fun _ _ => True) fun i j => if j > i then j else i
def gMin : G2 := gInt (fun _ _ => True) fun i j => if j < i then j else i
theorem maxV {K : PySem.W.Frag} : OpV K (fun x y H Q => (fun xs H Q => ∃ i j, xs = [V.int i, .int j] ∧ Q (.int (if j > i then j else i)) H : List V → Hp → VK → Prop) [x, y] H Q) gMax := by
  intro w m v u d e k Q' s hv hu h q
  unfold gMax gInt at h
  split at h
  · cases hv; cases hu
    exact ⟨_, _, rfl, outFz s q (.int _) h.2⟩
  · exact h.elim
theorem minV {K : PySem.W.Frag} : OpV K (fun x y H Q => (fun xs H Q => ∃ i j, xs = [V.int i, .int j] ∧ Q (.int (if j < i then j else i)) H : List V → Hp → VK → Prop) [x, y] H Q) gMin := by
  intro w m v u d e k Q' s hv hu h q
  unfold gMin gInt at h
  split at h
  · cases hv; cases hu
    exact ⟨_, _, rfl, outFz s q (.int _) h.2⟩
  · exact h.elim
/-- isinstance(x, T), T a built-in class -/
def tyName : D → Option String
  | .non => some "NoneType"
  | .bl _ => some "bool"
  | .int _ => some "int"
  | .str _ => some "str"
  | .tup _ => some "tuple"
  | .lst _ => some "list"
  | .dK _ => some "dict"
  | .dT _ => some "dict"
  | _ => none
def gIsi : G2 := fun d e k => match e with
  | .raw (.ty n) => bindO (tyName d) fun t => bindO (kitB t n) fun b => k (.fz (.bl b))
  | _ => False
theorem isiV {K : PySem.W.Frag} : OpV K (fun x y H Q => rIsi K [x, y] H Q) gIsi := by
  intro w m v u d e k Q' s hv hu h q
  unfold gIsi at h
  split at h
  · rename_i n
    cases hu
    obtain ⟨t, ht, h⟩ := bindO_elim h
    obtain ⟨b, hb, h⟩ := bindO_elim h
    refine ⟨v, .ty n, .type t, .type n, b, rfl, .ty n, ?_, kit_ty hb, outFz s q (.bl _) h⟩
    cases d <;> simp [tyName] at ht <;> subst ht
    · cases hv; exact .base .non
    · cases hv; exact .base (.bl _)
    · cases hv; exact .base (.int _)
    · cases hv; exact .base (.str _)
    · obtain ⟨a, xs, rfl, h1, r1⟩ := hv; exact .base (.tup (s.sub _ _ h1))
    · obtain ⟨a, xs, rfl, h1, r1⟩ := hv; exact .base (.lst h1)
    · obtain ⟨a, xs, rfl, h1, r1⟩ := hv; exact .base (.dK h1)
    · obtain ⟨a, xs, rfl, h1, r1⟩ := hv; exact .base (.dT h1)
  · exact h.elim
/-- a built-in class, as a value -/
theorem ve_ty {x : Str} {n : String} {pos : Pos} (hg : Gl X x) (hm : X.mg x = none) (hv : bootBuiltins x = some (.type n)) (hn : x ≠ "__name__" := by decide) (hd : (x == ("__debug__" : Str)) = false := by decide) : VE X W (.Name x pos) (fC (.raw (.ty n))) :=
  ⟨⟨_, pe_bltn (v := .ty n) hg hm hv rfl hn hd, fun w m Q Qx Q' s h k kx => k _ m w _ rfl (.refl s) (retFz (.raw _)) h⟩⟩

/-! ### containers that are changed by their methods -/
def mget (m : M) : Ret → Option D
  | .sl i => match m.env[i]? with
    | some (.own d) => some d
    | some (.val (.gh k)) => m.gs[k]?
    | _ => none
  | .fz (.gh k) => m.gs[k]?
  | _ => none
def mput (m : M) (r : Ret) (d : D) : M := match r with
  | .sl i => match m.env[i]? with
    | some (.val (.gh k)) => ⟨m.env, m.gs.set k d⟩
    | _ => m.set i (.own d)
  | .fz (.gh k) => ⟨m.env, m.gs.set k d⟩
  | _ => m
theorem mut_ok {K : PySem.W.Frag} {w : Wd} {m : M} {H0 : Hp} {v : V} {r : Ret} {d : D} (s : SOk K w m) (h : RetOk K H0 w m v r) (e : mget m r = some d) :
    ∃ a o, v = .ref a ∧ w.H a = some o ∧ ORep K w.γ w.G o d ∧ ∀ o' d', ORep K w.γ w.G o' d' → Aft K w m (w.put a o') (mput m r d') := by
  have gcase : ∀ k, Rep K w.γ w.G v (.gh k) → m.gs[k]? = some d → ∃ a o, v = .ref a ∧ w.H a = some o ∧ ORep K w.γ w.G o d ∧ ∀ o' d', ORep K w.γ w.G o' d' → Aft K w m (w.put a o') ⟨m.env, m.gs.set k d'⟩ := by
    intro k hr hk
    cases hr with
    | gh hg =>
      obtain ⟨a, o, h1, h2, h3, h4⟩ := s.ghAt hk
      rw [hg] at h1
      cases h1
      exact ⟨_, o, rfl, h3, h4, fun o' d' r' => let ⟨x, y⟩ := s.writeG hg r'; ⟨x, y⟩⟩
  cases r with
  | tmp x => cases e
  | fz x =>
    cases x <;> try (cases e; done)
    rename_i k
    exact gcase k h e
  | sl i =>
    have h : w.σ[i]? = some (some v) := h
    dsimp only [mget] at e
    split at e
    · rename_i x hx
      cases e
      obtain ⟨a, o, h1, h2, h3, h4, h5⟩ := s.own i _ hx
      rw [h] at h1
      cases h1
      refine ⟨a, o, rfl, h4, h5, fun o' d' r' => ?_⟩
      obtain ⟨x, y⟩ := s.write hx h r'
      have : mput m (.sl i) d' = m.set i (.own d') := by simp only [mput, hx]
      rw [this]
      exact ⟨x, y⟩
    · rename_i k hx
      obtain ⟨v', h1, h2⟩ := s.val i _ hx
      rw [h] at h1
      cases h1
      obtain ⟨a, o, h3, h4, h5, h6⟩ := gcase k h2 e
      refine ⟨a, o, h3, h4, h5, fun o' d' r' => ?_⟩
      have : mput m (.sl i) d' = ⟨m.env, m.gs.set k d'⟩ := by simp only [mput, hx]
      rw [this]
      exact h6 o' d' r'
    · cases e
/-- a method that changes its container: by its content, its arguments: what is given back, the new content -/
abbrev GM := D → List D → (D → D → Prop) → Prop
def MmV (K : PySem.W.Frag) (r : V → List V → Hp → VK → Prop) (g : GM) : Prop := ∀ (γ : List Addr) (G H : Hp) (a : Addr) (o : HO) (c : D) (vs : List V) (ds : List D) (k : D → D → Prop) (Q' : VK), Ext G H → H a = some o → ORep K γ G o c → RepL K γ G vs ds → g c ds k →
  (∀ v rd o' c', Rep K γ G v rd → ORep K γ G o' c' → k rd c' → Q' v (upd H a o')) → r (.ref a) vs H Q'
def isT (T : String) : D → Prop
  | .lst _ => T = "list"
  | .dK _ => T = "dict"
  | .dT _ => T = "dict"
  | _ => False
theorem isT_ok {K : PySem.W.Frag} {γ : List Addr} {G H : Hp} {a : Addr} {o : HO} {d : D} {T : String} (h : H a = some o) (r : ORep K γ G o d) (e : isT T d) : tyV K T (.ref a) H := by
  cases r with
  | lst r => exact .inl ⟨e, _, .inl (.inl h)⟩
  | dK k r => exact .inr (.inr (.inl ⟨e, .inl ⟨_, h⟩⟩))
  | dT k r => exact .inr (.inr (.inl ⟨e, .inr ⟨_, h⟩⟩))
  | dM _ _ _ _ => exact (show False from e).elim
  | ins _ _ => exact (show False from e).elim
def fMm (T : String) (g : GM) (fo : FE) (ga : FA) : FE := fun m Q Qx => fo m (fun ro m1 => bindO (mget m1 ro) fun c => isT T c ∧ ga m1 (fun ds m2 => bindO (mget m2 ro) fun c => g c ds fun rd c' => Q (.fz rd) (mput m2 ro c')) Qx) Qx
def fMm0 (T : String) (g : GM) (fo : FE) : FE := fun m Q Qx => fo m (fun ro m1 => bindO (mget m1 ro) fun c => isT T c ∧ g c [] fun rd c' => Q (.fz rd) (mput m1 ro c')) Qx
theorem ve_mm0 {T id : String} {name : Str} {apos : Pos} {r : V → List V → Hp → VK → Prop} {g : GM} (pa : PlainAttrs T) (slot : Slot T name id) (hty : typeOf (.builtin id) = pure (.type "method_descriptor")) (hm : MtR X id r) (hv : MmV X.K r g) (ha : VE X W a fa)
    (hbase : attributeBase a name X.env (eval a X.env) = eval a X.env := by rfl) (hline : (apos.endLine == pos.line) = true := by rfl) : VE X W (.Call (.Attribute a name apos) [] [] pos) (fMm0 T g fa) := by
  obtain ⟨ta, p1, sa⟩ := ha.ex
  refine ⟨⟨_, pe_bm0 pa slot hty hm p1 hbase hline, fun w m Q Qx Q' s h k kx => ?_⟩⟩
  refine sa w m _ Qx _ s h (fun ro m1 w1 v e1 a1 r1 q => ?_) kx
  obtain ⟨c, hc, ht, q⟩ := bindO_elim q
  obtain ⟨p, o, rfl, h1, h2, h3⟩ := mut_ok a1.ok r1 hc
  refine ⟨isT_ok h1 h2 ht, ?_⟩
  refine hv w1.γ w1.G w1.H p o c [] [] _ Q' a1.ok.sub h1 h2 .nil q fun v rd o' c' rr ro' kk => ?_
  have a2 := h3 o' c' ro'
  exact k (.fz rd) (mput m1 ro c') (w1.put p o') v e1 (a1.trans a2) (retFz rr) kk
theorem ve_mm {T id : String} {name : Str} {apos : Pos} {r : V → List V → Hp → VK → Prop} {g : GM} {e : Expr} (pa : PlainAttrs T) (slot : Slot T name id) (hty : typeOf (.builtin id) = pure (.type "method_descriptor")) (hm : MtR X id r) (hv : MmV X.K r g) (ha : VE X W a fa) (hb : VA X W (e :: es) ga)
    (hbase : attributeBase a name X.env (eval a X.env) = eval a X.env := by rfl)
    (hfew : ((backTo pos (starEach (e :: es) X.env)).all (fun x => !x.1) && (backToKw pos (keywordEach [] X.env)).all (fun x => x.1.isSome)
      && decide ((e :: es).length + ([] : List Keyword).length + (if ([] : List Keyword).isEmpty then 0 else 1) < 30)) = true := by rfl)
    (hline : (apos.endLine == pos.line) = true := by rfl) (hs : starEach (e :: es) X.env = (false, eval e X.env) :: starEach es X.env := by rfl) (hplain : (backTo pos (starEach es X.env)).any (·.1) = false := by rfl) :
    VE X W (.Call (.Attribute a name apos) (e :: es) [] pos) (fMm T g fa ga) := by
  obtain ⟨ta, p1, sa⟩ := ha.ex
  obtain ⟨tb, p2, sb⟩ := hb.ex
  refine ⟨⟨_, pe_bm pa slot hty hm p1 p2 hbase hfew hline hs hplain, fun w m Q Qx Q' s h k kx => ?_⟩⟩
  refine sa w m _ Qx _ s h (fun ro m1 w1 v e1 a1 r1 q => ?_) kx
  obtain ⟨c, hc, ht, q⟩ := bindO_elim q
  obtain ⟨p, o, rfl, h1, h2, h3⟩ := mut_ok a1.ok r1 hc
  refine ⟨isT_ok h1 h2 ht, ?_⟩
  rw [← e1]
  refine sb w1 m1 _ Qx _ a1.ok q (fun ds m2 w2 vs e2 a2 r2 q => ?_) (kx.aft a1 e1)
  obtain ⟨c2, hc2, q⟩ := bindO_elim q
  obtain ⟨p', o2, ev, h4, h5, h6⟩ := mut_ok a2.ok (r1.step a2.st e2) hc2
  cases ev
  refine hv w2.γ w2.G w2.H p o2 c2 vs ds _ Q' a2.ok.sub h4 h5 r2 q fun v rd o' c' rr ro' kk => ?_
  exact k (.fz rd) (mput m2 ro c') (w2.put p o') v (e2.trans e1) ((a1.trans a2).trans (h6 o' c' ro')) (retFz rr) kk
section
variable {K : PySem.W.Frag}
def gAppend : GM := fun c ds k => match c, ds with
  | .lst cs, [d] => cs.length < sizeLine ∧ k .non (.lst (cs ++ [d]))
  | _, _ => False
theorem appendV : MmV K rAppend gAppend := by
  intro γ G H a o c vs ds k Q' s h1 h2 h3 h q
  unfold gAppend at h
  split at h
  · cases h2 with
    | lst r =>
      cases h3 with
      | cons r1 r2 =>
        cases r2
        exact ⟨a, _, _, rfl, rfl, h1, by rw [r.length]; exact h.1, q _ _ _ _ .non (.lst (r.append (.cons r1 .nil))) h.2⟩
  · exact h.elim
def gPop : GM := fun c ds k => match c, ds with
  | .lst cs, [] => bindO (cs[cs.length - 1]?) fun x => k x (.lst cs.dropLast)
  | _, _ => False
theorem popV : MmV K rPop gPop := by
  intro γ G H a o c vs ds k Q' s h1 h2 h3 h q
  unfold gPop at h
  split at h
  · cases h2 with
    | lst r =>
      cases h3
      obtain ⟨x, hx, h⟩ := bindO_elim h
      obtain ⟨v, hv, rv⟩ := r.get hx
      exact ⟨a, _, v, rfl, rfl, h1, by rw [r.length]; exact hv, q _ _ _ _ rv (.lst r.dropLast) h⟩
  · exact h.elim
def gPopAt : GM := fun c ds k => match c, ds with
  | .lst cs, [.int i] => -(2 ^ 63) ≤ i ∧ i < 2 ^ 63 ∧ bindO (seqIndex? i cs.length) fun j => bindO cs[j]? fun x => k x (.lst (cs.eraseIdx j))
  | _, _ => False
theorem popAtV : MmV K rPopAt gPopAt := by
  intro γ G H a o c vs ds k Q' s h1 h2 h3 h q
  unfold gPopAt at h
  split at h
  · cases h2 with
    | lst r =>
      cases h3 with
      | cons r1 r2 =>
        cases r2; cases r1
        obtain ⟨j, hj, h'⟩ := bindO_elim h.2.2
        obtain ⟨x, hx, h''⟩ := bindO_elim h'
        obtain ⟨v, hv, rv⟩ := r.get hx
        exact ⟨a, _, _, j, v, rfl, rfl, h1, h.1, h.2.1, by rw [r.length]; exact hj, hv, q _ _ _ _ rv (.lst (r.eraseIdx j)) h''⟩
  · exact h.elim
def gClear : GM := fun c ds k => match c, ds with
  | .lst _, [] => k .non (.lst [])
  | _, _ => False
theorem clearV : MmV K rClear gClear := by
  intro γ G H a o c vs ds k Q' s h1 h2 h3 h q
  unfold gClear at h
  split at h
  · cases h2 with
    | lst r =>
      cases h3
      exact ⟨a, _, rfl, rfl, h1, q _ _ _ _ .non (.lst .nil) h⟩
  · exact h.elim
def gReverse : GM := fun c ds k => match c, ds with
  | .lst cs, [] => k .non (.lst cs.reverse)
  | _, _ => False
theorem reverseV : MmV K rReverse gReverse := by
  intro γ G H a o c vs ds k Q' s h1 h2 h3 h q
  unfold gReverse at h
  split at h
  · cases h2 with
    | lst r =>
      cases h3
      exact ⟨a, _, rfl, rfl, h1, q _ _ _ _ .non (.lst r.reverse) h⟩
  · exact h.elim
def gExtend : GM := fun c ds k => match c, ds with
  | .lst cs, [.lst es] => cs.length + es.length ≤ sizeLine ∧ k .non (.lst (cs ++ es))
  | _, _ => False
theorem extendV : MmV K rExtend gExtend := by
  intro γ G H a o c vs ds k Q' s h1 h2 h3 h q
  unfold gExtend at h
  split at h
  · cases h2 with
    | lst r =>
      cases h3 with
      | cons r1 r2 =>
        cases r2
        cases r1 with
        | lst hb rb =>
          exact ⟨a, _, _, _, rfl, rfl, h1, s _ _ hb, by rw [r.length, rb.length]; exact h.1, q _ _ _ _ .non (.lst (r.append rb)) h.2⟩
  · exact h.elim
end

/-! ### methods of texts -/
def isS : D → Prop
  | .str _ => True
  | _ => False
def fS1 (g : G2) (fo fe : FE) : FE := fun m Q Qx => fo m (fun ro m1 => bindO (view m1 ro) fun d => isS d ∧ fe m1 (fun re m2 => bindO (view m2 ro) fun d => bindO (view m2 re) fun e => g d e fun r => Q r m2) Qx) Qx
theorem ve_s1 {id : String} {name : Str} {apos : Pos} {r : V → List V → Hp → VK → Prop} {g : G2} (slot : Slot "str" name id) (ty : typeOf (.builtin id) = pure (.type "method_descriptor")) (rule : MtR X id r) (hv : OpV X.K (fun x y H Q => r x [y] H Q) g) (ha : VE X W a fa) (hb : VE X W b fb)
    (hs : starEach [b] X.env = [(false, eval b X.env)] := by rfl) (hbase : attributeBase a name X.env (eval a X.env) = eval a X.env := by rfl) (hline : (apos.endLine == pos.line) = true := by rfl) :
    VE X W (.Call (.Attribute a name apos) [b] [] pos) (fS1 g fa fb) := by
  obtain ⟨ta, p1, sa⟩ := ha.ex
  obtain ⟨tb, p2, sb⟩ := hb.ex
  refine ⟨⟨_, pe_m1 slot ty rule p1 p2 hs hbase hline, fun w m Q Qx Q' s h k kx => ?_⟩⟩
  refine sa w m _ Qx _ s h (fun ro m1 w1 v e1 a1 r1 q => ?_) kx
  obtain ⟨d, hd, ht, q⟩ := bindO_elim q
  have hv1 := a1.ok.view r1 hd
  refine ⟨?_, ?_⟩
  · cases d <;> first | exact ht.elim | exact ⟨_, hv1⟩
  rw [← e1]
  refine sb w1 m1 _ Qx _ a1.ok q (fun re m2 w2 u e2 a2 r2 q => ?_) (kx.aft a1 e1)
  obtain ⟨d, hd, q⟩ := bindO_elim q
  obtain ⟨e, he, q⟩ := bindO_elim q
  have a12 := a1.trans a2
  refine hv w2 m2 v u d e _ Q' a2.ok (a2.ok.view (r1.step a2.st e2) hd) (a2.ok.view r2 he) q fun r w3 v' e3 a3 r3 k3 => ?_
  exact k r m2 w3 v' (e3.trans (e2.trans e1)) (a12.trans a3) (r3.from fun _ z => a12.st.back z) k3
section
variable {K : PySem.W.Frag}
def gFind : G2 := fun d e k => match d, e with
  | .str a, .str b => k (.fz (.int (Txt.find a b)))
  | _, _ => False
theorem findV : OpV K (fun x y H Q => (fun x xs H Q => ∃ a b, x = V.str a ∧ xs = [V.str b] ∧ Q (.int (Txt.find a b)) H : V → List V → Hp → VK → Prop) x [y] H Q) gFind := by
  intro w m v u d e k Q' s hv hu h q
  unfold gFind at h
  split at h
  · cases hv; cases hu
    exact ⟨_, _, rfl, rfl, outFz s q (.int _) h⟩
  · exact h.elim
theorem reps_strs' {γ : List Addr} {G : Hp} (ns : List Str) : RepL K γ G (ns.map V.str) (ns.map .str) := reps_strs ns
def gJoin : G2 := fun d e k => match d with
  | .str a => bindO (seqOf e) fun ds => bindO (toStrs ds) fun ys => (ys.map (·.length)).sum + ys.length * a.length ≤ 16777216 ∧ k (.fz (.str (Txt.join a ys)))
  | _ => False
theorem joinV : OpV K (fun x y H Q => (fun x xs H Q => ∃ a p, ∃ ys : List Str, x = V.str a ∧ xs = [V.ref p] ∧ (SqL K H p (ys.map V.str) ∨ SqT K H p (ys.map V.str)) ∧
    (ys.map (·.length)).sum + ys.length * a.length ≤ 16777216 ∧ Q (.str (Txt.join a ys)) H : V → List V → Hp → VK → Prop) x [y] H Q) gJoin := by
  intro w m v u d e k Q' s hv hu h q
  unfold gJoin at h
  split at h
  · cases hv
    obtain ⟨ds, he, h⟩ := bindO_elim h
    obtain ⟨ys, hy, h⟩ := bindO_elim h
    obtain ⟨a, xs, rfl, h1, r1⟩ := seq_at s hu he
    rw [toStrs_of hy] at r1
    rw [rep_strs r1] at h1
    exact ⟨_, a, ys, rfl, rfl, h1, h.1, outFz s q (.str _) h.2⟩
  · exact h.elim
def gSplit : G2 := fun d e k => match d, e with
  | .str a, .str b => (b.length == 0) = false ∧ a.length + 2 ≤ sizeLine ∧ k (.tmp (.lst ((Txt.split a b).map .str)))
  | _, _ => False
theorem splitV : OpV K (fun x y H Q => (fun x xs H Q => ∃ a b, x = V.str a ∧ xs = [V.str b] ∧ (b.length == 0) = false ∧ a.length + 2 ≤ sizeLine ∧ rNewStrs (Txt.split a b) H Q : V → List V → Hp → VK → Prop) x [y] H Q) gSplit := by
  intro w m v u d e k Q' s hv hu h q
  unfold gSplit at h
  split at h
  · cases hv; cases hu
    exact ⟨_, _, rfl, rfl, h.1, h.2.1, fun p hp => outTmp s q hp (.lst (reps_strs _)) h.2.2⟩
  · exact h.elim
end
end
end VL

/-! The value layer: statements, loops. -/
namespace VL
open PySem PySem.Spec PyProof.Rows L2
variable [Tabs]

section
variable {X : Cx} {W : WX} {st : Stmt} {rest : List Stmt} {a b : Expr} {es : List Expr} {fa fb : FE} {ga : FA} {pos : Pos} {fs gs' : FS}
/-! ### blocks -/
def sNil : FS := fun E m => E.nx m
def EndsV.wn (E : EndsV) (k : M → Prop) : EndsV := { E with nx := k }
def EndsV.wl (E : EndsV) (k : M → Prop) : EndsV := { E with nx := k, ct := k, bk := E.nx }
def sSeq (f g : FS) : FS := fun E m => f (E.wn (g E)) m
theorem vss_nil : VSs X W [] sNil := ⟨⟨_, pss_nil, fun w m E D s h k => k.nx m w (.refl s) h⟩⟩
theorem vss_cons (h1 : VS X W st fs) (h2 : VSs X W rest gs') : VSs X W (st :: rest) (sSeq fs gs') := by
  obtain ⟨ta, pa, sa⟩ := h1.ex
  obtain ⟨tb, pb, sb⟩ := h2.ex
  refine ⟨⟨_, pss_cons pa pb, fun w m E D s h k => ?_⟩⟩
  exact sa w m _ _ s h ⟨fun m' w' a' q => sb w' m' E D a'.ok q (k.aft a'), k.rt, k.bk, k.ct, k.ex⟩
theorem vss_one (h1 : VS X W st fs) : VSs X W [st] fs := by
  obtain ⟨ta, pa, sa⟩ := h1.ex
  exact ⟨⟨_, pss_one pa, sa⟩⟩
theorem vss_eq {g g2 : FS} (e : g2 = g) (h : VSs X W rest g) : VSs X W rest g2 := by rw [e]; exact h
def sBreak : FS := fun E m => E.bk m
def sCont : FS := fun E m => E.ct m
theorem vs_pass : VS X W (.Pass pos) sNil := ⟨⟨_, ps_pass, fun w m E D s h k => k.nx m w (.refl s) h⟩⟩
theorem vs_break : VS X W (.Break pos) sBreak := ⟨⟨_, ps_break, fun w m E D s h k => k.bk m w (.refl s) h⟩⟩
theorem vs_continue : VS X W (.Continue pos) sCont := ⟨⟨_, ps_continue, fun w m E D s h k => k.ct m w (.refl s) h⟩⟩
theorem vs_doc {x j pos pos'} : VS X W (.Expr (.Constant (.str x) j pos) pos') sNil := ⟨⟨_, ps_doc, fun w m E D s h k => k.nx m w (.refl s) h⟩⟩
def sNever : FS := fun _ _ => False
theorem vs_never : VS X W st sNever := ⟨⟨_, ps_never, fun w m E D s h k => h.elim⟩⟩
def sExpr (f : FE) : FS := fun E m => f m (fun _ m1 => E.nx m1) E.ex
theorem vs_expr (ha : VE X W a fa) (hs : swapsWith a none pos.line X.env = pure false := by rfl) : VS X W (.Expr a pos) (sExpr fa) := by
  obtain ⟨ta, pa, sa⟩ := ha.ex
  refine ⟨⟨_, ps_expr pa hs, fun w m E D s h k => ?_⟩⟩
  refine sa w m _ _ _ s h (fun r m1 w1 v e1 a1 r1 q => ?_) k.exOk
  rw [← e1]
  exact k.nx m1 w1 a1 q
def sRet (f : FE) : FS := fun E m => f m (fun r m1 => E.rt r m1) E.ex
theorem vs_ret (ha : VE X W a fa) : VS X W (.Return (some a) pos) (sRet fa) := by
  obtain ⟨ta, pa, sa⟩ := ha.ex
  exact ⟨⟨_, ps_ret pa, fun w m E D s h k => sa w m _ _ _ s h (fun r m1 w1 v e1 a1 r1 q => k.rt r m1 w1 v a1 r1 q) k.exOk⟩⟩
def sRetN : FS := fun E m => E.rt (.fz .non) m
theorem vs_retN : VS X W (.Return none pos) sRetN := ⟨⟨_, ps_retN, fun w m E D s h k => k.rt _ m w _ (.refl s) (retFz .non) h⟩⟩
def sIf (ft : FT) (f g : FS) : FS := fun E m => ft m (fun c m1 => iteP c (f E m1) (g E m1)) E.ex
theorem vs_if {c : Expr} {sa sb : List Stmt} {ft : FT} (hc : VT X W c ft) (h1 : VSs X W sa fs) (h2 : VSs X W sb gs') : VS X W (.If c sa sb pos) (sIf ft fs gs') := by
  obtain ⟨tc, pc, sc⟩ := hc.ex
  obtain ⟨ta, pa, sa⟩ := h1.ex
  obtain ⟨tb, pb, sb⟩ := h2.ex
  refine ⟨⟨_, ps_if pc pa pb, fun w m E D s h k => ?_⟩⟩
  refine sc w m _ _ _ s h (fun c m1 w1 e1 a1 q => ?_) k.exOk
  rw [← e1]
  cases c with
  | true => exact sa w1 m1 E D a1.ok (q.1 rfl) (k.aft a1)
  | false => exact sb w1 m1 E D a1.ok (q.2 rfl) (k.aft a1)

/-! ### a value is stored in a slot -/
def sto (m : M) (i : Nat) : Ret → Option M
  | .fz d => some (m.set i (.val d))
  | .tmp d => some (m.set i (.own d))
  | .sl j => match keep m (.sl j) with
    | some (d, m1) => some (m1.set i (.val d))
    | none => none
theorem sto_ok {K : PySem.W.Frag} {w0 w : Wd} {m0 m m' : M} {v : V} {r : Ret} {i : Nat} (a : Aft K w0 m0 w m) (h : RetOk K w0.H w m v r) (hi : i < w.σ.length) (e : sto m i r = some m') :
    ∃ w', w'.σ = w.σ.set i (some v) ∧ w'.H = w.H ∧ Aft K w0 m0 w' m' := by
  cases r with
  | fz d =>
    cases e
    obtain ⟨x, y⟩ := a.ok.setVal hi h
    exact ⟨w.slot i v, rfl, rfl, x, a.st.trans y⟩
  | tmp d =>
    cases e
    obtain ⟨p, o, rfl, h1, h2, h3, h4, h5⟩ := h
    obtain ⟨x, y⟩ := a.ok.setOwn hi h2 h3 h4 h5
    refine ⟨w.slot i (.ref p), rfl, rfl, x, ⟨a.st.gg, a.st.fr, a.st.gn, fun b q => ?_, a.st.al, a.st.gp⟩⟩
    rcases y b q with z | z
    · exact a.st.on b z
    · exact .inr (by rw [z]; exact h1)
  | sl j =>
    dsimp only [sto] at e
    split at e
    · rename_i d m1 hk
      cases e
      obtain ⟨w1, e1, eH, a1, r1⟩ := keep_ok a h hk
      obtain ⟨x, y⟩ := a1.ok.setVal (by rw [e1]; exact hi) r1
      exact ⟨w1.slot i v, by show w1.σ.set i (some v) = _; rw [e1], eH, x, a1.st.trans y⟩
    · cases e
def sAsg (i : Nat) (f : FE) : FS := fun E m => f m (fun r m1 => bindO (sto m1 i r) fun m2 => i < m2.env.length ∧ E.nx m2) E.ex
theorem keep_env {m m' : M} {r : Ret} {d : D} (e : keep m r = some (d, m')) : m'.env.length = m.env.length := by
  cases r with
  | fz d' => cases e; rfl
  | tmp d' => cases e; rfl
  | sl i =>
    dsimp only [keep] at e
    split at e
    · cases e; simp [M.set]
    · cases e; rfl
    · cases e
theorem sto_env {m m' : M} {r : Ret} {i : Nat} (e : sto m i r = some m') : m'.env.length = m.env.length := by
  cases r with
  | fz d => cases e; simp [M.set]
  | tmp d => cases e; simp [M.set]
  | sl j =>
    dsimp only [sto] at e
    split at e
    · rename_i d m1 hk
      cases e
      rw [← keep_env hk]; simp [M.set]
    · cases e
theorem vs_asg (i : Nat) {x : Str} {p : Pos} (ha : VE X W a fa) (hN : X.N.Nodup) (hi : X.N[i]? = some x := by rfl) (hx : Loc X.env.scope x := by first | exact Or.inl rfl | exact Or.inr rfl) (hf : X.fn x = true ∨ X.env.scope.names.lookup x = some .local := by first | exact .inl rfl | exact .inr rfl | assumption)
    (hs : swapsWithSole [.Name x p] a pos.line X.env = pure false := by rfl) (hw : swappedStores [.Name x p] a X.env = pure none := by rfl) (h1 : (assignEach [.Name x p] X.env).map (·.2) = [assign (.Name x p) X.env] := by rfl) : VS X W (.Assign [.Name x p] a pos) (sAsg i fa) := by
  obtain ⟨ta, pa, sa⟩ := ha.ex
  refine ⟨⟨_, ps_asg pa (pg_name hN hi hx hf) hs hw h1, fun w m E D s h k => ?_⟩⟩
  refine sa w m _ _ _ s h (fun r m1 w1 v e1 a1 r1 q => ?_) k.exOk
  obtain ⟨m2, h2, q1, q2⟩ := bindO_elim q
  have hl : i < w1.σ.length := by rw [← a1.ok.len, ← sto_env h2]; exact q1
  obtain ⟨w2, e2, eH, a2⟩ := sto_ok a1 r1 hl h2
  show D.nx (w.σ.set i (some v)) w1.H
  rw [← e1, ← e2, ← eH]
  exact k.nx m2 w2 a2 q2

/-! ### targets -/
abbrev FG := M → D → (M → Prop) → Prop
abbrev FGs := M → List D → (M → Prop) → Prop
/-- the slots that may have changed -/
def OnlyAt (is : List Nat) (σ σ' : L2.St) : Prop := σ'.length = σ.length ∧ ∀ j, j ∉ is → σ'[j]? = σ[j]?
theorem OnlyAt.refl (is : List Nat) (σ : L2.St) : OnlyAt is σ σ := ⟨rfl, fun _ _ => rfl⟩
theorem OnlyAt.trans {is js : List Nat} {σ σ1 σ2 : L2.St} (a : OnlyAt is σ σ1) (b : OnlyAt js σ1 σ2) : OnlyAt (is ++ js) σ σ2 :=
  ⟨b.1.trans a.1, fun j hj => (b.2 j fun z => hj (List.mem_append_right _ z)).trans (a.2 j fun z => hj (List.mem_append_left _ z))⟩
structure VG (X : Cx) (is : List Nat) (tg : Expr) (g : FG) : Prop where
  ex : ∃ t, PG X tg t ∧ ∀ (w : Wd) (m : M) (v : V) (d : D) (Q : M → Prop) (Q' : L2.St → Hp → Prop), SOk X.K w m → Rep X.K w.γ w.G v d → g m d Q → (∀ m' w', Aft X.K w m w' m' → OnlyAt is w.σ w'.σ → Q m' → Q' w'.σ w'.H) → t v w.σ w.H Q'
structure VGs (X : Cx) (is : List Nat) (ts : List Expr) (g : FGs) : Prop where
  ex : ∃ t, PGs X ts t ∧ ∀ (w : Wd) (m : M) (vs : List V) (ds : List D) (Q : M → Prop) (Q' : L2.St → Hp → Prop), SOk X.K w m → RepL X.K w.γ w.G vs ds → g m ds Q → (∀ m' w', Aft X.K w m w' m' → OnlyAt is w.σ w'.σ → Q m' → Q' w'.σ w'.H) → t vs w.σ w.H Q'
def gNm (i : Nat) : FG := fun m d Q => i < m.env.length ∧ Q (m.set i (.val d))
theorem vg_name (i : Nat) {x : Str} (hN : X.N.Nodup) (hi : X.N[i]? = some x := by rfl) (hx : Loc X.env.scope x := by first | exact Or.inl rfl | exact Or.inr rfl) (hf : X.fn x = true ∨ X.env.scope.names.lookup x = some .local := by first | exact .inl rfl | exact .inr rfl | assumption) : VG X [i] (.Name x pos) (gNm i) := by
  refine ⟨⟨_, pg_name hN hi hx hf, fun w m v d Q Q' s r h k => ?_⟩⟩
  obtain ⟨x, y⟩ := s.setVal (i := i) (by rw [← s.len]; exact h.1) r
  exact k _ (w.slot i v) ⟨x, y⟩ ⟨by simp [Wd.slot], fun j hj => List.getElem?_set_ne (fun e => hj (by simp [e]))⟩ h.2
def gsNil : FGs := fun m ds Q => ds = [] ∧ Q m
def gsCons (g : FG) (h : FGs) : FGs := fun m ds Q => match ds with
  | d :: r => g m d fun m1 => h m1 r Q
  | [] => False
theorem vgs_nil : VGs X [] [] gsNil := by
  refine ⟨⟨_, pgs_nil, fun w m vs ds Q Q' s r h k => ?_⟩⟩
  obtain ⟨rfl, h⟩ := h
  cases r
  exact ⟨rfl, k m w (.refl s) (.refl _ _) h⟩
theorem vgs_cons {e : Expr} {g : FG} {h : FGs} {is js : List Nat} (h1 : VG X is e g) (h2 : VGs X js es h) (hs : (assignEach (e :: es) X.env).map (·.2) = assign e X.env :: (assignEach es X.env).map (·.2) := by rfl) : VGs X (is ++ js) (e :: es) (gsCons g h) := by
  obtain ⟨ta, pa, sa⟩ := h1.ex
  obtain ⟨tb, pb, sb⟩ := h2.ex
  refine ⟨⟨_, pgs_cons pa pb hs, fun w m vs ds Q Q' s r h k => ?_⟩⟩
  cases ds with
  | nil => exact h.elim
  | cons d ds =>
    cases r with
    | cons r1 r2 =>
      refine ⟨_, _, rfl, ?_⟩
      refine sa w m _ d _ _ s r1 h fun m1 w1 a1 o1 q => ?_
      exact sb w1 m1 _ ds Q Q' a1.ok (r2.mono a1.st.gp a1.st.gg) q fun m2 w2 a2 o2 q2 => k m2 w2 (a1.trans a2) (o1.trans o2) q2
def tupOf : D → Option (List D)
  | .tup ds => some ds
  | .kt ds => some ds
  | _ => none
def gTp (n : Nat) (g : FGs) : FG := fun m d Q => bindO (tupOf d) fun ds => ds.length = n ∧ g m ds Q
theorem vg_tup {k n : Nat} {g : FGs} {is : List Nat} (hc : X.calm = true) (hg : VGs X is es g) (hn : (assignEach es X.env).length = n := by rfl) (hst : (assignEach es X.env).findIdx? (·.1) = none := by rfl) : VG X is (.Tuple es k pos) (gTp n g) := by
  obtain ⟨t, p, q⟩ := hg.ex
  refine ⟨⟨_, pg_tup hc p hn hst, fun w m v d Q Q' s r h k => ?_⟩⟩
  obtain ⟨ds, hd, hl, h⟩ := bindO_elim h
  have hv := Vw.ofRep s.sub r
  cases d <;> simp [tupOf] at hd <;> subst hd <;> obtain ⟨a, xs, rfl, h1, r1⟩ := hv
  · exact ⟨a, xs, rfl, .inl (.inl (s.sub _ _ h1)), by rw [r1.length]; exact hl, q w m xs _ Q Q' s r1 h k⟩
  · exact ⟨a, xs, rfl, sqT_ext s.sub h1, by rw [r1.length]; exact hl, q w m xs _ Q Q' s r1 h k⟩
/-- a target in general: the value is kept -/
def sAsgG (f : FE) (g : FG) : FS := fun E m => f m (fun r m1 => bindO (keep m1 r) fun p => g p.2 p.1 E.nx) E.ex
theorem vs_asgG {tg : Expr} {g : FG} {is : List Nat} (ha : VE X W a fa) (hg : VG X is tg g) (hs : swapsWithSole [tg] a pos.line X.env = pure false := by rfl) (hw : swappedStores [tg] a X.env = pure none := by rfl) (h1 : (assignEach [tg] X.env).map (·.2) = [assign tg X.env] := by rfl) :
    VS X W (.Assign [tg] a pos) (sAsgG fa g) := by
  obtain ⟨ta, pa, sa⟩ := ha.ex
  obtain ⟨tb, pb, sb⟩ := hg.ex
  refine ⟨⟨_, ps_asg pa pb hs hw h1, fun w m E D s h k => ?_⟩⟩
  refine sa w m _ _ _ s h (fun r m1 w1 v e1 a1 r1 q => ?_) k.exOk
  obtain ⟨⟨d, m2⟩, hk, q⟩ := bindO_elim q
  obtain ⟨w2, e2, eH, a2, r2⟩ := keep_ok a1 r1 hk
  rw [← eH, ← e1, ← e2]
  exact sb w2 m2 v d E.nx D.nx a2.ok r2 q fun m3 w3 a3 _ q3 => k.nx m3 w3 (a2.trans a3) q3
/-- xs[i] = e, a list -/
def sSetL (fe fo fi : FE) : FS := fun E m => fe m (fun re m1 => bindO (keep m1 re) fun p => fo p.2 (fun ro m3 => fi m3 (fun ri m4 => bindO (mget m4 ro) fun c => bindO (asI ri) fun i => match c with
  | .lst cs => bindO (ixN cs.length i) fun j => E.nx (mput m4 ro (.lst (cs.set j p.1)))
  | _ => False) E.ex) E.ex) E.ex
theorem mput_σ {w : Wd} {a : Addr} {o : HO} : (w.put a o).σ = w.σ := rfl
theorem vs_setL {o i e : Expr} {fo fi fe : FE} {p' : Pos} (he : VE X W e fe) (ho : VE X W o fo) (hi : VE X W i fi) (ha : ∀ v, assign (.Subscript o i p') X.env v = (do
      let ov ← holding [v] (eval o X.env)
      let iv ← holding [v, ov] (eval i X.env)
      standAt p'
      holding [v, ov, iv] (setItem ov iv v)
      release [v, ov, iv] []) := by intro _; rfl) (hs : swapsWithSole [.Subscript o i p'] e pos.line X.env = pure false := by rfl) (hw : swappedStores [.Subscript o i p'] e X.env = pure none := by rfl) (h1 : (assignEach [.Subscript o i p'] X.env).map (·.2) = [assign (.Subscript o i p') X.env] := by rfl) :
    VS X W (.Assign [.Subscript o i p'] e pos) (sSetL fe fo fi) := by
  obtain ⟨te, pe, se⟩ := he.ex
  obtain ⟨to, po, so⟩ := ho.ex
  obtain ⟨ti, pi, si⟩ := hi.ex
  refine ⟨⟨_, ps_asg pe (pg_sub po pi set_list ha) hs hw h1, fun w m E D s h k => ?_⟩⟩
  refine se w m _ _ _ s h (fun re m1 w1 v e1 a1 r1 q => ?_) k.exOk
  obtain ⟨⟨d, m2⟩, hk, q⟩ := bindO_elim q
  obtain ⟨w2, e2, eH, a2, r2⟩ := keep_ok a1 r1 hk
  have e21 := e2.trans e1
  show to w.σ w1.H fun x H1 => ti w.σ H1 fun y H2 => rSetL x y v H2 fun H3 => D.nx w.σ H3
  rw [← eH, ← e21]
  refine so w2 m2 _ _ _ a2.ok q (fun ro m3 w3 x e3 a3 r3 q => ?_) (k.exOk.aft a2 e21)
  rw [← e3]
  have a23 := a2.trans a3
  have e31 := e3.trans e21
  refine si w3 m3 _ _ _ a3.ok q (fun ri m4 w4 y e4 a4 r4 q => ?_) (k.exOk.aft a23 e31)
  obtain ⟨c, hc, q⟩ := bindO_elim q
  obtain ⟨j, hj, q⟩ := bindO_elim q
  obtain ⟨p, o, rfl, h3, h4, h5⟩ := mut_ok a4.ok (r3.step a4.st e4) hc
  split at q
  · cases h4 with
    | lst rr =>
      obtain ⟨n, hn, q⟩ := bindO_elim q
      refine ⟨p, _, j, n, rfl, asI_ok r4 hj, h3, by rw [rr.length]; exact hn, ?_⟩
      have a5 := h5 _ _ (.lst (RepL.set n ((r2.mono a3.st.gp a3.st.gg).mono a4.st.gp a4.st.gg) rr))
      have := k.nx _ (w4.put p _) ((a23.trans a4).trans a5) q
      rw [mput_σ, e4] at this
      exact this
  · exact q.elim

/-! ### x += e -/
def sAug (i : Nat) (g : G2) (f : FE) : FS := fun E m => match m.env[i]? with
  | some (.val d0) => f m (fun r m1 => bindO (view m1 r) fun e => g d0 e fun r' => bindO (sto m1 i r') fun m2 => i < m2.env.length ∧ E.nx m2) E.ex
  | _ => False
theorem ip_addS : PIp X .Add (fun x y H Q => ∃ i j, x = V.str i ∧ y = V.str j ∧ i.length + j.length ≤ sizeLine ∧ Q (.str (i ++ j)) H) := by
  intro pins s σ H x y v u Q I rx ry h
  exact iop_add_str pins s σ H x y v u Q I rx ry h
def gAddI : G2 := fun d e k => match d, e with
  | .int i, .int j => k (.fz (.int (i + j)))
  | .str x, .str y => x.length + y.length ≤ sizeLine ∧ k (.fz (.str (x ++ y)))
  | _, _ => False
def rAddI : TIp := fun x y H Q => ipI (fun i j => i + j) x y H Q ∨ ∃ i j, x = V.str i ∧ y = V.str j ∧ i.length + j.length ≤ sizeLine ∧ Q (.str (i ++ j)) H
theorem ip_addAll : PIp X .Add rAddI := by
  intro pins s σ H x y v u Q I rx ry h
  rcases h with h | h
  · exact ip_add pins s σ H x y v u Q I rx ry h
  · exact ip_addS pins s σ H x y v u Q I rx ry h
theorem addIV {K : PySem.W.Frag} : OpV K (fun x y H Q => rAddI x y H Q) gAddI := by
  intro w m v u d e k Q' s hv hu h q
  unfold gAddI at h
  split at h
  · cases hv; cases hu
    exact .inl ⟨_, _, rfl, rfl, outFz s q (.int _) h⟩
  · cases hv; cases hu
    exact .inr ⟨_, _, rfl, rfl, h.1, outFz s q (.str _) h.2⟩
  · exact h.elim
theorem subIV {K : PySem.W.Frag} : OpV K (fun x y H Q => ipI (fun i j => i - j) x y H Q) gSub := by
  intro w m v u d e k Q' s hv hu h q
  unfold gSub at h
  split at h
  · cases hv; cases hu
    exact ⟨_, _, rfl, rfl, outFz s q (.int _) h⟩
  · exact h.elim
theorem vs_aug (i : Nat) {x : Str} {op : Operator} {ti : TIp} {g : G2} {p' : Pos} (ha : VE X W a fa) (ho : PIp X op ti) (hv : OpV X.K (fun x y H Q => ti x y H Q) g) (hN : X.N.Nodup) (hi : X.N[i]? = some x := by rfl) (hx : Loc X.env.scope x := by first | exact Or.inl rfl | exact Or.inr rfl) (hf : X.fn x = true ∨ X.env.scope.names.lookup x = some .local := by first | exact .inl rfl | exact .inr rfl | assumption) :
    VS X W (.AugAssign (.Name x p') op a pos) (sAug i g fa) := by
  obtain ⟨ta, pa, sa⟩ := ha.ex
  refine ⟨⟨_, ps_aug hN hi hx pa ho hf, fun w m E D s h k => ?_⟩⟩
  unfold sAug at h
  split at h
  · rename_i d0 e0
    obtain ⟨x0, h0, rx0⟩ := s.val i d0 e0
    refine ⟨x0, h0, ?_⟩
    refine sa w m _ _ _ s h (fun r m1 w1 v e1 a1 r1 q => ?_) k.exOk
    obtain ⟨e, he, q⟩ := bindO_elim q
    refine hv w1 m1 x0 v d0 e _ _ a1.ok (Vw.ofRep a1.ok.sub (rx0.mono a1.st.gp a1.st.gg)) (a1.ok.view r1 he) q fun r' w2 v' e2 a2 r2 q => ?_
    obtain ⟨m2, h2, q1, q2⟩ := bindO_elim q
    have a12 := a1.trans a2
    have hl : i < w2.σ.length := by rw [← a2.ok.len, ← sto_env h2]; exact q1
    obtain ⟨w3, e3, eH, a3⟩ := sto_ok a12 (r2.from fun _ z => a1.st.back z) hl h2
    show D.nx (w.σ.set i (some v')) w2.H
    rw [← e1, ← e2, ← e3, ← eH]
    exact k.nx m2 w3 a3 q2
  · exact h.elim

/-! ### while -/
@[irreducible] def sWhile (ft : FT) (fb : FS) : FS := fun E m => ∃ Wv : Nat → M → Prop, (∃ n, Wv n m) ∧ ∀ n m, Wv n m → ft m (fun c m1 => iteP c (fb (E.wl fun m' => ∃ n', n' < n ∧ Wv n' m') m1) (E.nx m1)) E.ex
theorem vs_while {c : Expr} {body : List Stmt} {ft : FT} (hp : PassesOwn (model X.prog X.w) X.A X.env X.xe) (hc : VT X W c ft) (hb : VSs X W body fs) : VS X W (.While c body [] pos) (sWhile ft fs) := by
  obtain ⟨tc, pc, sc⟩ := hc.ex
  obtain ⟨tb, pb, sb⟩ := hb.ex
  refine ⟨⟨_, ps_while hp pc pb, fun w m E D s h k => ?_⟩⟩
  rw [sWhile] at h
  obtain ⟨Wv, ⟨n0, h0⟩, hW⟩ := h
  refine ⟨fun n σ H => ∃ w1 m1, w1.σ = σ ∧ w1.H = H ∧ Aft X.K w m w1 m1 ∧ Wv n m1, ⟨n0, w, m, rfl, rfl, .refl s, h0⟩, ?_⟩
  rintro n _ _ ⟨w1, m1, rfl, rfl, a1, hn⟩
  refine sc w1 m1 _ _ _ a1.ok (hW n m1 hn) (fun c m2 w2 e2 a2 q => ?_) ((k.aft a1).exOk)
  rw [← e2]
  have a12 := a1.trans a2
  cases c with
  | false => exact k.nx m2 w2 a12 (q.2 rfl)
  | true =>
    have q := q.1 rfl
    rw [if_pos rfl]
    refine ⟨fun σ' H' => ∃ w3 m3, w3.σ = σ' ∧ w3.H = H' ∧ Aft X.K w m w3 m3 ∧ ∃ n', n' < n ∧ Wv n' m3, fun σ' H' ⟨w3, m3, e3, e4, a3, q3⟩ => ?_, ?_⟩
    · obtain ⟨n', hl, hn'⟩ := q3
      exact ⟨n', hl, w3, m3, e3, e4, a3, hn'⟩
    · have k2 := k.aft a12
      exact sb w2 m2 _ _ a2.ok q ⟨fun m' w' a' q' => ⟨w', m', rfl, rfl, a12.trans a', q'⟩, k2.rt, k2.nx, fun m' w' a' q' => ⟨w', m', rfl, rfl, a12.trans a', q'⟩, k2.ex⟩

/-! ### for -/
structure ItOk (K : PySem.W.Frag) (w0 : Wd) (m0 : M) (J : It) (ds : List D) (lk : M → Prop) : Prop where
  stop : ∀ w m, Aft K w0 m0 w m → lk m → J.stop ds.length w.H
  go : ∀ i w m, Aft K w0 m0 w m → lk m → i < ds.length → J.go i w.H
  yld : ∀ (i : Nat) w m d x H', Aft K w0 m0 w m → lk m → ds[i]? = some d → J.yld i w.H x H' → ∃ w', w'.σ = w.σ ∧ w'.H = H' ∧ Aft K w m w' m ∧ Rep K w'.γ w'.G x d
abbrev FI := M → (List D → (M → Prop) → M → Prop) → PX → Prop
structure VI (X : Cx) (W : WX) (tg iter : Expr) (f : FI) : Prop where
  ex : ∃ t, PI X tg iter t ∧ ∀ (w : Wd) (m : M) (Q : List D → (M → Prop) → M → Prop) (Qx : PX) (R : It → Hp → Prop), SOk X.K w m → f m Q Qx →
    (∀ ds lk m' w' J, w'.σ = w.σ → Aft X.K w m w' m' → ItOk X.K w' m' J ds lk → Q ds lk m' → R J w'.H) → ExOk X.K W w m Qx → t w.σ w.H R
def forR (g : FG) (fb : FS) (E : EndsV) (lk : M → Prop) : List D → M → Prop
  | [], m => lk m ∧ E.nx m
  | d :: ds, m => lk m ∧ g m d fun m1 => fb (E.wl (forR g fb E lk ds)) m1
theorem forR_nil {g : FG} {fb : FS} {E : EndsV} {lk : M → Prop} {m : M} : forR g fb E lk [] m = (lk m ∧ E.nx m) := rfl
theorem forR_cons {g : FG} {fb : FS} {E : EndsV} {lk : M → Prop} {d : D} {ds : List D} {m : M} : forR g fb E lk (d :: ds) m = (lk m ∧ g m d fun m1 => fb (E.wl (forR g fb E lk ds)) m1) := rfl
theorem forR_lk {g : FG} {fb : FS} {E : EndsV} {lk : M → Prop} {ds : List D} {m : M} (h : forR g fb E lk ds m) : lk m := by
  cases ds with
  | nil => rw [forR_nil] at h; exact h.1
  | cons d ds => rw [forR_cons] at h; exact h.1
@[irreducible] def forQ (g : FG) (fb : FS) (E : EndsV) (lk : M → Prop) (ds : List D) (m : M) : Prop := forR g fb E lk ds m
theorem forQ_eq {g : FG} {fb : FS} {E : EndsV} {lk : M → Prop} {ds : List D} {m : M} : forQ g fb E lk ds m = forR g fb E lk ds m := by rw [forQ]
def sFor (fi : FI) (g : FG) (fb : FS) : FS := fun E m => fi m (fun ds lk m1 => forQ g fb E lk ds m1) E.ex
theorem vs_for {tg iter : Expr} {body : List Stmt} {fi : FI} {g : FG} {is : List Nat} (hp : PassesOwn (model X.prog X.w) X.A X.env X.xe) (hc : X.calm = true) (hi : VI X W tg iter fi) (hg : VG X is tg g) (hb : VSs X W body fs) (hs : ∀ x, foldedSetIterable iter X.env x = pure x := by intro _; rfl) :
    VS X W (.For tg iter body [] pos) (sFor fi g fs) := by
  obtain ⟨ti, pi, si⟩ := hi.ex
  obtain ⟨tg', pg, sg⟩ := hg.ex
  obtain ⟨tb, pb, sb⟩ := hb.ex
  refine ⟨⟨_, ps_for hp hc pi pg pb hs, fun w m E D s h k => ?_⟩⟩
  refine si w m _ _ _ s h (fun ds lk m1 w1 J e1 a1 J1 q => ?_) k.exOk
  rw [forQ_eq] at q
  have k1 := k.aft a1
  rw [← e1]
  refine ⟨fun i n σ H => n = ds.length - i ∧ i ≤ ds.length ∧ ∃ w2 m2, w2.σ = σ ∧ w2.H = H ∧ Aft X.K w1 m1 w2 m2 ∧ forR g fs E lk (ds.drop i) m2, ⟨_, rfl, Nat.zero_le _, w1, m1, rfl, rfl, .refl a1.ok, q⟩, ?_⟩
  rintro i n _ _ ⟨rfl, hi, w2, m2, rfl, rfl, a2, q2⟩
  by_cases hlt : i < ds.length
  · refine .inr ⟨J1.go i w2 m2 a2 (forR_lk q2) hlt, fun σ' H' => ∃ w3 m3, w3.σ = σ' ∧ w3.H = H' ∧ Aft X.K w1 m1 w3 m3 ∧ forR g fs E lk (ds.drop (i + 1)) m3, fun σ' H' ⟨w3, m3, e3, e4, a3, q3⟩ => ⟨ds.length - (i + 1), by omega, rfl, hlt, w3, m3, e3, e4, a3, q3⟩, fun x H' y => ?_⟩
    obtain ⟨w3, e3, eH, a3, r3⟩ := J1.yld i w2 m2 ds[i] x H' a2 (forR_lk q2) (List.getElem?_eq_getElem hlt) y
    rw [List.drop_eq_getElem_cons hlt, forR_cons] at q2
    subst eH
    rw [← e3]
    have a23 := a2.trans a3
    refine sg w3 m2 x _ _ _ a3.ok r3 q2.2 fun m4 w4 a4 _ q4 => ?_
    have a24 := a23.trans a4
    have k4 := k1.aft a24
    exact sb w4 m4 _ _ a4.ok q4 ⟨fun m' w' a' q' => ⟨w', m', rfl, rfl, a24.trans a', q'⟩, k4.rt, k4.nx, fun m' w' a' q' => ⟨w', m', rfl, rfl, a24.trans a', q'⟩, k4.ex⟩
  · have e : i = ds.length := by omega
    subst e
    refine .inl ⟨J1.stop w2 m2 a2 (forR_lk q2), ?_⟩
    rw [List.drop_length, forR_nil] at q2
    exact k1.nx m2 w2 a2 q2.2

/-! ### what is walked -/
def iLstOf (m : M) (d : D) (Q : List D → (M → Prop) → M → Prop) : Prop := match d with
  | .lst ds => Q ds (fun _ => True) m
  | .kl ds => Q ds (fun _ => True) m
  | .gh k => match m.gs[k]? with
    | some (.lst ds) => Q ds (fun m' => m'.gs[k]? = some (.lst ds)) m
    | _ => False
  | _ => False
def iLst (f : FE) : FI := fun m Q Qx => f m (fun r m1 => bindO (keep m1 r) fun p => iLstOf p.2 p.1 Q) Qx
/-- a list stands while it is locked -/
theorem lst_stands {K : PySem.W.Frag} {w : Wd} {m : M} {v : V} {d : D} {Q : List D → (M → Prop) → M → Prop} (s : SOk K w m) (r : Rep K w.γ w.G v d) (h : iLstOf m d Q) :
    ∃ a ds lk, v = .ref a ∧ Q ds lk m ∧ lk m ∧ ∀ w' m', Aft K w m w' m' → lk m' → ∃ xs, SqL K w'.H a xs ∧ RepL K w'.γ w'.G xs ds := by
  unfold iLstOf at h
  split at h
  · cases r with
    | lst h1 r1 => exact ⟨_, _, _, rfl, h, trivial, fun w' m' a' _ => ⟨_, .inl (.inl (a'.ok.sub _ _ (a'.st.gg _ _ h1))), r1.mono a'.st.gp a'.st.gg⟩⟩
  · cases r with
    | kl h1 r1 => exact ⟨_, _, _, rfl, h, trivial, fun w' m' a' _ => ⟨_, sqL_ext (a'.st.gg.trans a'.ok.sub) h1, r1.mono a'.st.gp a'.st.gg⟩⟩
  · rename_i k
    split at h
    · rename_i ds hd
      cases r with
      | gh h1 =>
        refine ⟨_, ds, _, rfl, h, hd, fun w' m' a' l => ?_⟩
        obtain ⟨b, o, h2, h3, h4, h5⟩ := a'.ok.ghAt l
        rw [a'.st.gp.get h1] at h2
        cases h2
        cases h5 with
        | lst r1 => exact ⟨_, .inl (.inl h4), r1⟩
    · exact h.elim
  · exact h.elim
theorem vi_list {tg : Expr} (ha : VE X W a fa) : VI X W tg a (iLst fa) := by
  obtain ⟨ta, pa, sa⟩ := ha.ex
  refine ⟨⟨_, pi_list pa, fun w m Q Qx R s h k kx => ?_⟩⟩
  refine sa w m _ _ _ s h (fun r m1 w1 v e1 a1 r1 q => ?_) kx
  obtain ⟨⟨d, m2⟩, hk, q⟩ := bindO_elim q
  obtain ⟨w2, e2, eH, a2, r2⟩ := keep_ok a1 r1 hk
  obtain ⟨p, ds, lk, rfl, q2, l0, st⟩ := lst_stands a2.ok r2 q
  obtain ⟨xs0, h0, _⟩ := st w2 m2 (.refl a2.ok) l0
  refine ⟨p, rfl, ⟨xs0, by rw [← eH]; exact h0⟩, ?_⟩
  rw [← eH]
  refine k ds lk m2 w2 _ (e2.trans e1) a2 ⟨fun w' m' a' l => ?_, fun i w' m' a' l hi => ?_, fun i w' m' d x H' a' l hd y => ?_⟩ q2
  · obtain ⟨xs, h1, r1⟩ := st w' m' a' l
    exact ⟨xs, h1, Nat.le_of_eq r1.length⟩
  · obtain ⟨xs, h1, r1⟩ := st w' m' a' l
    obtain ⟨x, hx, _⟩ := r1.get (List.getElem?_eq_getElem hi)
    exact ⟨xs, x, h1, hx⟩
  · obtain ⟨xs, h1, r1⟩ := st w' m' a' l
    obtain ⟨rfl, y⟩ := y
    obtain ⟨x', hx, rx⟩ := r1.get hd
    have := y xs h1
    rw [hx] at this
    cases this
    exact ⟨w', rfl, rfl, .refl a'.ok, rx⟩
def iTupD (f : FE) : FI := fun m Q Qx => f m (fun r m1 => bindO (keep m1 r) fun p => bindO (tupOf p.1) fun ds => Q ds (fun _ => True) p.2) Qx
theorem vi_tup {tg : Expr} (ha : VE X W a fa) : VI X W tg a (iTupD fa) := by
  obtain ⟨ta, pa, sa⟩ := ha.ex
  refine ⟨⟨_, pi_tup pa, fun w m Q Qx R s h k kx => ?_⟩⟩
  refine sa w m _ _ _ s h (fun r m1 w1 v e1 a1 r1 q => ?_) kx
  obtain ⟨⟨d, m2⟩, hk, q⟩ := bindO_elim q
  obtain ⟨w2, e2, eH, a2, r2⟩ := keep_ok a1 r1 hk
  obtain ⟨ds, hd, q2⟩ := bindO_elim q
  have st : ∃ p, v = .ref p ∧ ∀ w' m', Aft X.K w2 m2 w' m' → ∃ xs, SqT X.K w'.H p xs ∧ RepL X.K w'.γ w'.G xs ds := by
    cases d <;> simp [tupOf] at hd <;> subst hd
    · cases r2 with
      | tup h1 rr => exact ⟨_, rfl, fun w' m' a' => ⟨_, .inl (.inl (a'.ok.sub _ _ (a'.st.gg _ _ h1))), rr.mono a'.st.gp a'.st.gg⟩⟩
    · cases r2 with
      | kt h1 rr => exact ⟨_, rfl, fun w' m' a' => ⟨_, sqT_ext (a'.st.gg.trans a'.ok.sub) h1, rr.mono a'.st.gp a'.st.gg⟩⟩
  obtain ⟨p, rfl, st⟩ := st
  obtain ⟨xs0, h0, _⟩ := st w2 m2 (.refl a2.ok)
  refine ⟨p, rfl, ⟨xs0, by rw [← eH]; exact h0⟩, ?_⟩
  rw [← eH]
  refine k ds _ m2 w2 _ (e2.trans e1) a2 ⟨fun w' m' a' l => ?_, fun i w' m' a' l hi => ?_, fun i w' m' d x H' a' l hd y => ?_⟩ q2
  · obtain ⟨xs, h1, r1⟩ := st w' m' a'
    exact ⟨xs, h1, Nat.le_of_eq r1.length⟩
  · obtain ⟨xs, h1, r1⟩ := st w' m' a'
    obtain ⟨x, hx, _⟩ := r1.get (List.getElem?_eq_getElem hi)
    exact ⟨xs, x, h1, hx⟩
  · obtain ⟨xs, h1, r1⟩ := st w' m' a'
    obtain ⟨rfl, y⟩ := y
    obtain ⟨x', hx, rx⟩ := r1.get hd
    have := y xs h1
    rw [hx] at this
    cases this
    exact ⟨w', rfl, rfl, .refl a'.ok, rx⟩
def signsOf (x : Str) : List D := x.cps.toList.map fun c => .str ⟨#[c]⟩
def iStrD (f : FE) : FI := fun m Q Qx => f m (fun r m1 => bindO (view m1 r) fun d => match d with
  | .str x => Q (signsOf x) (fun _ => True) m1
  | _ => False) Qx
theorem vi_str {tg : Expr} (ha : VE X W a fa) : VI X W tg a (iStrD fa) := by
  obtain ⟨ta, pa, sa⟩ := ha.ex
  refine ⟨⟨_, pi_str pa, fun w m Q Qx R s h k kx => ?_⟩⟩
  refine sa w m _ _ _ s h (fun r m1 w1 v e1 a1 r1 q => ?_) kx
  obtain ⟨d, hd, q⟩ := bindO_elim q
  have hv := a1.ok.view r1 hd
  split at q
  · rename_i x
    cases hv
    refine ⟨x, rfl, k _ _ m1 w1 _ e1 a1 ⟨fun w' m' a' l => ?_, fun i w' m' a' l hi => ?_, fun i w' m' d x' H' a' l hd y => ?_⟩ q⟩
    · show x.cps.size ≤ _
      simp [signsOf]
    · show i < x.cps.size
      simpa [signsOf] using hi
    · obtain ⟨rfl, c, hc, rfl⟩ := y
      refine ⟨w', rfl, rfl, .refl a'.ok, ?_⟩
      have e : d = .str ⟨#[c]⟩ := by
        unfold signsOf at hd
        rw [List.getElem?_map] at hd
        have : x.cps.toList[i]? = some c := by simpa using hc
        rw [this] at hd
        exact (Option.some.inj hd).symm
      rw [e]
      exact .str _
  · exact q.elim
def rangeD (lo : Int) (n : Nat) : List D := (List.range n).map fun (i : Nat) => .int (lo + i)
theorem rangeD_len (lo : Int) (n : Nat) : (rangeD lo n).length = n := by simp [rangeD]
theorem rangeD_at {lo : Int} {n i : Nat} {d : D} (h : (rangeD lo n)[i]? = some d) : d = .int (lo + i) := by
  unfold rangeD at h
  rw [List.getElem?_map] at h
  cases e : (List.range n)[i]? with
  | none => rw [e] at h; cases h
  | some j =>
    rw [e] at h
    obtain ⟨hl, e⟩ := List.getElem?_eq_some_iff.mp e
    rw [List.getElem_range] at e
    subst e
    exact (Option.some.inj h).symm
theorem rangeD_succ (lo : Int) (n : Nat) : rangeD lo (n + 1) = rangeD lo n ++ [.int (lo + n)] := by simp [rangeD, List.range_succ]
theorem rangeD_cons (lo : Int) (n : Nat) : rangeD lo (n + 1) = .int lo :: rangeD (lo + 1) n := by
  simp only [rangeD, List.range_succ_eq_map, List.map_cons, List.map_map]
  congr 1
  · simp
  · apply List.map_congr_left
    intro i _
    simp only [Function.comp]
    congr 1
    omega
theorem itr_ok {K : PySem.W.Frag} {w0 : Wd} {m0 : M} {lo : Int} {n : Nat} : ItOk K w0 m0 (Itr lo n) (rangeD lo n) (fun _ => True) := by
  refine ⟨fun w' m' a' l => ?_, fun i w' m' a' l hi => ?_, fun i w' m' d x H' a' l hd y => ?_⟩
  · show n ≤ _
    rw [rangeD_len]; exact Nat.le_refl _
  · show i < n
    rwa [rangeD_len] at hi
  · obtain ⟨rfl, rfl⟩ := y
    rw [rangeD_at hd]
    exact ⟨w', rfl, rfl, .refl a'.ok, .int _⟩
def iRange1 (f : FE) : FI := fun m Q Qx => f m (fun r m1 => bindO (asI r) fun j => -(2 ^ 62) ≤ j ∧ j < 2 ^ 62 ∧ Q (rangeD 0 j.toNat) (fun _ => True) m1) Qx
theorem vi_range1 {tg : Expr} {p : Pos} (hg : Gl X "range") (hm : X.mg "range" = none) (ha : VE X W a fa) (hs : starEach [a] X.env = [(false, eval a X.env)] := by rfl) : VI X W tg (.Call (.Name "range" p) [a] [] pos) (iRange1 fa) := by
  obtain ⟨ta, pa, sa⟩ := ha.ex
  refine ⟨⟨_, pi_range1 hg hm (pa_cons pa pa_nil hs) hs, fun w m Q Qx R s h k kx => ?_⟩⟩
  refine sa w m _ _ _ s h (fun r m1 w1 v e1 a1 r1 q => ?_) kx
  obtain ⟨j, hj, q1, q2, q⟩ := bindO_elim q
  exact ⟨j, by rw [asI_ok r1 hj], q1, q2, k _ _ m1 w1 _ e1 a1 itr_ok q⟩
def iRange2 (f g : FE) : FI := fun m Q Qx => f m (fun r m1 => g m1 (fun r' m2 => bindO (asI r) fun i => bindO (asI r') fun j => (-(2 ^ 62) ≤ i ∧ i < 2 ^ 62 ∧ -(2 ^ 62) ≤ j ∧ j < 2 ^ 62) ∧ Q (rangeD i (j - i).toNat) (fun _ => True) m2) Qx) Qx
theorem vi_range2 {tg : Expr} {p : Pos} (hg : Gl X "range") (hm : X.mg "range" = none) (ha : VE X W a fa) (hb : VE X W b fb) (hs : starEach [a, b] X.env = [(false, eval a X.env), (false, eval b X.env)] := by rfl) (hs2 : starEach [b] X.env = [(false, eval b X.env)] := by rfl) :
    VI X W tg (.Call (.Name "range" p) [a, b] [] pos) (iRange2 fa fb) := by
  obtain ⟨ta, pa, sa⟩ := ha.ex
  obtain ⟨tb, pb, sb⟩ := hb.ex
  refine ⟨⟨_, pi_range2 hg hm (pa_cons pa (pa_cons pb pa_nil hs2) (by rw [hs, hs2])) hs hs2, fun w m Q Qx R s h k kx => ?_⟩⟩
  refine sa w m _ _ _ s h (fun r m1 w1 v e1 a1 r1 q => ?_) kx
  rw [← e1]
  refine sb w1 m1 _ _ _ a1.ok q (fun r' m2 w2 u e2 a2 r2 q => ?_) (kx.aft a1 e1)
  obtain ⟨i, hi, q⟩ := bindO_elim q
  obtain ⟨j, hj, q1, q⟩ := bindO_elim q
  exact ⟨i, j, by rw [asI_ok r1 hi, asI_ok r2 hj], q1, k _ _ m2 w2 _ (e2.trans e1) (a1.trans a2) itr_ok q⟩
def enumD (i : Nat) : List D → List D
  | [] => []
  | d :: ds => .tup [.int i, d] :: enumD (i + 1) ds
theorem enumD_len : ∀ (ds : List D) (i : Nat), (enumD i ds).length = ds.length
  | [], _ => rfl
  | d :: ds, i => by rw [enumD, List.length_cons, List.length_cons, enumD_len ds]
theorem enumD_at : ∀ {ds : List D} {j i : Nat} {d : D}, (enumD j ds)[i]? = some d → ∃ x, ds[i]? = some x ∧ d = .tup [.int ((j + i : Nat) : Int), x]
  | [], _, _, _, h => by simp [enumD] at h
  | x :: ds, j, 0, d, h => ⟨x, rfl, by simp [enumD] at h; simp [h]⟩
  | x :: ds, j, i + 1, d, h => by
    obtain ⟨y, h1, h2⟩ := enumD_at (ds := ds) (j := j + 1) (i := i) (by simpa [enumD] using h)
    refine ⟨y, by simpa using h1, ?_⟩
    rw [h2, show j + 1 + i = j + (i + 1) by omega]
def iEnumD (f : FE) : FI := fun m Q Qx => f m (fun r m1 => bindO (keep m1 r) fun p => iLstOf p.2 p.1 fun ds lk m2 => Q (enumD 0 ds) lk m2) Qx
theorem vi_enum {elts : List Expr} {kk : Nat} {p tpos : Pos} (hg : Gl X "enumerate") (hm : X.mg "enumerate" = none) (ha : VE X W a fa) (hs : starEach [a] X.env = [(false, eval a X.env)] := by rfl) : VI X W (.Tuple elts kk tpos) (.Call (.Name "enumerate" p) [a] [] pos) (iEnumD fa) := by
  obtain ⟨ta, pa, sa⟩ := ha.ex
  refine ⟨⟨_, pi_enum hg hm (pa_cons pa pa_nil hs) hs, fun w m Q Qx R s h k kx => ?_⟩⟩
  refine sa w m _ _ _ s h (fun r m1 w1 v e1 a1 r1 q => ?_) kx
  obtain ⟨⟨d, m2⟩, hk, q⟩ := bindO_elim q
  obtain ⟨w2, e2, eH, a2, r2⟩ := keep_ok a1 r1 hk
  obtain ⟨p, ds, lk, rfl, q2, l0, st⟩ := lst_stands a2.ok r2 q
  obtain ⟨xs0, h0, _⟩ := st w2 m2 (.refl a2.ok) l0
  refine ⟨p, xs0, rfl, by rw [← eH]; exact h0, ?_⟩
  rw [← eH]
  refine k _ lk m2 w2 _ (e2.trans e1) a2 ⟨fun w' m' a' l => ?_, fun i w' m' a' l hi => ?_, fun i w' m' d x H' a' l hd y => ?_⟩ q2
  · obtain ⟨xs, h1, r1⟩ := st w' m' a' l
    exact ⟨xs, h1, by rw [enumD_len]; exact Nat.le_of_eq r1.length⟩
  · obtain ⟨xs, h1, r1⟩ := st w' m' a' l
    rw [enumD_len] at hi
    obtain ⟨x, hx, _⟩ := r1.get (List.getElem?_eq_getElem hi)
    exact ⟨xs, x, h1, hx⟩
  · obtain ⟨xs, h1, r1⟩ := st w' m' a' l
    obtain ⟨T, x, rfl, hT, rfl, y⟩ := y
    obtain ⟨d', hd', rfl⟩ := enumD_at hd
    obtain ⟨x', hx, rx⟩ := r1.get hd'
    have z := y xs h1
    rw [hx] at z
    cases z
    obtain ⟨s4, st4⟩ := a'.ok.lay (o := .tup [.int (i : Nat), x]) hT
    refine ⟨w'.lay T (.tup [.int (i : Nat), x]), rfl, rfl, ⟨s4, st4⟩, .tup upd_same (.cons ?_ (.cons (rx.mono (Pre.refl _) st4.gg) .nil))⟩
    rw [Nat.zero_add]
    exact .int _
def zipD (ds es : List D) : List D := List.zipWith (fun a b => .tup [a, b]) ds es
/-- two lists, one beside the other -/
def iZipD (f g : FE) : FI := fun m Q Qx => f m (fun r m1 => bindO (keep m1 r) fun p => g p.2 (fun r' m2 => bindO (keep m2 r') fun p' => bindO (lstOf p.1) fun ds => bindO (lstOf p'.1) fun es => Q (zipD ds es) (fun _ => True) p'.2) Qx) Qx
theorem lst_fix {K : PySem.W.Frag} {w : Wd} {v : V} {d : D} {ds : List D} (r : Rep K w.γ w.G v d) (h : lstOf d = some ds) : ∃ a xs, v = .ref a ∧ SqL K w.G a xs ∧ RepL K w.γ w.G xs ds := by
  cases d <;> simp [lstOf] at h <;> subst h
  · cases r with
    | lst h1 r1 => exact ⟨_, _, rfl, .inl (.inl h1), r1⟩
  · cases r with
    | kl h1 r1 => exact ⟨_, _, rfl, h1, r1⟩
theorem vi_zip {elts : List Expr} {kk : Nat} {p tpos : Pos} (hg : Gl X "zip") (hm : X.mg "zip" = none) (ha : VE X W a fa) (hb : VE X W b fb) (hs : starEach [a, b] X.env = (false, eval a X.env) :: starEach [b] X.env := by rfl) (hs2 : starEach [b] X.env = [(false, eval b X.env)] := by rfl) (hpl : (backTo pos (starEach [b] X.env)).any (·.1) = false := by rfl) :
    VI X W (.Tuple elts kk tpos) (.Call (.Name "zip" p) [a, b] [] pos) (iZipD fa fb) := by
  obtain ⟨ta, pa, sa⟩ := ha.ex
  obtain ⟨tb, pb, sb⟩ := hb.ex
  refine ⟨⟨_, pi_zip hg hm (pa_cons pa (pa_cons pb pa_nil hs2) hs) hs hpl, fun w m Q Qx R s h k kx => ?_⟩⟩
  refine sa w m _ _ _ s h (fun r m1 w1 v e1 a1 r1 q => ?_) kx
  obtain ⟨⟨d, m2⟩, hk, q⟩ := bindO_elim q
  obtain ⟨w2, e2, eH, a2, r2⟩ := keep_ok a1 r1 hk
  rw [← eH, ← e1, ← e2]
  have e21 := e2.trans e1
  refine sb w2 m2 _ _ _ a2.ok q (fun r' m3 w3 u e3 a3 r3 q => ?_) (kx.aft a2 e21)
  obtain ⟨⟨d', m4⟩, hk', q⟩ := bindO_elim q
  obtain ⟨w4, e4, eH4, a4, r4⟩ := keep_ok a3 r3 hk'
  obtain ⟨ds, hd, q⟩ := bindO_elim q
  obtain ⟨es, he, q⟩ := bindO_elim q
  obtain ⟨p1, xs, rfl, h1, rx⟩ := lst_fix (r2.mono a4.st.gp a4.st.gg) hd
  obtain ⟨p2, ys, rfl, h2, ry⟩ := lst_fix r4 he
  refine ⟨p1, p2, xs, ys, rfl, by rw [← eH4]; exact sqL_ext a4.ok.sub h1, by rw [← eH4]; exact sqL_ext a4.ok.sub h2, ?_⟩
  rw [← eH4]
  have st1 : ∀ w' m', Aft X.K w4 m4 w' m' → SqL X.K w'.H p1 xs ∧ SqL X.K w'.H p2 ys := fun w' m' a' => ⟨sqL_ext (a'.st.gg.trans a'.ok.sub) h1, sqL_ext (a'.st.gg.trans a'.ok.sub) h2⟩
  refine k _ _ m4 w4 _ (e4.trans (e3.trans e21)) (a2.trans a4) ⟨fun w' m' a' l => ?_, fun i w' m' a' l hi => ?_, fun i w' m' d x H' a' l hd y => ?_⟩ q
  · obtain ⟨z1, z2⟩ := st1 w' m' a'
    refine ⟨xs, ys, z1, z2, ?_⟩
    rw [zipD, List.length_zipWith, rx.length, ry.length]
    omega
  · obtain ⟨z1, z2⟩ := st1 w' m' a'
    rw [zipD, List.length_zipWith] at hi
    obtain ⟨x, hx, _⟩ := rx.get (List.getElem?_eq_getElem (show i < ds.length by omega))
    obtain ⟨y, hy, _⟩ := ry.get (List.getElem?_eq_getElem (show i < es.length by omega))
    exact ⟨xs, ys, x, y, z1, z2, hx, hy⟩
  · obtain ⟨z1, z2⟩ := st1 w' m' a'
    obtain ⟨T, x, y', rfl, hT, rfl, y1, y2⟩ := y
    rw [zipD, List.getElem?_zipWith] at hd
    cases f1 : ds[i]? with
    | none => rw [f1] at hd; simp at hd
    | some d1 =>
      cases f2 : es[i]? with
      | none => rw [f1, f2] at hd; simp at hd
      | some d2 =>
        rw [f1, f2] at hd
        simp at hd
        subst hd
        obtain ⟨x', hx, rx'⟩ := rx.get f1
        obtain ⟨y'', hy, ry'⟩ := ry.get f2
        have z := y1 xs z1
        rw [hx] at z
        cases z
        have z := y2 ys z2
        rw [hy] at z
        cases z
        obtain ⟨s4, st4⟩ := a'.ok.lay (o := .tup [x, y']) hT
        exact ⟨w'.lay T (.tup [x, y']), rfl, rfl, ⟨s4, st4⟩, .tup upd_same (.cons ((rx'.mono a'.st.gp a'.st.gg).mono (Pre.refl _) st4.gg) (.cons ((ry'.mono a'.st.gp a'.st.gg).mono (Pre.refl _) st4.gg) .nil))⟩
def iRevD (f : FE) : FI := fun m Q Qx => f m (fun r m1 => bindO (keep m1 r) fun p => iLstOf p.2 p.1 fun ds lk m2 => Q ds.reverse lk m2) Qx
theorem vi_rev {tg : Expr} {p : Pos} (hg : Gl X "reversed") (hm : X.mg "reversed" = none) (ha : VE X W a fa) (hs : starEach [a] X.env = [(false, eval a X.env)] := by rfl) : VI X W tg (.Call (.Name "reversed" p) [a] [] pos) (iRevD fa) := by
  obtain ⟨ta, pa, sa⟩ := ha.ex
  refine ⟨⟨_, pi_reversed hg hm (pa_cons pa pa_nil hs) hs, fun w m Q Qx R s h k kx => ?_⟩⟩
  refine sa w m _ _ _ s h (fun r m1 w1 v e1 a1 r1 q => ?_) kx
  obtain ⟨⟨d, m2⟩, hk, q⟩ := bindO_elim q
  obtain ⟨w2, e2, eH, a2, r2⟩ := keep_ok a1 r1 hk
  obtain ⟨p, ds, lk, rfl, q2, l0, st⟩ := lst_stands a2.ok r2 q
  obtain ⟨xs0, h0, rr0⟩ := st w2 m2 (.refl a2.ok) l0
  refine ⟨p, xs0, rfl, by rw [← eH]; exact h0, ?_⟩
  rw [← eH]
  have hl0 := rr0.length
  refine k _ lk m2 w2 _ (e2.trans e1) a2 ⟨fun w' m' a' l => ?_, fun i w' m' a' l hi => ?_, fun i w' m' d x H' a' l hd y => ?_⟩ q2
  · show xs0.length ≤ _
    rw [List.length_reverse, hl0]; exact Nat.le_refl _
  · obtain ⟨xs, h1, r1⟩ := st w' m' a' l
    rw [List.length_reverse] at hi
    obtain ⟨x, hx, _⟩ := r1.get (List.getElem?_eq_getElem (show ds.length - 1 - i < ds.length by omega))
    exact ⟨by rw [hl0]; exact hi, xs, x, h1, by rw [hl0]; exact hx⟩
  · obtain ⟨xs, h1, r1⟩ := st w' m' a' l
    obtain ⟨rfl, y⟩ := y
    have hi := (List.getElem?_eq_some_iff.mp hd).1
    rw [List.length_reverse] at hi
    rw [List.getElem?_reverse hi] at hd
    obtain ⟨x', hx, rx⟩ := r1.get hd
    have z := y xs h1
    rw [hl0, hx] at z
    cases z
    exact ⟨w', rfl, rfl, .refl a'.ok, rx⟩
end
end VL

set_option maxHeartbeats 4000000
/-! The value layer: defs. -/
namespace VL
open PySem PySem.Spec PyProof.Rows L2
variable [Tabs]

/-- what a def does, by its arguments and the shared containers -/
abbrev FV := List D → List D → (Ret → List D → Prop) → (Xc → List D → Prop) → Prop
def w0 (G H : Hp) (γ : List Addr) : Wd := ⟨G, H, γ, []⟩
def m0 (gs : List D) : M := ⟨[], gs⟩
def spV (K : PySem.W.Frag) (n : Nat) (g : FV) : Sp := fun vs H Q E => ∃ (G : Hp) (γ : List Addr) (ds gs : List D) (Qr : Ret → List D → Prop) (Qe : Xc → List D → Prop),
  SOk K (w0 G H γ) (m0 gs) ∧ RepL K γ G vs ds ∧ ds.length = n ∧ g ds gs Qr Qe ∧
  (∀ {γ' : List Addr} r gs' G' H' v, Aft K (w0 G H γ) (m0 gs) (w0 G' H' γ') (m0 gs') → RetOk K H (w0 G' H' γ') (m0 gs') v r → Qr r gs' → Q v H') ∧
  (∀ {γ' : List Addr} xc gs' G' H' d, Aft K (w0 G H γ) (m0 gs) (w0 G' H' γ') (m0 gs') → XRep K (w0 G' H' γ') xc d → Qe xc gs' → E (.ref (Tabs.C xc.C)) d H')
theorem spV_len {K : PySem.W.Frag} {n : Nat} {g : FV} {vs : List V} {H : Hp} {Q : VK} {E : XK} (h : spV K n g vs H Q E) : vs.length = n := by
  obtain ⟨G, γ, ds, gs, Qr, Qe, _, r, l, _⟩ := h
  rw [r.length]; exact l
theorem spV_imp {K : PySem.W.Frag} {n : Nat} {g g' : FV} (hg : ∀ ds gs Q Qe, g' ds gs Q Qe → g ds gs Q Qe) {vs : List V} {H : Hp} {Q : VK} {E : XK} (h : spV K n g' vs H Q E) : spV K n g vs H Q E := by
  obtain ⟨G, γ, ds, gs, Qr, Qe, a, r, l, q, k⟩ := h
  exact ⟨G, γ, ds, gs, Qr, Qe, a, r, l, hg _ _ _ _ q, k⟩

section
variable {K : PySem.W.Frag}
/-- behind a call: the caller's state -/
theorem SOk.bare {w : Wd} {m : M} (s : SOk K w m) : SOk K (w0 w.G w.H w.γ) (m0 m.gs) :=
  ⟨s.sub, rfl, fun i d h => by simp [m0] at h, fun i d h => by simp [m0] at h, fun i j d e a h => by simp [m0] at h, s.gl, s.gh, s.gnd, s.tb⟩
theorem own_bare {G H : Hp} {γ : List Addr} {gs : List D} {a : Addr} : Own (w0 G H γ) (m0 gs) a ↔ a ∈ γ := by
  constructor
  · rintro (h | ⟨i, d, h, _⟩)
    · exact h
    · simp [m0] at h
  · exact .inl
theorem call_back {w : Wd} {m : M} {G' H' : Hp} {γ' : List Addr} {gs' : List D} (s : SOk K w m) (a : Aft K (w0 w.G w.H w.γ) (m0 m.gs) (w0 G' H' γ') (m0 gs')) : Aft K w m ⟨G', H', γ', w.σ⟩ ⟨m.env, gs'⟩ := by
  have gpp : Pre w.γ γ' := a.st.gp
  have newG : ∀ b, b ∈ γ' → b ∈ w.γ ∨ w.H b = none := fun b h => (a.st.on b (.inl h)).imp own_bare.mp id
  have keepO : ∀ b o, w.H b = some o → b ∉ w.γ → (∀ ps, o ≠ .tbl ps) → H' b = some o := fun b o h n t => a.st.fr b o h (fun z => n (own_bare.mp z)) t
  have keepG : ∀ b, w.G b = none → b ∉ w.γ → (∃ o, w.H b = some o ∧ ¬ Odd o) → G' b = none := fun b h n ⟨o, h2, h3⟩ => by
    rcases none_or (G' b) with e | ⟨u, e⟩
    · exact e
    · rcases a.st.gn b u e with z | z | z | ⟨u2, z, hu⟩
      · rw [show w.G b = some u from z] at h; cases h
      · exact absurd (own_bare.mp z) n
      · rw [show w.H b = none from z] at h2; cases h2
      · rw [show w.H b = some u2 from z] at h2; cases h2; exact absurd hu h3
  refine ⟨⟨a.ok.sub, s.len, fun i d h => ?_, fun i d h => ?_, s.inj, a.ok.gl, a.ok.gh, a.ok.gnd, a.ok.tb⟩, ⟨a.st.gg, fun b o h n t => ?_, fun b o h => ?_, fun b h => ?_, a.st.al, gpp⟩⟩
  · obtain ⟨v, h1, h2⟩ := s.val i d h
    exact ⟨v, h1, h2.mono gpp a.st.gg⟩
  · obtain ⟨b, o, h1, h2, h3, h4, h5⟩ := s.own i d h
    exact ⟨b, o, h1, keepG b h2 h3 ⟨o, h4, h5.odd⟩, (fun z => (newG b z).elim h3 fun e => (by rw [h4] at e; cases e)), keepO b o h4 h3 h5.nt, h5.mono gpp a.st.gg⟩
  · exact keepO b o h (fun z => n (.inl z)) t
  · rcases a.st.gn b o h with z | z | z
    · exact .inl z
    · exact .inr (.inl (.inl (own_bare.mp z)))
    · exact .inr (.inr z)
  · rcases h with h | h
    · exact (newG b h).imp .inl id
    · exact .inl (.inr h)
theorem ret_back {w : Wd} {m : M} {G' H' : Hp} {γ' : List Addr} {gs' : List D} {v : V} {r : Ret} (s : SOk K w m) (h : RetOk K w.H (w0 G' H' γ') (m0 gs') v r) : RetOk K w.H ⟨G', H', γ', w.σ⟩ ⟨m.env, gs'⟩ v r := by
  cases r with
  | fz d => exact h
  | tmp d =>
    obtain ⟨p, o, rfl, h1, h2, h3, h4, h5⟩ := h
    refine ⟨p, o, rfl, h1, h2, fun z => ?_, h4, h5⟩
    rcases z with z | ⟨i, e, z1, z2⟩
    · exact h3 (.inl z)
    · obtain ⟨a, o', e1, _, _, e4, _⟩ := s.own i e z1
      have z2 : w.σ[i]? = some (some (.ref p)) := z2
      rw [z2] at e1
      cases e1
      rw [h1] at e4; cases e4
  | sl i => 
    have h : ([] : L2.St)[i]? = some (some v) := h
    simp at h
end

section
variable {X : Cx} {W : WX} {es : List Expr} {ga : FA} {pos : Pos}
def fCall (n : Nat) (g : FV) (ga : FA) : FE := fun m Q Qx => ga m (fun ds m1 => ds.length = n ∧ g ds m1.gs (fun r gs' => Q r ⟨m1.env, gs'⟩) (fun xc gs' => Qx xc ⟨m1.env, gs'⟩)) Qx
theorem call_core {n : Nat} {g : FV} {w w1 : Wd} {m m1 : M} {vs : List V} {ds : List D} {Q : Ret → M → Prop} {Qx : PX} {Q' : VK} (e1 : w1.σ = w.σ) (a1 : Aft X.K w m w1 m1) (r1 : RepL X.K w1.γ w1.G vs ds)
    (q : ds.length = n ∧ g ds m1.gs (fun r gs' => Q r ⟨m1.env, gs'⟩) (fun xc gs' => Qx xc ⟨m1.env, gs'⟩))
    (k : ∀ r m' w' v, w'.σ = w.σ → Aft X.K w m w' m' → RetOk X.K w.H w' m' v r → Q r m' → Q' v w'.H) (kx : ExOk X.K W w m Qx) : spV X.K n g vs w1.H Q' (WE W w.σ) := by
  refine ⟨w1.G, w1.γ, ds, m1.gs, _, _, a1.ok.bare, r1, q.1, q.2, fun {γ'} r gs' G' H' v a2 r2 q2 => ?_, fun {γ'} xc gs' G' H' d a2 x2 q2 => ?_⟩
  · exact k r ⟨m1.env, gs'⟩ ⟨G', H', γ', w1.σ⟩ v e1 (a1.trans (call_back a1.ok a2)) ((ret_back a1.ok r2).from fun _ z => a1.st.back z) q2
  · have := kx xc ⟨m1.env, gs'⟩ ⟨G', H', γ', w1.σ⟩ d e1 (a1.trans (call_back a1.ok a2)) x2 q2
    show W _ d w.σ H'
    rw [← e1]
    exact this
theorem ve_call {k n : Nat} {f : Addr} {fd : FuncData} {ps : List Str} {g : FV} {x : Str} {p : Pos} {e : Expr} (F : FnOk X.prog X.w X.K X.mg X.base (L2.CX X.prog X.w) k f fd ps (spV X.K n g)) (hr : Room k X.A) (hg : Gl X x) (hm : X.mg x = some (.ref f)) (hk : PySem.W.keepIn X.K (.ref f) = true) (hb : Binds X.K fd ps [])
    (tk : Takes X W) (ha : VA X W (e :: es) ga) (hdb : (x == ("__debug__" : Str)) = false := by decide)
    (he : starEach (e :: es) X.env = (false, eval e X.env) :: starEach es X.env := by rfl) (hpl : (backTo pos (starEach es X.env)).any (·.1) = false := by rfl) :
    VE X W (.Call (.Name x p) (e :: es) [] pos) (fCall n g ga) := by
  obtain ⟨t, pt, st⟩ := ha.ex
  refine ⟨⟨_, pe_callS F hr hg hm hk hb (fun σ => passAt tk σ) pt hdb he hpl, fun w m Q Qx Q' s h k kx => ?_⟩⟩
  refine st w m _ _ _ s h (fun ds m1 w1 vs e1 a1 r1 q => ?_) kx
  exact call_core e1 a1 r1 q k kx
end

/-! ### pointers to shared containers that stay -/
mutual
def ghB (n : Nat) : D → Bool
  | .gh k => decide (k < n)
  | .tup ds => ghBL n ds
  | .lst ds => ghBL n ds
  | .kt ds => ghBL n ds
  | .kl ds => ghBL n ds
  | .dK es => ghBK n es
  | .dT es => ghBT n es
  | .non => true
  | .bl _ => true
  | .int _ => true
  | .str _ => true
  | .raw _ => true
  | .fn _ _ _ => true
  | .clo _ _ ds => ghBL n ds
  | .dM es => ghBM n es
  | .exc _ fs => ghBF n fs
  | .ins _ fs => ghBF n fs
def ghBL (n : Nat) : List D → Bool
  | [] => true
  | d :: ds => ghB n d && ghBL n ds
def ghBK (n : Nat) : List (Key × D) → Bool
  | [] => true
  | (_, d) :: ds => ghB n d && ghBK n ds
def ghBT (n : Nat) : List (List Key × D) → Bool
  | [] => true
  | (_, d) :: ds => ghB n d && ghBT n ds
def ghBM (n : Nat) : List (GK × D) → Bool
  | [] => true
  | (_, d) :: ds => ghB n d && ghBM n ds
def ghBF (n : Nat) : List (Str × D) → Bool
  | [] => true
  | (_, d) :: ds => ghB n d && ghBF n ds
end
theorem ghBM_map {n : Nat} : ∀ {es : List (GK × D)}, ghBM n es = true → ghBL n (es.map (·.2)) = true
  | [], _ => by simp [ghBL]
  | (k, d) :: es, h => by
    simp only [ghBM, Bool.and_eq_true] at h
    simp only [List.map_cons, ghBL, Bool.and_eq_true]
    exact ⟨h.1, ghBM_map h.2⟩
theorem ghBF_map {n : Nat} : ∀ {es : List (Str × D)}, ghBF n es = true → ghBL n (es.map (·.2)) = true
  | [], _ => by simp [ghBL]
  | (k, d) :: es, h => by
    simp only [ghBF, Bool.and_eq_true] at h
    simp only [List.map_cons, ghBL, Bool.and_eq_true]
    exact ⟨h.1, ghBF_map h.2⟩
mutual
theorem ghB_gk (n : Nat) : ∀ k : GK, ghB n (gkD k) = true
  | .i _ => by simp [gkD, ghB]
  | .s _ => by simp [gkD, ghB]
  | .t ks => by simp only [gkD, ghB]; exact ghBL_gk n ks
theorem ghBL_gk (n : Nat) : ∀ ks : List GK, ghBL n (gkDL ks) = true
  | [] => by simp [gkDL, ghBL]
  | k :: ks => by simp only [gkDL, ghBL, Bool.and_eq_true]; exact ⟨ghB_gk n k, ghBL_gk n ks⟩
end
theorem ghBL_gkm (n : Nat) : ∀ es : List (GK × D), ghBL n (es.map fun e => gkD e.1) = true
  | [] => by simp [ghBL]
  | e :: es => by simp only [List.map_cons, ghBL, Bool.and_eq_true]; exact ⟨ghB_gk n e.1, ghBL_gkm n es⟩
theorem ghBK_map {n : Nat} : ∀ {es : List (Key × D)}, ghBK n es = true → ghBL n (es.map (·.2)) = true
  | [], _ => by simp [ghBL]
  | (k, d) :: es, h => by
    simp only [ghBK, Bool.and_eq_true] at h
    simp only [List.map_cons, ghBL, Bool.and_eq_true]
    exact ⟨h.1, ghBK_map h.2⟩
theorem ghBT_map {n : Nat} : ∀ {es : List (List Key × D)}, ghBT n es = true → ghBL n (es.map (·.2)) = true
  | [], _ => by simp [ghBL]
  | (k, d) :: es, h => by
    simp only [ghBT, Bool.and_eq_true] at h
    simp only [List.map_cons, ghBL, Bool.and_eq_true]
    exact ⟨h.1, ghBT_map h.2⟩
section
variable {K : PySem.W.Frag} {γ more : List Addr} {G : Hp}
mutual
theorem Rep.cutG : ∀ {v : V} {d : D}, Rep K (γ ++ more) G v d → ghB γ.length d = true → Rep K γ G v d
  | _, _, .non, _ => .non
  | _, _, .bl b, _ => .bl b
  | _, _, .int i, _ => .int i
  | _, _, .str x, _ => .str x
  | _, _, .raw v, _ => .raw v
  | _, _, .gh h, z => by
    simp only [ghB, decide_eq_true_eq] at z
    rw [List.getElem?_append_left z] at h
    exact .gh h
  | _, _, .tup h r, z => .tup h (RepL.cutG r (by simpa only [ghB] using z))
  | _, _, .lst h r, z => .lst h (RepL.cutG r (by simpa only [ghB] using z))
  | _, _, .kt h r, z => .kt h (RepL.cutG r (by simpa only [ghB] using z))
  | _, _, .kl h r, z => .kl h (RepL.cutG r (by simpa only [ghB] using z))
  | _, _, .fn h1 h2 h3, _ => .fn h1 h2 h3
  | _, _, .clo h1 h2 h3 h4 r, z => .clo h1 h2 h3 h4 (RepL.cutG r (by simpa only [ghB] using z))
  | _, _, .dK h k r, z => .dK h k (RepL.cutG r (ghBK_map (by simpa only [ghB] using z)))
  | _, _, .dT h k r, z => .dT h k (RepL.cutG r (ghBT_map (by simpa only [ghB] using z)))
  | _, _, .dM h k n r1 r2, z => .dM h k n (RepL.cutG r1 (ghBL_gkm _ _)) (RepL.cutG r2 (ghBM_map (by simpa only [ghB] using z)))
  | _, _, .exc0 h, _ => .exc0 h
  | _, _, .exc1 h h2 k r, z => .exc1 h h2 k (RepL.cutG r (ghBF_map (by simpa only [ghB] using z)))
  | _, _, .ins h k r, z => .ins h k (RepL.cutG r (ghBF_map (by simpa only [ghB] using z)))
theorem RepL.cutG : ∀ {vs : List V} {ds : List D}, RepL K (γ ++ more) G vs ds → ghBL γ.length ds = true → RepL K γ G vs ds
  | _, _, .nil, _ => .nil
  | _, _, .cons h r, z => by
    simp only [ghBL, Bool.and_eq_true] at z
    exact .cons (Rep.cutG h z.1) (RepL.cutG r z.2)
end
theorem ORep.cutG {o : HO} {d : D} (r : ORep K (γ ++ more) G o d) (z : ghB γ.length d = true) : ORep K γ G o d := by
  cases r with
  | lst r => exact .lst (r.cutG (by simpa only [ghB] using z))
  | dK k r => exact .dK k (r.cutG (ghBK_map (by simpa only [ghB] using z)))
  | dT k r => exact .dT k (r.cutG (ghBT_map (by simpa only [ghB] using z)))
  | dM k n r1 r2 => exact .dM k n (r1.cutG (ghBL_gkm _ _)) (r2.cutG (ghBM_map (by simpa only [ghB] using z)))
  | ins k r => exact .ins k (r.cutG (ghBF_map (by simpa only [ghB] using z)))
end
def finG (m : M) (n j : Nat) : Option Ret := if j < n then some (.fz (.gh j)) else match m.gs[j]? with
  | some d => some (.tmp d)
  | none => none
/-- what leaves the def -/
def finR (m : M) (n : Nat) : Ret → Option Ret
  | .fz (.gh j) => finG m n j
  | .fz d => some (.fz d)
  | .tmp d => some (.tmp d)
  | .sl i => match m.env[i]? with
    | some (.own d) => some (.tmp d)
    | some (.val (.gh j)) => finG m n j
    | some (.val d) => some (.fz d)
    | _ => none
def ghR (n : Nat) : Ret → Bool
  | .fz d => ghB n d
  | .tmp d => ghB n d
  | .sl _ => false
def Clean (n : Nat) (m : M) (r : Ret) : Prop := m.gs.length = n ∨ ((m.gs.take n).all (ghB n) = true ∧ ghR n r = true)
def padM (N : Nat) (ds gs : List D) : M := ⟨ds.map .val ++ List.replicate (N - ds.length) .no, gs⟩
/-- the def by its body -/
def endsB (gs : List D) (Q : Ret → List D → Prop) (Qx : Xc → List D → Prop) : EndsV := ⟨fun m => Clean gs.length m (.fz .non) ∧ Q (.fz .non) (m.gs.take gs.length), fun r m => bindO (finR m gs.length r) fun r' => Clean gs.length m r' ∧ Q r' (m.gs.take gs.length), fun _ => False, fun _ => False,
  fun xc m => Clean gs.length m (.fz (.tup (xc.fs.map (·.2)))) ∧ Qx xc (m.gs.take gs.length)⟩
def bodyV (N : Nat) (fb : FS) : FV := fun ds gs Q Qx => fb (endsB gs Q Qx) (padM N ds gs)
section
variable {K : PySem.W.Frag} {G H : Hp} {γ : List Addr} {ds gs : List D} {vs : List V} {N : List Str}
theorem padM_ok (s : SOk K (w0 G H γ) (m0 gs)) (r : RepL K γ G vs ds) : SOk K ⟨G, H, γ, L2.start N vs⟩ (padM N.length ds gs) := by
  have hl := r.length
  have noown : ∀ (i : Nat) d, (padM N.length ds gs).env[i]? ≠ some (.own d) := fun i d h => by
    unfold padM at h
    rcases List.mem_append.mp (List.mem_of_getElem? h) with z | z
    · obtain ⟨e, _, z⟩ := List.mem_map.mp z; cases z
    · have := (List.mem_replicate.mp z).2; cases this
  refine ⟨s.sub, by simp [padM, L2.start, hl], fun i d h => ?_, fun i d h => absurd h (noown i d), fun i j d e a h => absurd h (noown i d), s.gl, s.gh, s.gnd, s.tb⟩
  unfold padM at h
  by_cases hi : i < ds.length
  · have h : (ds.map Sl.val ++ List.replicate (N.length - ds.length) Sl.no)[i]? = some (.val d) := h
    rw [List.getElem?_append_left (by simpa using hi), List.getElem?_map] at h
    cases e : ds[i]? with
    | none => rw [e] at h; cases h
    | some d' =>
      rw [e] at h
      cases h
      obtain ⟨v, h1, h2⟩ := r.get e
      refine ⟨v, ?_, h2⟩
      show (vs.map some ++ _)[i]? = _
      rw [List.getElem?_append_left (by simp [hl]; exact hi), List.getElem?_map, h1]
      rfl
  · have h : (ds.map Sl.val ++ List.replicate (N.length - ds.length) Sl.no)[i]? = some (.val d) := h
    rw [List.getElem?_append_right (by simp; omega), List.getElem?_replicate] at h
    split at h <;> cases h
theorem start_own {a : Addr} : Own ⟨G, H, γ, L2.start N vs⟩ (padM N.length ds gs) a ↔ a ∈ γ := by
  constructor
  · rintro (h | ⟨i, d, h, _⟩)
    · exact h
    · unfold padM at h
      rcases List.mem_append.mp (List.mem_of_getElem? h) with z | z
      · obtain ⟨e, _, z⟩ := List.mem_map.mp z; cases z
      · have := (List.mem_replicate.mp z).2; cases this
  · exact .inl
theorem pre_cut {γ' : List Addr} {k : Nat} {a : Addr} (p : Pre γ γ') (h : γ[k]? = some a) : γ'[k]? = some a := p.get h
/-- at the end of the body -/
theorem body_end {w' : Wd} {m' : M} {r : Ret} (hgs : gs.length = γ.length) (a : Aft K ⟨G, H, γ, L2.start N vs⟩ (padM N.length ds gs) w' m') (c : Clean gs.length m' r) : Aft K (w0 G H γ) (m0 gs) (w0 w'.G w'.H γ) (m0 (m'.gs.take gs.length)) := by
  obtain ⟨more, eγ⟩ := a.st.gp
  have eγ : w'.γ = γ ++ more := eγ
  have hlen := a.ok.gl
  rw [eγ, List.length_append] at hlen
  refine ⟨⟨a.ok.sub, rfl, fun i d h => by simp [m0] at h, fun i d h => by simp [m0] at h, fun i j d e b h => by simp [m0] at h, ?_, fun k b d h1 h2 => ?_, ?_, a.ok.tb⟩, ⟨a.st.gg, fun b o h n t => ?_, fun b o h => ?_, fun b h => .inl h, a.st.al, Pre.refl _⟩⟩
  · show (m'.gs.take gs.length).length = γ.length
    rw [List.length_take]; omega
  · have h1 : γ[k]? = some b := h1
    have h2 : (m'.gs.take gs.length)[k]? = some d := h2
    have hk : k < gs.length := by have := (List.getElem?_eq_some_iff.mp h1).1; omega
    rw [List.getElem?_take_of_lt hk] at h2
    obtain ⟨h3, o, h4, h5⟩ := a.ok.gh k b d (a.st.gp.get h1) h2
    refine ⟨h3, o, h4, ?_⟩
    show ORep K γ w'.G o d
    rcases c with c | ⟨c, _⟩
    · have : more = [] := List.length_eq_zero_iff.mp (by omega)
      rw [eγ, this, List.append_nil] at h5
      exact h5
    · rw [eγ] at h5
      refine h5.cutG ?_
      rw [← hgs]
      exact List.all_eq_true.mp c d (List.mem_of_getElem? (by rw [List.getElem?_take_of_lt hk]; exact h2))
  · have := a.ok.gnd
    rw [eγ] at this
    exact (List.nodup_append.mp this).1
  · exact a.st.fr b o h (fun z => n (own_bare.mpr (start_own.mp z))) t
  · rcases a.st.gn b o h with z | z | z
    · exact .inl z
    · exact .inr (.inl (own_bare.mpr (start_own.mp z)))
    · exact .inr (.inr z)
theorem fresh_own {w' : Wd} {m' : M} {p : Addr} (a : Aft K ⟨G, H, γ, L2.start N vs⟩ (padM N.length ds gs) w' m') (h : Own w' m' p) (n : p ∉ γ) : H p = none := by
  rcases a.st.on p h with z | z
  · exact absurd (start_own.mp z) n
  · exact z
theorem body_ret {w' : Wd} {m' : M} {v : V} {r r' : Ret} (hgs : gs.length = γ.length) (a : Aft K ⟨G, H, γ, L2.start N vs⟩ (padM N.length ds gs) w' m') (h : RetOk K H w' m' v r) (e : finR m' gs.length r = some r') (c : Clean gs.length m' r') :
    RetOk K H (w0 w'.G w'.H γ) (m0 (m'.gs.take gs.length)) v r' := by
  obtain ⟨more, eγ⟩ := a.st.gp
  have eγ : w'.γ = γ ++ more := eγ
  have hlen := a.ok.gl
  rw [eγ, List.length_append] at hlen
  have cutR : ∀ {v : V} {d : D}, Rep K w'.γ w'.G v d → r' = .fz d → Rep K γ w'.G v d := fun {v d} q e' => by
    subst e'
    rcases c with c | ⟨_, c⟩
    · have : more = [] := List.length_eq_zero_iff.mp (by omega)
      rw [eγ, this, List.append_nil] at q
      exact q
    · rw [eγ] at q
      exact q.cutG (by rw [← hgs]; exact c)
  have cutO : ∀ {o : HO} {d : D}, ORep K w'.γ w'.G o d → r' = .tmp d → ORep K γ w'.G o d := fun {o d} q e' => by
    subst e'
    rcases c with c | ⟨_, c⟩
    · have : more = [] := List.length_eq_zero_iff.mp (by omega)
      rw [eγ, this, List.append_nil] at q
      exact q
    · rw [eγ] at q
      exact q.cutG (by rw [← hgs]; exact c)
  have ghcase : ∀ j, Rep K w'.γ w'.G v (.gh j) → finG m' gs.length j = some r' → RetOk K H (w0 w'.G w'.H γ) (m0 (m'.gs.take gs.length)) v r' := by
    intro j q e
    unfold finG at e
    split at e
    · cases e; exact cutR q rfl
    · rename_i hj
      split at e
      · rename_i d hd
        cases e
        cases q with
        | gh hq =>
          obtain ⟨b, o, h1, h2, h3, h4⟩ := a.ok.ghAt hd
          rw [hq] at h1
          cases h1
          have nb : _ ∉ γ := fun z => by
            obtain ⟨i, hi⟩ := List.mem_iff_getElem?.mp z
            have h6 := a.st.gp.get hi
            have hil := (List.getElem?_eq_some_iff.mp hi).1
            obtain ⟨l1, e1⟩ := List.getElem?_eq_some_iff.mp h6
            obtain ⟨l2, e2⟩ := List.getElem?_eq_some_iff.mp hq
            have := (List.getElem_inj a.ok.gnd).mp (e1.trans e2.symm)
            omega
          exact ⟨_, o, rfl, fresh_own a (.inl (List.mem_of_getElem? hq)) nb, h2, fun z => nb (own_bare.mp z), h3, cutO h4 rfl⟩
      · cases e
  have slcase : ∀ (d : D), finR m' gs.length (.fz d) = some r' → Rep K w'.γ w'.G v d → RetOk K H (w0 w'.G w'.H γ) (m0 (m'.gs.take gs.length)) v r' := by
    intro d e q
    cases d with
    | gh j => exact ghcase j q e
    | _ => cases e; exact cutR q rfl
  cases r with
  | fz d => exact slcase d e h
  | tmp d =>
    cases e
    obtain ⟨p, o, rfl, h1, h2, h3, h4, h5⟩ := h
    exact ⟨p, o, rfl, h1, h2, fun z => h3 (.inl (by rw [eγ]; exact List.mem_append_left _ (own_bare.mp z))), h4, cutO h5 rfl⟩
  | sl i =>
    have h : w'.σ[i]? = some (some v) := h
    dsimp only [finR] at e
    cases hs : m'.env[i]? with
    | none => rw [hs] at e; cases e
    | some s =>
      rw [hs] at e
      cases s with
      | no => cases e
      | own d =>
        cases e
        obtain ⟨b, o, h1, h2, h3, h4, h5⟩ := a.ok.own i d hs
        rw [h] at h1
        cases h1
        have nb : _ ∉ γ := fun z => h3 (by rw [eγ]; exact List.mem_append_left _ z)
        exact ⟨_, o, rfl, fresh_own a (.inr ⟨i, d, hs, h⟩) nb, h2, fun z => nb (own_bare.mp z), h4, cutO h5 rfl⟩
      | val d =>
        obtain ⟨v', h1, h2⟩ := a.ok.val i d hs
        rw [h] at h1
        cases h1
        cases d with
        | gh j => exact ghcase j h2 e
        | _ => cases e; exact cutR h2 rfl
theorem repl_map2 {γ' : List Addr} {G' : Hp} {vs : List V} {ds : List D} (r : RepL K γ' G' vs ds) : RepL K γ' G' vs ds := r
theorem body_exc {w' : Wd} {m' : M} {xc : Xc} {d : Option Addr} (hgs : gs.length = γ.length) (a : Aft K ⟨G, H, γ, L2.start N vs⟩ (padM N.length ds gs) w' m') (c : Clean gs.length m' (.fz (.tup (xc.fs.map (·.2))))) (h : XRep K w' xc d) : XRep K (w0 w'.G w'.H γ) xc d := by
  rcases h with h | ⟨dd, fv, h1, h2, h3, h4⟩
  · exact .inl h
  · refine .inr ⟨dd, fv, h1, h2, h3, ?_⟩
    obtain ⟨more, eγ⟩ := a.st.gp
    have eγ : w'.γ = γ ++ more := eγ
    have hlen := a.ok.gl
    rw [eγ, List.length_append] at hlen
    rw [eγ] at h4
    rcases c with c | ⟨_, c⟩
    · have : more = [] := List.length_eq_zero_iff.mp (by omega)
      rw [this, List.append_nil] at h4
      exact h4
    · refine h4.cutG ?_
      rw [← hgs]
      simpa only [ghR, ghB] using c
end
/-- THE RULE for a def -/
theorem fn_ok {P : Program} {w : World} {K : PySem.W.Frag} {mg : Str → Option Value} {base : Heap} {x qual : Str} {st : Stmt} {f : Addr} {fd : FuncData} {N ps : List Str} {k : Nat} {fb : FS} (F : L2.Fun K x qual st f fd) (S : FnScope N ps (defScope st))
    (hbody : ∀ (cdv : Value) (A : Around) (outer : List Env) (s : Shared) (H : Hp) (E : XK), Room k (A.deeper (envOfC qual (defScope st) s.heap.objs.size f cdv)) → VSs (cxOf (L2.CX P w) P w K mg base N qual (defScope st) f cdv A outer s H E) (fun cls d _ H => E cls d H) (defBody st) fb) :
    FnOk P w K mg base (L2.CX P w) (k + 1) f fd ps (spV K ps.length (bodyV N.length fb)) := by
  refine F.okX S (fun vs H Q E h => spV_len h) fun cdv A outer s H vs Q E hr h => ?_
  obtain ⟨t, pt, stp⟩ := (hbody cdv A outer s H E hr).ex
  refine ⟨t, pt, ?_⟩
  obtain ⟨G, γ, ds, gs, Qr, Qe, s0, r, hl, q, k1, k2⟩ := h
  have hgs : gs.length = γ.length := s0.gl
  refine stp ⟨G, H, γ, L2.start N vs⟩ (padM N.length ds gs) _ _ (padM_ok s0 r) q ⟨fun m' w' a' q' => ?_, fun r' m' w' v a' rr q' => ?_, fun _ _ _ q' => q'.elim, fun _ _ _ q' => q'.elim, fun xc m' w' d a' x' q' => ?_⟩
  · exact k1 (.fz .non) _ w'.G w'.H .non (body_end hgs a' q'.1) .non q'.2
  · obtain ⟨r2, e2, c2, q2⟩ := bindO_elim q'
    exact k1 r2 _ w'.G w'.H v (body_end hgs a' c2) (body_ret hgs a' rr e2 c2) q2
  · exact k2 xc _ w'.G w'.H d (body_end hgs a' q'.1) (body_exc hgs a' q'.1 x') q'.2
theorem fn_nice {P : Program} {w : World} {K : PySem.W.Frag} {mg : Str → Option Value} {base : Heap} {CX : CXT} {k n : Nat} {f : Addr} {fd : FuncData} {ps : List Str} {g g' : FV} (F : FnOk P w K mg base CX k f fd ps (spV K n g)) (hg : ∀ ds gs Q Qe, g' ds gs Q Qe → g ds gs Q Qe) : FnOk P w K mg base CX k f fd ps (spV K n g') :=
  F.imp fun vs H Q E h => spV_imp hg h
end VL

/-! The value layer: dicts. -/
namespace VL
open PySem PySem.Spec PyProof.Rows L2
variable [Tabs]

section
variable {κ : Type} [DecidableEq κ]
def dval (es : List (κ × D)) (k : κ) : Option D := (es.find? fun kv => decide (kv.1 = k)).map (·.2)
def dput (es : List (κ × D)) (k : κ) (v : D) : List (κ × D) :=
  if (es.any fun kv => decide (kv.1 = k)) = true then es.map (fun kv => if kv.1 = k then (kv.1, v) else kv) else es ++ [(k, v)]
variable {K : PySem.W.Frag} {γ : List Addr} {G : Hp}
theorem dval_ok : ∀ {kvs : List (κ × V)} {es : List (κ × D)}, kvs.map (·.1) = es.map (·.1) → RepL K γ G (kvs.map (·.2)) (es.map (·.2)) → ∀ k, (∀ d, dval es k = some d → ∃ v, valV kvs k = some v ∧ Rep K γ G v d) ∧ (dval es k = none → valV kvs k = none)
  | [], [], _, _, k => ⟨fun d h => by simp [dval] at h, fun _ => rfl⟩
  | [], _ :: _, h, _, _ => by simp at h
  | _ :: _, [], h, _, _ => by simp at h
  | (k1, v1) :: kvs, (k2, d2) :: es, h, r, k => by
    simp only [List.map_cons, List.cons.injEq] at h
    obtain ⟨rfl, h⟩ := h
    simp only [List.map_cons] at r
    cases r with
    | cons r1 r2 =>
      by_cases e : k1 = k
      · subst e
        refine ⟨fun d hd => ?_, fun hd => ?_⟩
        · simp [dval] at hd
          subst hd
          exact ⟨v1, by simp [valV], r1⟩
        · simp [dval] at hd
      · obtain ⟨a, b⟩ := dval_ok h r2 k
        have e1 : dval ((k1, d2) :: es) k = dval es k := by simp [dval, List.find?_cons, e]
        have e2 : valV ((k1, v1) :: kvs) k = valV kvs k := by simp [valV, List.find?_cons, e]
        rw [e1, e2]
        exact ⟨a, b⟩
theorem dany_ok : ∀ {kvs : List (κ × V)} {es : List (κ × D)}, kvs.map (·.1) = es.map (·.1) → ∀ k, (kvs.any fun kv => decide (kv.1 = k)) = es.any fun kv => decide (kv.1 = k)
  | [], [], _, k => rfl
  | [], _ :: _, h, _ => by simp at h
  | _ :: _, [], h, _ => by simp at h
  | (k1, v1) :: kvs, (k2, d2) :: es, h, k => by
    simp only [List.map_cons, List.cons.injEq] at h
    obtain ⟨rfl, h⟩ := h
    simp only [List.any_cons, dany_ok h k]
theorem drepl_ok {v : V} {d : D} (r : Rep K γ G v d) (k : κ) : ∀ {kvs : List (κ × V)} {es : List (κ × D)}, kvs.map (·.1) = es.map (·.1) → RepL K γ G (kvs.map (·.2)) (es.map (·.2)) →
    (kvs.map (fun kv => if kv.1 = k then (kv.1, v) else kv)).map (·.1) = (es.map (fun kv => if kv.1 = k then (kv.1, d) else kv)).map (·.1) ∧ RepL K γ G ((kvs.map (fun kv => if kv.1 = k then (kv.1, v) else kv)).map (·.2)) ((es.map (fun kv => if kv.1 = k then (kv.1, d) else kv)).map (·.2))
  | [], [], _, _ => ⟨rfl, .nil⟩
  | [], _ :: _, h, _ => by simp at h
  | _ :: _, [], h, _ => by simp at h
  | (k1, v1) :: kvs, (k2, d2) :: es, h, r' => by
    simp only [List.map_cons, List.cons.injEq] at h
    obtain ⟨rfl, h⟩ := h
    simp only [List.map_cons] at r'
    cases r' with
    | cons r1 r2 =>
      obtain ⟨a, b⟩ := drepl_ok r k h r2
      by_cases e : k1 = k
      · simp only [List.map_cons, e, if_pos]
        exact ⟨by rw [a], .cons r b⟩
      · simp only [List.map_cons, e, if_neg, if_false]
        exact ⟨by rw [a], .cons r1 b⟩
theorem dput_ok {v : V} {d : D} (r : Rep K γ G v d) (k : κ) {kvs : List (κ × V)} {es : List (κ × D)} (h : kvs.map (·.1) = es.map (·.1)) (r' : RepL K γ G (kvs.map (·.2)) (es.map (·.2))) :
    (putK kvs k v).map (·.1) = (dput es k d).map (·.1) ∧ RepL K γ G ((putK kvs k v).map (·.2)) ((dput es k d).map (·.2)) := by
  unfold putK dput
  rw [dany_ok h k]
  split
  · exact drepl_ok r k h r'
  · simp only [List.map_append, List.map_cons, List.map_nil]
    exact ⟨by rw [h], r'.append (.cons r .nil)⟩
end
def keyOf : D → Option Key
  | .int i => some (.inl i)
  | .str x => some (.inr x)
  | _ => none
def keysOf : List D → Option (List Key)
  | [] => some []
  | d :: ds => match keyOf d with
    | some k => match keysOf ds with | some ks => some (k :: ks) | none => none
    | none => none
def kD : Key → D
  | .inl i => .int i
  | .inr x => .str x
theorem keyOf_of {d : D} {k : Key} (h : keyOf d = some k) : d = kD k := by
  cases d <;> simp [keyOf] at h <;> subst h <;> rfl
theorem keysOf_of : ∀ {ds : List D} {ks : List Key}, keysOf ds = some ks → ds = ks.map kD
  | [], ks, h => by cases h; rfl
  | d :: ds, ks, h => by
    cases z : keyOf d with
    | none => simp [keysOf, z] at h
    | some k =>
      cases z2 : keysOf ds with
      | none => simp [keysOf, z, z2] at h
      | some r => simp [keysOf, z, z2] at h; subst h; rw [keyOf_of z, keysOf_of z2]; rfl
theorem rep_kD {K : PySem.W.Frag} {γ : List Addr} {G : Hp} {v : V} {k : Key} (r : Rep K γ G v (kD k)) : v = kV k := by
  cases k <;> cases r <;> rfl
theorem vw_kD {K : PySem.W.Frag} {w : Wd} {v : V} {k : Key} (r : Vw K w v (kD k)) : v = kV k := by
  cases k <;> cases r <;> rfl
theorem reps_kD {K : PySem.W.Frag} {γ : List Addr} {G : Hp} : ∀ {ks : List Key} {xs : List V}, RepL K γ G xs (ks.map kD) → xs = ks.map kV
  | [], _, .nil => rfl
  | k :: ks, _, .cons h t => by rw [rep_kD h, reps_kD t]; rfl
/-- what a dict has for a key: none where it is no key of its kind -/
def dGetD (d key : D) : Option (Option D) := match d with
  | .dK es => match keyOf key with | some k => some (dval es k) | none => none
  | .dT es => match key with
    | .tup ds => match keysOf ds with | some ks => some (dval es ks) | none => none
    | _ => none
  | _ => none
def dPutD (d key v : D) (k : D → Prop) : Prop := match d with
  | .dK es => bindO (keyOf key) fun x => es.length < sizeLine ∧ k (.dK (dput es x v))
  | .dT es => match key with
    | .tup ds => bindO (keysOf ds) fun x => es.length < sizeLine ∧ k (.dT (dput es x v))
    | _ => False
  | _ => False
theorem len_keys {κ : Type} {kvs : List (κ × V)} {es : List (κ × D)} (h : kvs.map (·.1) = es.map (·.1)) : kvs.length = es.length := by
  have := congrArg List.length h
  simpa using this
section
variable {K : PySem.W.Frag}
theorem dget_ok {w : Wd} {m : M} {v u : V} {d e : D} {o : Option D} (s : SOk K w m) (hv : Vw K w v d) (hu : Vw K w u e) (h : dGetD d e = some o) :
    ∃ a ov, v = .ref a ∧ DGet w.H a u ov ∧ (∀ x, o = some x → ∃ y, ov = some y ∧ Rep K w.γ w.G y x) ∧ (o = none → ov = none) := by
  unfold dGetD at h
  split at h
  · split at h
    · rename_i es k hk
      cases h
      obtain ⟨a, kvs, rfl, h1, h2, r⟩ := hv
      rw [keyOf_of hk] at hu
      rw [vw_kD hu]
      obtain ⟨z1, z2⟩ := dval_ok h2 r k
      exact ⟨a, _, rfl, DGet.k h1, z1, z2⟩
    · cases h
  · split at h
    · split at h
      · rename_i es _ ds ks hk
        cases h
        obtain ⟨a, kvs, rfl, h1, h2, r⟩ := hv
        obtain ⟨b, xs, rfl, h3, r3⟩ := hu
        rw [keysOf_of hk] at r3
        rw [reps_kD r3] at h3
        obtain ⟨z1, z2⟩ := dval_ok h2 r ks
        exact ⟨a, _, rfl, DGet.t h1 (s.sub _ _ h3), z1, z2⟩
      · cases h
    · cases h
  · cases h
theorem dput_at {w : Wd} {m : M} {a : Addr} {o : HO} {u v : V} {d e x : D} {k : D → Prop} (s : SOk K w m) (ho : w.H a = some o) (r : ORep K w.γ w.G o d) (hu : Vw K w u e) (rx : Rep K w.γ w.G v x) (h : dPutD d e x k) :
    ∃ o' d', DPut w.H a u v (upd w.H a o') ∧ ORep K w.γ w.G o' d' ∧ k d' := by
  unfold dPutD at h
  split at h
  · obtain ⟨y, hy, hl, h⟩ := bindO_elim h
    cases r with
    | dK h2 r =>
      rw [keyOf_of hy] at hu
      rw [vw_kD hu]
      obtain ⟨z1, z2⟩ := dput_ok rx y h2 r
      exact ⟨_, _, DPut.k ho (by rw [len_keys h2]; exact hl), .dK z1 z2, h⟩
  · split at h
    · obtain ⟨y, hy, hl, h⟩ := bindO_elim h
      cases r with
      | dT h2 r =>
        obtain ⟨b, xs, rfl, h3, r3⟩ := hu
        rw [keysOf_of hy] at r3
        rw [reps_kD r3] at h3
        obtain ⟨z1, z2⟩ := dput_ok rx y h2 r
        exact ⟨_, _, DPut.t ho (s.sub _ _ h3) (by rw [len_keys h2]; exact hl), .dT z1 z2, h⟩
    · exact h.elim
  · exact h.elim
end
section
variable {X : Cx} {W : WX} {a b c : Expr} {es : List Expr} {fa fb fc : FE} {ga : FA} {pos : Pos}
/-- d[k] -/
def fDGet (fa fb : FE) : FE := fun m Q Qx => fa m (fun ra m1 => fb m1 (fun rb m2 => bindO (view m2 ra) fun d => bindO (view m2 rb) fun e => bindO (dGetD d e) fun o => bindO o fun x => Q (.fz x) m2) Qx) Qx
theorem ve_dget (hu : X.A.units + 1 < cLine) (ha : VE X W a fa) (hb : VE X W b fb) (hs : NoSl b := by exact fun _ _ => rfl) : VE X W (.Subscript a b pos) (fDGet fa fb) := by
  obtain ⟨ta, pa, sa⟩ := ha.ex
  obtain ⟨tb, pb, sb⟩ := hb.ex
  refine ⟨⟨_, pe_dget hu pa pb hs, fun w m Q Qx Q' s h k kx => ?_⟩⟩
  refine sa w m _ Qx _ s h (fun ra m1 w1 x e1 a1 r1 q1 => ?_) kx
  rw [← e1]
  refine sb w1 m1 _ Qx _ a1.ok q1 (fun rb m2 w2 y e2 a2 r2 q2 => ?_) (kx.aft a1 e1)
  obtain ⟨d, hd, q2⟩ := bindO_elim q2
  obtain ⟨e, he, q2⟩ := bindO_elim q2
  obtain ⟨o, ho, q2⟩ := bindO_elim q2
  obtain ⟨z, hz, q2⟩ := bindO_elim q2
  obtain ⟨p, ov, rfl, g, y1, y2⟩ := dget_ok a2.ok (a2.ok.view (r1.step a2.st e2) hd) (a2.ok.view r2 he) ho
  obtain ⟨v, rfl, rv⟩ := y1 z hz
  exact ⟨p, v, rfl, g, k _ m2 w2 v (e2.trans e1) (a1.trans a2) (retFz rv) q2⟩
/-- k in d, k not in d -/
def fDIn (neg : Bool) (fb fa : FE) : FE := fun m Q Qx => fb m (fun rb m1 => fa m1 (fun ra m2 => bindO (view m2 ra) fun d => bindO (view m2 rb) fun e => bindO (dGetD d e) fun o => Q (.fz (.bl (if neg then !o.isSome else o.isSome))) m2) Qx) Qx
theorem din_core {neg : Bool} {ta tb : TE} {fa fb : FE}
    (sa : ∀ (w : Wd) (m : M) (Q : Ret → M → Prop) (Qx : PX) (Q' : VK), SOk X.K w m → fa m Q Qx → (∀ r m' w' v, w'.σ = w.σ → Aft X.K w m w' m' → RetOk X.K w.H w' m' v r → Q r m' → Q' v w'.H) → ExOk X.K W w m Qx → ta w.σ w.H Q')
    (sb : ∀ (w : Wd) (m : M) (Q : Ret → M → Prop) (Qx : PX) (Q' : VK), SOk X.K w m → fb m Q Qx → (∀ r m' w' v, w'.σ = w.σ → Aft X.K w m w' m' → RetOk X.K w.H w' m' v r → Q r m' → Q' v w'.H) → ExOk X.K W w m Qx → tb w.σ w.H Q')
    {w : Wd} {m : M} {Q : Ret → M → Prop} {Qx : PX} {Q' : VK} (s : SOk X.K w m) (h : fDIn neg fb fa m Q Qx) (k : ∀ r m' w' v, w'.σ = w.σ → Aft X.K w m w' m' → RetOk X.K w.H w' m' v r → Q r m' → Q' v w'.H) (kx : ExOk X.K W w m Qx) :
    (tb w.σ w.H fun y H1 => ta w.σ H1 fun x H2 => ∃ a o, x = .ref a ∧ DGet H2 a y o ∧ Q' (.bl (if neg then !o.isSome else o.isSome)) H2) := by
  refine sb w m _ Qx _ s h (fun rb m1 w1 y e1 a1 r1 q1 => ?_) kx
  rw [← e1]
  refine sa w1 m1 _ Qx _ a1.ok q1 (fun ra m2 w2 x e2 a2 r2 q2 => ?_) (kx.aft a1 e1)
  obtain ⟨d, hd, q2⟩ := bindO_elim q2
  obtain ⟨e, he, q2⟩ := bindO_elim q2
  obtain ⟨o, ho, q2⟩ := bindO_elim q2
  obtain ⟨p, ov, rfl, g, y1, y2⟩ := dget_ok a2.ok (a2.ok.view r2 hd) (a2.ok.view (r1.step a2.st e2) he) ho
  have e3 : ov.isSome = o.isSome := by
    cases o with
    | none => rw [y2 rfl]; rfl
    | some z => obtain ⟨v, hv, _⟩ := y1 z rfl; rw [hv]; rfl
  refine ⟨p, ov, rfl, g, ?_⟩
  rw [e3]
  exact k _ m2 w2 _ (e2.trans e1) (a1.trans a2) (retFz (.bl _)) q2
theorem ve_din (hu : X.A.units + 1 < cLine) (hb : VE X W b fb) (ha : VE X W a fa) (hm : behindInMarks .In a = false := by first | rfl | (cases a <;> rfl)) : VE X W (.Compare b [.In] [a] pos) (fDIn false fb fa) := by
  obtain ⟨ta, pa, sa⟩ := ha.ex
  obtain ⟨tb, pb, sb⟩ := hb.ex
  exact ⟨⟨_, pe_cmp (pc_din hu pb pa) hm, fun w m Q Qx Q' s h k kx => din_core (neg := false) sa sb s h k kx⟩⟩
theorem ve_dnotin (hu : X.A.units + 1 < cLine) (hb : VE X W b fb) (ha : VE X W a fa) (hm : behindInMarks .NotIn a = false := by first | rfl | (cases a <;> rfl)) : VE X W (.Compare b [.NotIn] [a] pos) (fDIn true fb fa) := by
  obtain ⟨ta, pa, sa⟩ := ha.ex
  obtain ⟨tb, pb, sb⟩ := hb.ex
  exact ⟨⟨_, pe_cmp (pc_dnotin hu pb pa) hm, fun w m Q Qx Q' s h k kx => din_core (neg := true) sa sb s h k kx⟩⟩
theorem vt_din (hu : X.A.units + 1 < cLine) (hb : VE X W b fb) (ha : VE X W a fa) (hm : behindInMarks .In a = false := by first | rfl | (cases a <;> rfl)) : VT X W (.Compare b [.In] [a] pos) (fTest (fDIn false fb fa)) := by
  obtain ⟨ta, pa, sa⟩ := ha.ex
  obtain ⟨tb, pb, sb⟩ := hb.ex
  refine ⟨⟨_, pt_cmp (pc_din hu pb pa) hm, fun w m Q Qx Q' s h k kx => ?_⟩⟩
  refine din_core (neg := false) (Q' := fun v H => ∃ c, v = .bl c ∧ Q' c H) sa sb s h (fun r m' w' v e a1 r1 q => ?_) kx
  obtain ⟨c, hc, q⟩ := bindO_elim q
  exact ⟨c, asB_ok r1 hc, k c m' w' e a1 q⟩
theorem vt_dnotin (hu : X.A.units + 1 < cLine) (hb : VE X W b fb) (ha : VE X W a fa) (hm : behindInMarks .NotIn a = false := by first | rfl | (cases a <;> rfl)) : VT X W (.Compare b [.NotIn] [a] pos) (fTest (fDIn true fb fa)) := by
  obtain ⟨ta, pa, sa⟩ := ha.ex
  obtain ⟨tb, pb, sb⟩ := hb.ex
  refine ⟨⟨_, pt_cmp (pc_dnotin hu pb pa) hm, fun w m Q Qx Q' s h k kx => ?_⟩⟩
  refine din_core (neg := true) (Q' := fun v H => ∃ c, v = .bl c ∧ Q' c H) sa sb s h (fun r m' w' v e a1 r1 q => ?_) kx
  obtain ⟨c, hc, q⟩ := bindO_elim q
  exact ⟨c, asB_ok r1 hc, k c m' w' e a1 q⟩
/-- d.get(k), d.get(k, x) -/
def isDict : D → Prop
  | .dK _ => True
  | .dT _ => True
  | _ => False
theorem isD_of {K : PySem.W.Frag} {w : Wd} {v : V} {d : D} (h : Vw K w v d) (e : isDict d) : ∃ a, v = .ref a ∧ IsD w.H a := by
  cases d <;> first | exact e.elim | skip
  · obtain ⟨a, kvs, rfl, h1, _⟩ := h; exact ⟨a, rfl, .inl ⟨_, .inl h1⟩⟩
  · obtain ⟨a, kvs, rfl, h1, _⟩ := h; exact ⟨a, rfl, .inr ⟨_, .inl h1⟩⟩
def fGet1 (fa fb : FE) : FE := fun m Q Qx => fa m (fun ra m1 => bindO (view m1 ra) fun d => isDict d ∧ fb m1 (fun rb m2 => bindO (view m2 ra) fun d => bindO (view m2 rb) fun e => bindO (dGetD d e) fun o => match o with
  | some x => Q (.fz x) m2
  | none => Q (.fz .non) m2) Qx) Qx
theorem ve_get1 {apos : Pos} (hu : X.A.units + 1 < cLine) (ha : VE X W a fa) (hb : VE X W b fb) (m1 : M1 X a "get" apos b pos := by exact ⟨rfl, rfl, rfl, rfl⟩) : VE X W (.Call (.Attribute a "get" apos) [b] [] pos) (fGet1 fa fb) := by
  obtain ⟨ta, pa, sa⟩ := ha.ex
  obtain ⟨tb, pb, sb⟩ := hb.ex
  refine ⟨⟨_, pe_dget1 hu pa pb m1, fun w m Q Qx Q' s h k kx => ?_⟩⟩
  refine sa w m _ Qx _ s h (fun ra m1 w1 x e1 a1 r1 q1 => ?_) kx
  obtain ⟨d, hd, hi, q1⟩ := bindO_elim q1
  obtain ⟨p, rfl, hp⟩ := isD_of (a1.ok.view r1 hd) hi
  refine ⟨p, rfl, hp, ?_⟩
  rw [← e1]
  refine sb w1 m1 _ Qx _ a1.ok q1 (fun rb m2 w2 y e2 a2 r2 q2 => ?_) (kx.aft a1 e1)
  obtain ⟨d, hd, q2⟩ := bindO_elim q2
  obtain ⟨e, he, q2⟩ := bindO_elim q2
  obtain ⟨o, ho, q2⟩ := bindO_elim q2
  obtain ⟨p', ov, ep, g, y1, y2⟩ := dget_ok a2.ok (a2.ok.view (r1.step a2.st e2) hd) (a2.ok.view r2 he) ho
  cases ep
  refine ⟨ov, g, ?_⟩
  cases o with
  | none =>
    rw [y2 rfl]
    exact k _ m2 w2 _ (e2.trans e1) (a1.trans a2) (retFz .non) q2
  | some z =>
    obtain ⟨v, rfl, rv⟩ := y1 z rfl
    exact k _ m2 w2 _ (e2.trans e1) (a1.trans a2) (retFz rv) q2
def fGet2 (fa fb fc : FE) : FE := fun m Q Qx => fa m (fun ra m1 => bindO (view m1 ra) fun d => isDict d ∧ fb m1 (fun rb m2 => fc m2 (fun rc m3 => bindO (view m3 ra) fun d => bindO (view m3 rb) fun e => bindO (dGetD d e) fun o => match o with
  | some x => Q (.fz x) m3
  | none => Q rc m3) Qx) Qx) Qx
theorem ve_get2 {apos : Pos} (hu : X.A.units + 1 < cLine) (ha : VE X W a fa) (hb : VE X W b fb) (hc : VE X W c fc) (m1 : M2 X a "get" apos b c pos := by exact ⟨rfl, rfl, rfl, rfl⟩) : VE X W (.Call (.Attribute a "get" apos) [b, c] [] pos) (fGet2 fa fb fc) := by
  obtain ⟨ta, pa, sa⟩ := ha.ex
  obtain ⟨tb, pb, sb⟩ := hb.ex
  obtain ⟨tc, pc, sc⟩ := hc.ex
  refine ⟨⟨_, pe_dget2 hu pa pb pc m1, fun w m Q Qx Q' s h k kx => ?_⟩⟩
  refine sa w m _ Qx _ s h (fun ra m1 w1 x e1 a1 r1 q1 => ?_) kx
  obtain ⟨d, hd, hi, q1⟩ := bindO_elim q1
  obtain ⟨p, rfl, hp⟩ := isD_of (a1.ok.view r1 hd) hi
  refine ⟨p, rfl, hp, ?_⟩
  rw [← e1]
  refine sb w1 m1 _ Qx _ a1.ok q1 (fun rb m2 w2 y e2 a2 r2 q2 => ?_) (kx.aft a1 e1)
  rw [← e2]
  have a12 := a1.trans a2
  have e21 := e2.trans e1
  refine sc w2 m2 _ Qx _ a2.ok q2 (fun rc m3 w3 u e3 a3 r3 q3 => ?_) (kx.aft a12 e21)
  obtain ⟨d, hd, q3⟩ := bindO_elim q3
  obtain ⟨e, he, q3⟩ := bindO_elim q3
  obtain ⟨o, ho, q3⟩ := bindO_elim q3
  obtain ⟨p', ov, ep, g, y1, y2⟩ := dget_ok a3.ok (a3.ok.view ((r1.step a2.st e2).step a3.st e3) hd) (a3.ok.view (r2.step a3.st e3) he) ho
  cases ep
  refine ⟨ov, g, ?_⟩
  cases o with
  | none =>
    rw [y2 rfl]
    exact k _ m3 w3 _ (e3.trans e21) (a12.trans a3) (r3.from fun _ z => a12.st.back z) q3
  | some z =>
    obtain ⟨v, rfl, rv⟩ := y1 z rfl
    exact k _ m3 w3 _ (e3.trans e21) (a12.trans a3) (retFz rv) q3
/-- {} -/
def fDNewK : FE := fun m Q _ => Q (.tmp (.dK [])) m
def fDNewT : FE := fun m Q _ => Q (.tmp (.dT [])) m
theorem ve_dnewK : VE X W (.Dict [] [] pos) fDNewK := by
  refine ⟨⟨_, pe_dnewK, fun w m Q Qx Q' s h k kx => fun p hp => ?_⟩⟩
  obtain ⟨s2, st2⟩ := s.put (o := .dK []) hp
  exact k _ m (w.put p (.dK [])) _ rfl ⟨s2, st2⟩ (s.putRet hp (.dK rfl .nil)) h
theorem ve_dnewT : VE X W (.Dict [] [] pos) fDNewT := by
  refine ⟨⟨_, pe_dnewT, fun w m Q Qx Q' s h k kx => fun p hp => ?_⟩⟩
  obtain ⟨s2, st2⟩ := s.put (o := .dT []) hp
  exact k _ m (w.put p (.dT [])) _ rfl ⟨s2, st2⟩ (s.putRet hp (.dT rfl .nil)) h
/-- {k: v, ..} -/
abbrev FP := M → (List (Key × D) → M → Prop) → PX → Prop
structure VP (X : Cx) (W : WX) (pos : Pos) (ks : List (Option Expr)) (vs : List Expr) (f : FP) : Prop where
  ex : ∃ t, PPs X pos ks vs t ∧ ∀ (w : Wd) (m : M) (Q : List (Key × D) → M → Prop) (Qx : PX) (Q' : List (V × V) → Hp → Prop), SOk X.K w m → f m Q Qx →
    (∀ (es : List (Key × D)) (m' : M) (w' : Wd) (kvs : List (Key × V)), w'.σ = w.σ → Aft X.K w m w' m' → kvs.map (·.1) = es.map (·.1) → RepL X.K w'.γ w'.G (kvs.map (·.2)) (es.map (·.2)) → Q es m' → Q' (kvs.map fun kv => (kV kv.1, kv.2)) w'.H) → ExOk X.K W w m Qx → tPairs t w.σ w.H Q'
def pNil : FP := fun m Q _ => Q [] m
def pCons (fa fb : FE) (g : FP) : FP := fun m Q Qx => fa m (fun ra m1 => bindO (keep m1 ra) fun p1 => bindO (keyOf p1.1) fun k => fb p1.2 (fun rb m2 => bindO (keep m2 rb) fun p => g p.2 (fun es m3 => Q ((k, p.1) :: es) m3) Qx) Qx) Qx
theorem vp_nil : VP X W pos [] [] pNil := ⟨⟨_, pps_nil, fun w m Q Qx Q' s h k kx => k [] m w [] rfl (.refl s) rfl .nil h⟩⟩
theorem vp_cons {ks : List (Option Expr)} {vs : List Expr} {g : FP} (ha : VE X W a fa) (hb : VE X W b fb) (hr : VP X W pos ks vs g) : VP X W pos (some a :: ks) (b :: vs) (pCons fa fb g) := by
  obtain ⟨ta, pa, sa⟩ := ha.ex
  obtain ⟨tb, pb, sb⟩ := hb.ex
  obtain ⟨tr, pr, sr⟩ := hr.ex
  refine ⟨⟨_, pps_cons pa pb pr, fun w m Q Qx Q' s h k kx => ?_⟩⟩
  refine sa w m _ Qx _ s h (fun ra m1 w1 x e1 a1 r1 q => ?_) kx
  obtain ⟨⟨d, m2⟩, hk, q⟩ := bindO_elim q
  obtain ⟨w2, e2, eH, a2, r2⟩ := keep_ok a1 r1 hk
  obtain ⟨ky, hy, q⟩ := bindO_elim q
  have e21 := e2.trans e1
  have z : d = kD ky := keyOf_of hy
  subst z
  have z := rep_kD r2
  subst z
  rw [← eH, ← e21]
  refine sb w2 m2 _ Qx _ a2.ok q (fun rb m3 w3 y e3 a3 r3 q => ?_) (kx.aft a2 e21)
  obtain ⟨⟨d, m4⟩, hk, q⟩ := bindO_elim q
  obtain ⟨w4, e4, eH4, a4, r4⟩ := keep_ok a3 r3 hk
  have a24 := a2.trans a4
  have e41 := (e4.trans e3).trans e21
  rw [← eH4, ← (e4.trans e3)]
  refine sr w4 m4 _ Qx _ a4.ok q (fun es m5 w5 kvs e5 a5 h1 h2 q => ?_) (kx.aft a24 e41)
  refine k _ m5 w5 ((ky, y) :: kvs) (e5.trans e41) (a24.trans a5) ?_ ?_ q
  · simp only [List.map_cons, h1]
  · exact .cons (r4.mono a5.st.gp a5.st.gg) h2
def dmerge (es more : List (Key × D)) : List (Key × D) := more.foldl (fun acc kv => dput acc kv.1 kv.2) es
theorem dmerge_ok {K : PySem.W.Frag} {γ : List Addr} {G : Hp} : ∀ {more : List (Key × V)} {mes : List (Key × D)} {kvs : List (Key × V)} {es : List (Key × D)}, more.map (·.1) = mes.map (·.1) → RepL K γ G (more.map (·.2)) (mes.map (·.2)) → kvs.map (·.1) = es.map (·.1) → RepL K γ G (kvs.map (·.2)) (es.map (·.2)) →
    (mergeK kvs more).map (·.1) = (dmerge es mes).map (·.1) ∧ RepL K γ G ((mergeK kvs more).map (·.2)) ((dmerge es mes).map (·.2))
  | [], [], _, _, _, _, h, r => ⟨h, r⟩
  | [], _ :: _, _, _, h, _, _, _ => by simp at h
  | _ :: _, [], _, _, h, _, _, _ => by simp at h
  | (k1, v1) :: more, (k2, d2) :: mes, kvs, es, h1, r1, h, r => by
    simp only [List.map_cons, List.cons.injEq] at h1
    obtain ⟨rfl, h1⟩ := h1
    simp only [List.map_cons] at r1
    cases r1 with
    | cons ra rb =>
      obtain ⟨z1, z2⟩ := dput_ok ra k1 h r
      exact dmerge_ok (more := more) (mes := mes) (kvs := putK kvs k1 v1) (es := dput es k1 d2) h1 rb z1 z2
def fDisp (g : FP) : FE := fun m Q Qx => g m (fun es m1 => es.length ≤ 15 ∧ Q (.tmp (.dK (dmerge [] es))) m1) Qx
theorem ve_disp {ks : List (Option Expr)} {vs : List Expr} {g : FP} (hp : VP X W pos ks vs g) (hall : ks.all (·.isSome) = true := by rfl) (hl : ks.length = vs.length := by rfl) (h0 : ks ≠ [] := by exact fun z => by cases z) (h15 : ks.length ≤ 15 := by decide) : VE X W (.Dict ks vs pos) (fDisp g) := by
  obtain ⟨tb, pb, sb⟩ := hp.ex
  refine ⟨⟨_, pe_disp pb hall hl h0 h15, fun w m Q Qx Q' s h k kx => fun p hp => ?_⟩⟩
  obtain ⟨s2, st2⟩ := s.put (o := .dK []) hp
  have a0 : Aft X.K w m (w.put p (.dK [])) m := ⟨s2, st2⟩
  refine sb (w.put p (.dK [])) m _ Qx _ s2 h (fun es m1 w1 kvs e1 a1 h1 r1 q => ?_) (kx.aft a0 rfl)
  have hno : ¬ Own (w.put p (.dK [])) m p := fun z => s.notOwn hp z
  have hH : w1.H p = some (.dK []) := a1.st.fr p _ upd_same hno (fun ps z => by cases z)
  refine ⟨hH, kvs, rfl, by rw [len_keys h1]; exact q.1, ?_⟩
  obtain ⟨z1, z2⟩ := dmerge_ok (kvs := []) (es := []) h1 r1 rfl .nil
  -- the new dict, written at the end
  have hret : RetOk X.K w.H w1 m1 (.ref p) (.tmp (.dK [])) := (s.putRet hp (.dK rfl .nil)).step a1.st e1
  obtain ⟨p', o, ep, f1, f2, f3, f4, f5⟩ := hret
  cases ep
  have a01 := a0.trans a1
  have nep : ∀ b u, w1.G b = some u → b ≠ p := fun b u g z => by rw [z] at g; rw [f2] at g; cases g
  have a2 : Aft X.K w m (w1.put p (.dK (mergeK [] kvs))) m1 := by
    refine ⟨⟨fun b u g => (upd_ne (nep b u g)).trans (a1.ok.sub b u g), a1.ok.len, a1.ok.val, fun i d g => ?_, a1.ok.inj, a1.ok.gl, fun j b d g1 g2 => ?_, a1.ok.gnd, tabs_upd a1.ok.tb.1 f4 f5.odd, a1.ok.tb.2⟩, ⟨a01.st.gg, fun b u g n t => ?_, a01.st.gn, fun b g => ?_, fun b u g => ?_, a01.st.gp⟩⟩
    · obtain ⟨b, o, g1, g2, g3, g4, g5⟩ := a1.ok.own i d g
      have nb : b ≠ p := fun z => f3 (.inr ⟨i, d, g, by rw [← z]; exact g1⟩)
      exact ⟨b, o, g1, g2, g3, (upd_ne nb).trans g4, g5⟩
    · obtain ⟨g3, o, g4, g5⟩ := a1.ok.gh j b d g1 g2
      have nb : b ≠ p := fun z => f3 (.inl (by rw [← z]; exact List.mem_of_getElem? g1))
      exact ⟨g3, o, (upd_ne nb).trans g4, g5⟩
    · have nb : b ≠ p := fun z => by rw [z] at g; rw [show w.H p = some u from g] at hp; cases hp
      exact (upd_ne nb).trans (a01.st.fr b u g n t)
    · exact a01.st.on b g
    · by_cases nb : b = p
      · exact ⟨_, by rw [nb]; exact upd_same⟩
      · obtain ⟨u', g'⟩ := a01.st.al b u g
        exact ⟨u', (upd_ne nb).trans g'⟩
  exact k (.tmp (.dK (dmerge [] es))) m1 (w1.put p (.dK (mergeK [] kvs))) (.ref p) (e1.trans rfl) a2 ⟨p, _, rfl, f1, f2, fun z => f3 z, upd_same, .dK z1 z2⟩ q.2
/-- d[k] = e -/
def sDPutV (fe fo fk : FE) : FS := fun E m => fe m (fun re m1 => bindO (keep m1 re) fun p => fo p.2 (fun ro m3 => fk m3 (fun rk m4 => bindO (view m4 rk) fun kd => bindO (mget m4 ro) fun c => dPutD c kd p.1 fun c' => E.nx (mput m4 ro c')) E.ex) E.ex) E.ex
theorem vs_dput {o i e : Expr} {fo fi fe : FE} {p' : Pos} (hu : X.A.units + 1 < cLine) (he : VE X W e fe) (ho : VE X W o fo) (hi : VE X W i fi) (hs : swapsWith e (some (.Subscript o i p')) pos.line X.env = pure false := by rfl) :
    VS X W (.Assign [.Subscript o i p'] e pos) (sDPutV fe fo fi) := by
  obtain ⟨te, pe, se⟩ := he.ex
  obtain ⟨to, po, so⟩ := ho.ex
  obtain ⟨ti, pi, si⟩ := hi.ex
  refine ⟨⟨_, ps_dput hu po pi pe hs, fun w m E D s h k => ?_⟩⟩
  refine se w m _ _ _ s h (fun re m1 w1 v e1 a1 r1 q => ?_) k.exOk
  obtain ⟨⟨d, m2⟩, hk, q⟩ := bindO_elim q
  obtain ⟨w2, e2, eH, a2, r2⟩ := keep_ok a1 r1 hk
  have e21 := e2.trans e1
  rw [← eH, ← e21]
  refine so w2 m2 _ _ _ a2.ok q (fun ro m3 w3 x e3 a3 r3 q => ?_) (k.exOk.aft a2 e21)
  rw [← e3]
  have a23 := a2.trans a3
  have e31 := e3.trans e21
  refine si w3 m3 _ _ _ a3.ok q (fun ri m4 w4 y e4 a4 r4 q => ?_) (k.exOk.aft a23 e31)
  obtain ⟨kd, hkd, q⟩ := bindO_elim q
  obtain ⟨c, hc, q⟩ := bindO_elim q
  obtain ⟨p, o, rfl, h3, h4, h5⟩ := mut_ok a4.ok (r3.step a4.st e4) hc
  obtain ⟨o', c', g, ro', q⟩ := dput_at a4.ok h3 h4 (a4.ok.view r4 hkd) ((r2.mono a3.st.gp a3.st.gg).mono a4.st.gp a4.st.gg) q
  refine ⟨p, _, rfl, g, ?_⟩
  have := k.nx _ (w4.put p o') ((a23.trans a4).trans (h5 o' c' ro')) q
  rw [mput_σ, e4] at this
  exact this
/-- dict(a list of pairs) -/
def toPairs : List D → Option (List (Key × D))
  | [] => some []
  | .tup [a, b] :: ds => match keyOf a with
    | some k => match toPairs ds with | some r => some ((k, b) :: r) | none => none
    | none => none
  | _ :: _ => none
def gDict : G1 := fun d k => bindO (lstOf d) fun ds => bindO (toPairs ds) fun es => k (.tmp (.dK (dmerge [] es)))
theorem toPairs_ok {K : PySem.W.Frag} {γ : List Addr} {G H : Hp} (e : Ext G H) : ∀ {ds : List D} {xs : List V} {es : List (Key × D)}, RepL K γ G xs ds → toPairs ds = some es → ∃ (ps : List Addr) (kvs : List (Key × V)), xs = ps.map V.ref ∧ Paired (fun p kv => SqT K H p [kV kv.1, kv.2]) ps kvs ∧ kvs.map (·.1) = es.map (·.1) ∧ RepL K γ G (kvs.map (·.2)) (es.map (·.2))
  | [], _, _, .nil, h => by cases h; exact ⟨[], [], rfl, .nil, rfl, .nil⟩
  | d :: ds, _, es, .cons h1 r, h => by
    unfold toPairs at h
    split at h
    · rename_i heq; cases heq
    · rename_i a b ds' heq
      cases heq
      split at h
      · rename_i k hk
        split at h
        · rename_i r' hr
          cases h
          obtain ⟨ps, kvs, rfl, hp, h2, h3⟩ := toPairs_ok e r hr
          cases h1 with
          | tup ha ra =>
            cases ra with
            | cons ra1 ra2 =>
              cases ra2 with
              | cons rb rn =>
                cases rn
                rw [keyOf_of hk] at ra1
                have z := rep_kD ra1
                subst z
                refine ⟨_ :: ps, (k, _) :: kvs, rfl, .cons (.inl (.inl (e _ _ ha))) hp, by simp [h2], .cons rb h3⟩
        · cases h
      · cases h
    · cases h
theorem dictV {K : PySem.W.Frag} : UnV K (fun v H Q => (fun xs H Q => ∃ (a : Addr) (ps : List Addr) (kvs : List (Key × V)), xs = [V.ref a] ∧ SqL K H a (ps.map V.ref) ∧ Paired (fun p kv => SqT K H p [kV kv.1, kv.2]) ps kvs ∧
    ∀ p, H p = none → Q (.ref p) (upd H p (.dK (mergeK [] kvs))) : List V → Hp → VK → Prop) [v] H Q) gDict := by
  intro w m v d k Q' s hv h q
  obtain ⟨ds, he, h⟩ := bindO_elim h
  obtain ⟨es, hn, h⟩ := bindO_elim h
  obtain ⟨a, xs, rfl, h1, r1⟩ := lst_at s hv he
  obtain ⟨ps, kvs, rfl, hp, h2, h3⟩ := toPairs_ok s.sub r1 hn
  obtain ⟨z1, z2⟩ := dmerge_ok (kvs := []) (es := []) h2 h3 rfl .nil
  exact ⟨a, ps, kvs, rfl, h1, hp, fun p hp' => outTmp s q hp' (.dK z1 z2) h⟩
end
end VL

/-! The value layer: list comprehensions. -/
namespace VL
open PySem PySem.Spec PyProof.Rows L2
variable [Tabs]

/-! ### readings that hang on the value's reading alone -/
def canE (K : PySem.W.Frag) (W : WX) (f : FE) : TE := fun σ H Q' => ∃ (w : Wd) (m : M) (Q : Ret → M → Prop) (Qx : PX), w.σ = σ ∧ w.H = H ∧ SOk K w m ∧ f m Q Qx ∧
  (∀ r m' w' v, w'.σ = w.σ → Aft K w m w' m' → RetOk K w.H w' m' v r → Q r m' → Q' v w'.H) ∧ ExOk K W w m Qx
def canT (K : PySem.W.Frag) (W : WX) (f : FT) : TT := fun σ H Q' => ∃ (w : Wd) (m : M) (Q : Bool → M → Prop) (Qx : PX), w.σ = σ ∧ w.H = H ∧ SOk K w m ∧ f m Q Qx ∧
  (∀ r m' w', w'.σ = w.σ → Aft K w m w' m' → Q r m' → Q' r w'.H) ∧ ExOk K W w m Qx
def canG (K : PySem.W.Frag) (is : List Nat) (g : FG) : TG := fun v σ H Q' => ∃ (w : Wd) (m : M) (d : D) (Q : M → Prop), w.σ = σ ∧ w.H = H ∧ SOk K w m ∧ Rep K w.γ w.G v d ∧ g m d Q ∧ (∀ m' w', Aft K w m w' m' → OnlyAt is w.σ w'.σ → Q m' → Q' w'.σ w'.H)
section
variable {X : Cx} {W : WX} {a : Expr}
theorem VE.can {f : FE} (h : VE X W a f) : PE X a (canE X.K W f) := by
  obtain ⟨t, p, s⟩ := h.ex
  refine ⟨fun pins sh σ H Q' I hh => ?_⟩
  obtain ⟨w, m, Q, Qx, rfl, rfl, h1, h2, h3, h4⟩ := hh
  exact p.run pins sh _ _ Q' I (s w m Q Qx Q' h1 h2 h3 h4)
theorem VT.can {f : FT} (h : VT X W a f) : PT X a (canT X.K W f) := by
  obtain ⟨t, p, s⟩ := h.ex
  refine ⟨fun pins sh σ H Q' I hh => ?_⟩
  obtain ⟨w, m, Q, Qx, rfl, rfl, h1, h2, h3, h4⟩ := hh
  exact p.run pins sh _ _ Q' I (s w m Q Qx Q' h1 h2 h3 h4)
theorem VG.can {is : List Nat} {g : FG} (h : VG X is a g) : PG X a (canG X.K is g) := by
  obtain ⟨t, p, s⟩ := h.ex
  refine ⟨fun pins sh σ H v u Q' I r hh => ?_⟩
  obtain ⟨w, m, d, Q, rfl, rfl, h1, h2, h3, h4⟩ := hh
  exact p.run pins sh _ _ v u Q' I r (s w m v d Q Q' h1 h2 h3 h4)
end
/-- the tests of a comprehension -/
structure VTs (X : Cx) (W : WX) (ifs : List Expr) (f : FT) : Prop where
  run : PTs X ifs (canT X.K W f)
def tYesV : FT := fun m Q _ => Q true m
theorem vts_nil {X : Cx} {W : WX} : VTs X W [] tYesV := by
  refine ⟨⟨fun pins sh σ H Q' I hh => ?_⟩⟩
  obtain ⟨w, m, Q, Qx, rfl, rfl, h1, h2, h3, h4⟩ := hh
  exact (pts_nil (X := X)).run pins sh _ _ Q' I (h3 true m w rfl (.refl h1) h2)
theorem vts_one {X : Cx} {W : WX} {c : Expr} {f : FT} (h : VT X W c f) : VTs X W [c] f := ⟨pts_one h.can⟩

section
variable {K : PySem.W.Frag} {w w' wz : Wd} {m m' mz : M}
theorem tmp_step {H0 : Hp} {v : V} {d : D} (h : RetOk K H0 w m v (.tmp d)) (s : Step w (Own w m) w' (Own w' m')) : RetOk K H0 w' m' v (.tmp d) := by
  obtain ⟨p, o, rfl, h1, h2, h3, h4, h5⟩ := h
  refine ⟨p, o, rfl, h1, ?_, ?_, s.fr _ _ h4 h3 h5.nt, h5.mono s.gp s.gg⟩
  · rcases none_or (w'.G p) with e | ⟨u, e⟩
    · exact e
    · rcases s.gn p u e with z | z | z | ⟨u, z, hu⟩
      · rw [h2] at z; cases z
      · exact absurd z h3
      · rw [h4] at z; cases z
      · rw [h4] at z; cases z; exact absurd hu h5.odd
  · intro z
    rcases s.on p z with z | z
    · exact h3 z
    · rw [h4] at z; cases z
/-- a held new object is written -/
theorem Aft.writeTmp {p : Addr} {o o0 : HO} (a : Aft K wz mz w m) (h0 : wz.H p = none) (f2 : w.G p = none) (f3 : ¬ Own w m p) (f4 : w.H p = some o0) (f5 : ¬ Odd o0) : Aft K wz mz (w.put p o) m := by
  have nep : ∀ b u, w.G b = some u → b ≠ p := fun b u g z => by rw [z] at g; rw [f2] at g; cases g
  refine ⟨⟨fun b u g => (upd_ne (nep b u g)).trans (a.ok.sub b u g), a.ok.len, a.ok.val, fun i d g => ?_, a.ok.inj, a.ok.gl, fun j b d g1 g2 => ?_, a.ok.gnd, tabs_upd a.ok.tb.1 f4 f5, a.ok.tb.2⟩, ⟨a.st.gg, fun b u g n t => ?_, a.st.gn, fun b g => a.st.on b g, fun b u g => ?_, a.st.gp⟩⟩
  · obtain ⟨b, o, g1, g2, g3, g4, g5⟩ := a.ok.own i d g
    have nb : b ≠ p := fun z => f3 (.inr ⟨i, d, g, by rw [← z]; exact g1⟩)
    exact ⟨b, o, g1, g2, g3, (upd_ne nb).trans g4, g5⟩
  · obtain ⟨g3, o, g4, g5⟩ := a.ok.gh j b d g1 g2
    have nb : b ≠ p := fun z => f3 (.inl (by rw [← z]; exact List.mem_of_getElem? g1))
    exact ⟨g3, o, (upd_ne nb).trans g4, g5⟩
  · have nb : b ≠ p := fun z => by rw [z] at g; rw [g] at h0; cases h0
    exact (upd_ne nb).trans (a.st.fr b u g n t)
  · by_cases nb : b = p
    · exact ⟨_, by rw [nb]; exact upd_same⟩
    · obtain ⟨u', g'⟩ := a.st.al b u g
      exact ⟨u', (upd_ne nb).trans g'⟩

/-! ### slots forgotten -/
def wipeE (e : List Sl) : List Nat → List Sl
  | [] => e
  | v :: vs => (wipeE e vs).set v .no
def wipeM (m : M) (vs : List Nat) : M := ⟨wipeE m.env vs, m.gs⟩
def Wd.wip (w : Wd) (vs : List Nat) : Wd := ⟨w.G, w.H, w.γ, wipe w.σ vs⟩
theorem wipeE_length (e : List Sl) : ∀ vs : List Nat, (wipeE e vs).length = e.length
  | [] => rfl
  | v :: vs => by unfold wipeE; rw [List.length_set, wipeE_length e vs]
theorem wipeE_get {e : List Sl} {i : Nat} {s : Sl} (hs : s ≠ .no) : ∀ {vs : List Nat}, (wipeE e vs)[i]? = some s → e[i]? = some s ∧ i ∉ vs
  | [], h => ⟨h, by simp⟩
  | v :: vs, h => by
    unfold wipeE at h
    rcases getset h with ⟨_, z, _⟩ | ⟨hi, h⟩
    · exact absurd z hs
    · obtain ⟨h1, h2⟩ := wipeE_get hs h
      exact ⟨h1, by simp only [List.mem_cons, not_or]; exact ⟨hi, h2⟩⟩
theorem wipe_get {σ : L2.St} {i : Nat} : ∀ {vs : List Nat}, i ∉ vs → (wipe σ vs)[i]? = σ[i]?
  | [], _ => rfl
  | v :: vs, h => by
    simp only [List.mem_cons, not_or] at h
    unfold wipe
    rw [List.getElem?_set_ne (fun z => h.1 z.symm)]
    exact wipe_get h.2
theorem wipe_at {σ : L2.St} {i : Nat} : ∀ {vs : List Nat}, i ∈ vs → i < σ.length → (wipe σ vs)[i]? = some none
  | [], h, _ => by simp at h
  | v :: vs, h, hl => by
    unfold wipe
    by_cases e : v = i
    · subst e
      rw [List.getElem?_set_self (by rw [wipe_length]; exact hl)]
    · rw [List.getElem?_set_ne e]
      rcases List.mem_cons.mp h with z | z
      · exact absurd z.symm e
      · exact wipe_at z hl
theorem SOk.wip (s : SOk K w m) (vs : List Nat) : SOk K (w.wip vs) (wipeM m vs) ∧ ∀ b, Own (w.wip vs) (wipeM m vs) b → Own w m b := by
  refine ⟨⟨s.sub, by show (wipeE m.env vs).length = (wipe w.σ vs).length; rw [wipeE_length, wipe_length]; exact s.len, fun i d h => ?_, fun i d h => ?_, fun i j d e a h1 h2 e1 e2 => ?_, s.gl, s.gh, s.gnd, s.tb⟩, fun b h => ?_⟩
  · obtain ⟨h1, h2⟩ := wipeE_get (by intro z; cases z) h
    obtain ⟨v, e1, e2⟩ := s.val i d h1
    exact ⟨v, (wipe_get h2).trans e1, e2⟩
  · obtain ⟨h1, h2⟩ := wipeE_get (by intro z; cases z) h
    obtain ⟨b, o, e1, e2⟩ := s.own i d h1
    exact ⟨b, o, (wipe_get h2).trans e1, e2⟩
  · obtain ⟨h1, z1⟩ := wipeE_get (by intro z; cases z) h1
    obtain ⟨h2, z2⟩ := wipeE_get (by intro z; cases z) h2
    exact s.inj i j d e a h1 h2 ((wipe_get z1).symm.trans e1) ((wipe_get z2).symm.trans e2)
  · rcases h with h | ⟨i, d, h, e1⟩
    · exact .inl h
    · obtain ⟨h1, z1⟩ := wipeE_get (by intro z; cases z) h
      exact .inr ⟨i, d, h1, (wipe_get z1).symm.trans e1⟩
theorem Aft.wip (a : Aft K wz mz w m) (vs : List Nat) : Aft K wz mz (w.wip vs) (wipeM m vs) := by
  obtain ⟨x, y⟩ := a.ok.wip vs
  exact ⟨x, ⟨a.st.gg, a.st.fr, a.st.gn, fun b h => a.st.on b (y b h), a.st.al, a.st.gp⟩⟩
/-- back to the slots as they were -/
theorem Aft.unwip {σ : L2.St} {vs : List Nat} (a : Aft K wz mz w m) (e : w.σ = wipe σ vs) : Aft K wz mz ⟨w.G, w.H, w.γ, σ⟩ m ∧ ∀ b, Own ⟨w.G, w.H, w.γ, σ⟩ m b → Own w m b := by
  have s := a.ok
  have up : ∀ {i : Nat} {x : V}, w.σ[i]? = some (some x) → σ[i]? = some (some x) := fun h => by rw [e] at h; exact (wipe_some h).1
  have ow : ∀ b, Own ⟨w.G, w.H, w.γ, σ⟩ m b → Own w m b := fun b h => by
    rcases h with h | ⟨i, d, h, e1⟩
    · exact .inl h
    · obtain ⟨c, o, e2, _⟩ := s.own i d h
      have z := up e2
      have e1 : σ[i]? = some (some (.ref b)) := e1
      rw [e1] at z
      cases z
      exact .inr ⟨i, d, h, e2⟩
  refine ⟨⟨⟨s.sub, by show m.env.length = σ.length; rw [s.len, e, wipe_length], fun i d h => ?_, fun i d h => ?_, fun i j d d' b h1 h2 e1 e2 => ?_, s.gl, s.gh, s.gnd, s.tb⟩, ⟨a.st.gg, a.st.fr, a.st.gn, fun b h => a.st.on b (ow b h), a.st.al, a.st.gp⟩⟩, ow⟩
  · obtain ⟨v, e1, e2⟩ := s.val i d h
    exact ⟨v, up e1, e2⟩
  · obtain ⟨b, o, e1, e2⟩ := s.own i d h
    exact ⟨b, o, up e1, e2⟩
  · obtain ⟨c1, o1, f1, _⟩ := s.own i d h1
    obtain ⟨c2, o2, f2, _⟩ := s.own j d' h2
    have z1 := up f1
    have z2 := up f2
    have e1 : σ[i]? = some (some (.ref b)) := e1
    have e2 : σ[j]? = some (some (.ref b)) := e2
    rw [e1] at z1
    rw [e2] at z2
    cases z1; cases z2
    exact s.inj i j d d' _ h1 h2 f1 f2
theorem wipe_only {σ σ' : L2.St} {is vs : List Nat} (h : OnlyAt is (wipe σ vs) σ') (hs : ∀ i ∈ is, i ∈ vs) : wipe σ' vs = wipe σ vs := by
  have hl : σ'.length = σ.length := by rw [h.1, wipe_length]
  apply List.ext_getElem?
  intro j
  by_cases hj : j ∈ vs
  · by_cases hlt : j < σ.length
    · rw [wipe_at hj (by rw [hl]; exact hlt), wipe_at hj hlt]
    · rw [List.getElem?_eq_none (by rw [wipe_length, hl]; omega), List.getElem?_eq_none (by rw [wipe_length]; omega)]
  · rw [wipe_get hj, h.2 j fun z => hj (hs j z)]
end

def lcR (g : FG) (ft : FT) (fe : FE) (vs : List Nat) (lk : M → Prop) (Q : List D → M → Prop) : List D → List D → M → Prop
  | [], acc, m => lk m ∧ Q acc m
  | d :: ds, acc, m => lk m ∧ g m d fun m1 => ft m1 (fun c m2 => iteP c (fe m2 (fun r m3 => bindO (keep m3 r) fun p => acc.length < sizeLine ∧ lcR g ft fe vs lk Q ds (acc ++ [p.1]) (wipeM p.2 vs)) (fun _ _ => False))
      (lcR g ft fe vs lk Q ds acc (wipeM m2 vs))) (fun _ _ => False)
theorem lcR_nil {g : FG} {ft : FT} {fe : FE} {vs : List Nat} {lk : M → Prop} {Q : List D → M → Prop} {acc : List D} {m : M} : lcR g ft fe vs lk Q [] acc m = (lk m ∧ Q acc m) := rfl
theorem lcR_cons {g : FG} {ft : FT} {fe : FE} {vs : List Nat} {lk : M → Prop} {Q : List D → M → Prop} {d : D} {ds acc : List D} {m : M} : lcR g ft fe vs lk Q (d :: ds) acc m = (lk m ∧ g m d fun m1 => ft m1 (fun c m2 => iteP c (fe m2 (fun r m3 => bindO (keep m3 r) fun p => acc.length < sizeLine ∧ lcR g ft fe vs lk Q ds (acc ++ [p.1]) (wipeM p.2 vs)) (fun _ _ => False))
      (lcR g ft fe vs lk Q ds acc (wipeM m2 vs))) (fun _ _ => False)) := rfl
theorem lcR_lk {g : FG} {ft : FT} {fe : FE} {vs : List Nat} {lk : M → Prop} {Q : List D → M → Prop} {ds acc : List D} {m : M} (h : lcR g ft fe vs lk Q ds acc m) : lk m := by
  cases ds with
  | nil => rw [lcR_nil] at h; exact h.1
  | cons d ds => rw [lcR_cons] at h; exact h.1
@[irreducible] def lcQ (g : FG) (ft : FT) (fe : FE) (vs : List Nat) (lk : M → Prop) (Q : List D → M → Prop) (ds acc : List D) (m : M) : Prop := lcR g ft fe vs lk Q ds acc m
theorem lcQ_eq {g : FG} {ft : FT} {fe : FE} {vs : List Nat} {lk : M → Prop} {Q : List D → M → Prop} {ds acc : List D} {m : M} : lcQ g ft fe vs lk Q ds acc m = lcR g ft fe vs lk Q ds acc m := by rw [lcQ]
def fLc (fi : FI) (g : FG) (ft : FT) (fe : FE) (vs : List Nat) : FE := fun m Q Qx => fi m (fun ds lk m1 => lcQ g ft fe vs lk (fun acc m' => Q (.tmp (.lst acc)) m') ds [] (wipeM m1 vs)) Qx
abbrev WN : WX := fun _ _ _ _ => False
section
variable {X : Cx} {W : WX}
theorem lc_core' {ti : TI} {fi : FI} {g : FG} {ft : FT} {fe : FE} {is vs : List Nat} (his : ∀ i ∈ is, i ∈ vs)
    (si : ∀ (w : Wd) (m : M) (Q : List D → (M → Prop) → M → Prop) (Qx : PX) (R : It → Hp → Prop), SOk X.K w m → fi m Q Qx → (∀ ds lk m' w' J, w'.σ = w.σ → Aft X.K w m w' m' → ItOk X.K w' m' J ds lk → Q ds lk m' → R J w'.H) → ExOk X.K W w m Qx → ti w.σ w.H R)
    {w : Wd} {m : M} {Q : Ret → M → Prop} {Qx : PX} {Q' : VK} (s : SOk X.K w m) (h : fLc fi g ft fe vs m Q Qx) (k : ∀ r m' w' v, w'.σ = w.σ → Aft X.K w m w' m' → RetOk X.K w.H w' m' v r → Q r m' → Q' v w'.H) (kx : ExOk X.K W w m Qx) :
    tLc ti (canG X.K is g) (canT X.K WN ft) (canE X.K WN fe) vs w.σ w.H Q' := by
  refine si w m _ Qx _ s h (fun ds lk m1 w1 J e1 a1 J1 q => ?_) kx
  rw [lcQ_eq] at q
  intro D hD
  have hD0 : w.H D = none := a1.st.back hD
  refine ⟨fun i n H => n = ds.length - i ∧ i ≤ ds.length ∧ ∃ w2 m2 acc, w2.σ = wipe w.σ vs ∧ w2.H = H ∧ Aft X.K w1 m1 w2 m2 ∧ RetOk X.K w1.H w2 m2 (.ref D) (.tmp (.lst acc)) ∧ lcR g ft fe vs lk (fun acc m' => Q (.tmp (.lst acc)) m') (ds.drop i) acc m2, ⟨_, rfl, Nat.zero_le _, (w1.put D (.lst [])).wip vs, wipeM m1 vs, [], ?_, rfl, ?_, ?_, q⟩, ?_⟩
  · show wipe w1.σ vs = _
    rw [e1]
  · obtain ⟨s2, st2⟩ := a1.ok.put (o := .lst []) hD
    exact Aft.wip ⟨s2, st2⟩ vs
  · obtain ⟨s2, st2⟩ := a1.ok.put (o := .lst []) hD
    obtain ⟨p, o, ep, f1, f2, f3, f4, f5⟩ := a1.ok.putRet (o := .lst []) (d := .lst []) hD (.lst .nil)
    exact ⟨p, o, ep, f1, f2, fun z => f3 ((s2.wip vs).2 p z), f4, f5⟩
  · rintro i n _ ⟨rfl, hi, w2, m2, acc, e2, rfl, a2, t2, q2⟩
    by_cases hlt : i < ds.length
    · refine .inr ⟨J1.go i w2 m2 a2 (lcR_lk q2) hlt, fun H' => ∃ w3 m3 acc', w3.σ = wipe w.σ vs ∧ w3.H = H' ∧ Aft X.K w1 m1 w3 m3 ∧ RetOk X.K w1.H w3 m3 (.ref D) (.tmp (.lst acc')) ∧ lcR g ft fe vs lk (fun acc m' => Q (.tmp (.lst acc)) m') (ds.drop (i + 1)) acc' m3,
        fun H' ⟨w3, m3, acc', z⟩ => ⟨ds.length - (i + 1), by omega, rfl, hlt, w3, m3, acc', z⟩, fun x H' y => ?_⟩
      obtain ⟨w3, e3, eH, a3, r3⟩ := J1.yld i w2 m2 ds[i] x H' a2 (lcR_lk q2) (List.getElem?_eq_getElem hlt) y
      rw [List.drop_eq_getElem_cons hlt, lcR_cons] at q2
      have t3 := tmp_step t2 a3.st
      have e32 := e3.trans e2
      refine ⟨w3, m2, ds[i], _, e32, eH, a3.ok, r3, q2.2, fun m4 w4 a4 o4 q4 => ?_⟩
      have hw4 : wipe w4.σ vs = wipe w.σ vs := wipe_only (by rw [← e32]; exact o4) his
      refine ⟨hw4, w4, m4, _, _, rfl, rfl, a4.ok, q4, fun c m5 w5 e5 a5 q5 => ?_, fun _ _ _ _ _ _ _ z => z.elim⟩
      have t4 := tmp_step t3 a4.st
      have t5 := tmp_step t4 a5.st
      have a25 := ((a2.trans a3).trans a4).trans a5
      cases c with
      | false =>
        have q5 := q5.2 rfl
        refine L2.iteF ?_
        obtain ⟨p, o, ep, f1, f2, f3, f4, f5⟩ := t5
        refine ⟨w5.wip vs, wipeM m5 vs, acc, ?_, rfl, a25.wip vs, ⟨p, o, ep, f1, f2, fun z => f3 ((a5.ok.wip vs).2 p z), f4, f5⟩, q5⟩
        show wipe w5.σ vs = _
        rw [e5]; exact hw4
      | true =>
        have q5 := q5.1 rfl
        refine L2.iteT ?_
        refine ⟨w5, m5, _, _, e5, rfl, a5.ok, q5, fun r m6 w6 v e6 a6 r6 q6 => ?_, fun _ _ _ _ _ _ _ z => z.elim⟩
        obtain ⟨⟨d, m7⟩, hk, hz, q7⟩ := bindO_elim q6
        obtain ⟨w7, e7, eH7, a7, r7⟩ := keep_ok a6 r6 hk
        obtain ⟨p, o, ep, f1, f2, f3, f4, f5⟩ := tmp_step t5 a7.st
        cases ep
        cases f5 with
        | lst rr =>
          rename_i accV
          refine ⟨accV, by rw [← eH7]; exact f4, by rw [rr.length]; exact hz, ?_⟩
          have a27 := a25.trans a7
          have a8 := (a27.writeTmp (o := .lst (accV ++ [v])) f1 f2 f3 f4 (ORep.lst rr).odd).wip vs
          refine ⟨(w7.put D (.lst (accV ++ [v]))).wip vs, wipeM m7 vs, acc ++ [d], ?_, ?_, a8, ⟨D, _, rfl, f1, f2, fun z => ?_, upd_same, .lst (rr.append (.cons r7 .nil))⟩, q7⟩
          · show wipe w7.σ vs = _
            rw [e7, e6, e5]; exact hw4
          · show upd w7.H D _ = _
            rw [eH7]
          · exact f3 (((a27.writeTmp (o := .lst (accV ++ [v])) f1 f2 f3 f4 (ORep.lst rr).odd).ok.wip vs).2 D z)
    · have e : i = ds.length := by omega
      subst e
      refine .inl ⟨J1.stop w2 m2 a2 (lcR_lk q2), ?_⟩
      rw [List.drop_length, lcR_nil] at q2
      obtain ⟨a9, ow⟩ := (a1.trans a2).unwip e2
      obtain ⟨p, o, ep, f1, f2, f3, f4, f5⟩ := t2
      cases ep
      exact k (.tmp (.lst acc)) m2 ⟨w2.G, w2.H, w2.γ, w.σ⟩ (.ref D) rfl a9 ⟨D, o, rfl, hD0, f2, fun z => f3 (ow D z), f4, f5⟩ q2.2
theorem ve_lc {elt tg iter : Expr} {ifs : List Expr} {scope : Scope} {own : List (Str × Nat)} {pos : Pos} {fi : FI} {g : FG} {ft : FT} {fe : FE} {is : List Nat} (hc : X.calm = true) (hN : X.N.Nodup) (hi : VI X W tg iter fi) (ok : BlkOk X.N X.env.scope scope own)
    (hg : ∀ (s : Shared) (H : Hp) (C : Addr) (cl : List (Str × Addr)) (fp : List Addr), VG (X.blk s H scope (compEnvC scope cl C X.env) fp) is tg g)
    (ht : ∀ (s : Shared) (H : Hp) (C : Addr) (cl : List (Str × Addr)) (fp : List Addr), VTs (X.blk s H scope (compEnvC scope cl C X.env) fp) WN ifs ft)
    (he : ∀ (s : Shared) (H : Hp) (C : Addr) (cl : List (Str × Addr)) (fp : List Addr), VE (X.blk s H scope (compEnvC scope cl C X.env) fp) WN elt fe) (his : ∀ i ∈ is, i ∈ own.map (·.2) := by decide) (hs : ∀ x, foldedSetIterable iter X.env x = pure x := by intro _; rfl) :
    VE X W (.ListComp elt [⟨tg, iter, ifs, 0⟩] scope pos) (fLc fi g ft fe (own.map (·.2))) := by
  obtain ⟨ti, pi, si⟩ := hi.ex
  exact ⟨⟨_, pe_lc (g := canG X.K is g) (tt := canT X.K WN ft) (te := canE X.K WN fe) hc hN pi ok (fun s H C cl fp => (hg s H C cl fp).can) (fun s H C cl fp => (ht s H C cl fp).run) (fun s H C cl fp => (he s H C cl fp).can) hs, fun w m Q Qx Q' s h k kx => lc_core' his si s h k kx⟩⟩
theorem vs_setLc (i : Nat) {y : Str} {py : Pos} {elt tg iter : Expr} {ifs : List Expr} {scope : Scope} {own : List (Str × Nat)} {pos spos : Pos} {fi : FI} {g : FG} {ft : FT} {fe : FE} {is : List Nat} (hc : X.calm = true) (hN : X.N.Nodup) (hi : VI X W tg iter fi) (ok : BlkOk X.N X.env.scope scope own)
    (hg : ∀ (s : Shared) (H : Hp) (C : Addr) (cl : List (Str × Addr)) (fp : List Addr), VG (X.blk s H scope (compEnvC scope cl C X.env) fp) is tg g)
    (ht : ∀ (s : Shared) (H : Hp) (C : Addr) (cl : List (Str × Addr)) (fp : List Addr), VTs (X.blk s H scope (compEnvC scope cl C X.env) fp) WN ifs ft)
    (he : ∀ (s : Shared) (H : Hp) (C : Addr) (cl : List (Str × Addr)) (fp : List Addr), VE (X.blk s H scope (compEnvC scope cl C X.env) fp) WN elt fe) (his : ∀ i ∈ is, i ∈ own.map (·.2) := by decide)
    (hsw : swapsWith (.ListComp elt [⟨tg, iter, ifs, 0⟩] scope pos) (some (.Name y py)) spos.line X.env = pure true := by exact sw_true rfl rfl rfl (by decide +kernel))
    (hy : X.N[i]? = some y := by rfl) (hyl : X.env.scope.names.lookup y = some .local := by rfl) (hs : ∀ x, foldedSetIterable iter X.env x = pure x := by intro _; rfl) :
    VS X W (.Assign [.Name y py] (.ListComp elt [⟨tg, iter, ifs, 0⟩] scope pos) spos) (sAsg i (fLc fi g ft fe (own.map (·.2)))) := by
  obtain ⟨ti, pi, si⟩ := hi.ex
  refine ⟨⟨_, ps_setLc (g := canG X.K is g) (tt := canT X.K WN ft) (te := canE X.K WN fe) hc hN hy hyl hsw pi ok (fun s H C cl fp => (hg s H C cl fp).can) (fun s H C cl fp => (ht s H C cl fp).run) (fun s H C cl fp => (he s H C cl fp).can) hs, fun w m E D s h k => ?_⟩⟩
  refine lc_core' (Q' := fun x H1 => gName i x w.σ H1 D.nx) his si s h (fun r m1 w1 v e1 a1 r1 q => ?_) k.exOk
  obtain ⟨m2, h2, q1, q2⟩ := bindO_elim q
  have hl : i < w1.σ.length := by rw [← a1.ok.len, ← sto_env h2]; exact q1
  obtain ⟨w2, e2, eH, a2⟩ := sto_ok a1 r1 hl h2
  show D.nx (w.σ.set i (some v)) w1.H
  rw [← e1, ← e2, ← eH]
  exact k.nx m2 w2 a2 q2
end
end VL

/-! The value layer: short names; loops by words. -/
namespace VL
open PySem PySem.Spec PyProof.Rows L2
variable [Tabs]
section
variable {K : PySem.W.Frag}
theorem divV : OpV K (rI CDiv fun i j => .int (i / j)) gDiv := intV
theorem modV : OpV K (rI (fun _ j => 0 < j) fun i j => .int (i % j)) gMod := intV
theorem powV : OpV K (rI CPow fun i j => .int (i ^ j.toNat)) gPow := intV
theorem ltV : OpV K (rI0 fun i j => .bl (decide (i < j))) gLt := cmpV
theorem leV : OpV K (rI0 fun i j => .bl (decide (i ≤ j))) gLe := cmpV
theorem gtV : OpV K (rI0 fun i j => .bl (decide (j < i))) gGt := cmpV
theorem geV : OpV K (rI0 fun i j => .bl (decide (j ≤ i))) gGe := cmpV
def gNeg : G1 := fun d k => match d with
  | .int i => k (.fz (.int (-i)))
  | _ => False
theorem negV : UnV K (rU fun i => .int (-i)) gNeg := by
  intro w m v d k Q' s hv h q
  unfold gNeg at h
  split at h
  · cases hv
    exact ⟨_, rfl, outFz s q (.int _) h⟩
  · exact h.elim
end

/-! ### plain facts for evaluating readings -/

/-! ### loops by a word -/
theorem forR_ind {g : FG} {fb : FS} {E : EndsV} {lk : M → Prop} (I : List D → M → Prop) (hnil : ∀ m, I [] m → lk m ∧ E.nx m)
    (hcons : ∀ d ds m, I (d :: ds) m → lk m ∧ ∀ k : M → Prop, (∀ m', I ds m' → k m') → g m d fun m1 => fb (E.wl k) m1) : ∀ ds m, I ds m → forQ g fb E lk ds m := by
  have H : ∀ ds m, I ds m → forR g fb E lk ds m := by
    intro ds
    induction ds with
    | nil => intro m h; rw [forR_nil]; exact hnil m h
    | cons d ds ih => intro m h; rw [forR_cons]; exact ⟨(hcons d ds m h).1, (hcons d ds m h).2 _ ih⟩
  intro ds m h
  rw [forQ_eq]
  exact H ds m h
/-- over items of one kind -/
theorem forR_map {α : Type} (f : α → D) {g : FG} {fb : FS} {E : EndsV} {lk : M → Prop} (I : List α → M → Prop) (hnil : ∀ m, I [] m → lk m ∧ E.nx m)
    (hcons : ∀ x xs m, I (x :: xs) m → lk m ∧ ∀ k : M → Prop, (∀ m', I xs m' → k m') → g m (f x) fun m1 => fb (E.wl k) m1) : ∀ xs m, I xs m → forQ g fb E lk (xs.map f) m := by
  have H : ∀ xs m, I xs m → forR g fb E lk (xs.map f) m := by
    intro xs
    induction xs with
    | nil => intro m h; rw [List.map_nil, forR_nil]; exact hnil m h
    | cons x xs ih => intro m h; rw [List.map_cons, forR_cons]; exact ⟨(hcons x xs m h).1, (hcons x xs m h).2 _ ih⟩
  intro xs m h
  rw [forQ_eq]
  exact H xs m h
/-- over a range -/
theorem forR_range {lo : Int} {n : Nat} {g : FG} {fb : FS} {E : EndsV} {lk : M → Prop} (I : Nat → M → Prop) (hnil : ∀ m, I n m → lk m ∧ E.nx m)
    (hcons : ∀ i m, i < n → I i m → lk m ∧ ∀ k : M → Prop, (∀ m', I (i + 1) m' → k m') → g m (.int (lo + i)) fun m1 => fb (E.wl k) m1) {m : M} (h0 : I 0 m) : forQ g fb E lk (rangeD lo n) m := by
  rw [forQ_eq]
  have h : ∀ (j i : Nat) m, i + j = n → I i m → forR g fb E lk ((List.range' i j).map fun (i : Nat) => .int (lo + i)) m := by
    intro j
    induction j with
    | zero => intro i m e hi; rw [Nat.add_zero] at e; subst e; rw [List.range'_zero, List.map_nil, forR_nil]; exact hnil m hi
    | succ j ih =>
      intro i m e hi
      rw [List.range'_succ, List.map_cons, forR_cons]
      obtain ⟨h1, h2⟩ := hcons i m (by omega) hi
      exact ⟨h1, h2 _ fun m' h' => ih (i + 1) m' (by omega) h'⟩
  unfold rangeD
  rw [List.range_eq_range']
  exact h n 0 m (by omega) h0
theorem while_ind {ft : FT} {fb : FS} {E : EndsV} (I : Nat → M → Prop) (h : ∀ n m, I n m → ft m (fun c m1 => iteP c (fb (E.wl fun m' => ∃ n', n' < n ∧ I n' m') m1) (E.nx m1)) E.ex)
    {m : M} {n : Nat} (h0 : I n m) : sWhile ft fb E m := by rw [sWhile]; exact ⟨I, ⟨n, h0⟩, h⟩
theorem lcR_map {α β : Type} (f : α → D) (r : β → D) {g : FG} {ft : FT} {fe : FE} {vs : List Nat} {lk : M → Prop} {Q : List D → M → Prop} (I : List α → List β → M → Prop) (hnil : ∀ acc m, I [] acc m → lk m ∧ Q (acc.map r) m)
    (hcons : ∀ x xs acc m, I (x :: xs) acc m → lk m ∧ ∀ k : List D → M → Prop, (∀ acc' m', I xs acc' m' → k (acc'.map r) m') → g m (f x) fun m1 => ft m1 (fun c m2 => iteP c (fe m2 (fun rr m3 => bindO (keep m3 rr) fun p => acc.length < sizeLine ∧ k (acc.map r ++ [p.1]) (wipeM p.2 vs)) (fun _ _ => False)) (k (acc.map r) (wipeM m2 vs))) (fun _ _ => False)) :
    ∀ xs acc m, I xs acc m → lcQ g ft fe vs lk Q (xs.map f) (acc.map r) m := by
  have H : ∀ xs acc m, I xs acc m → lcR g ft fe vs lk Q (xs.map f) (acc.map r) m := by
    intro xs
    induction xs with
    | nil => intro acc m h; rw [List.map_nil, lcR_nil]; exact hnil acc m h
    | cons x xs ih =>
      intro acc m h
      obtain ⟨h1, h2⟩ := hcons x xs acc m h
      rw [List.map_cons, lcR_cons]
      refine ⟨h1, ?_⟩
      simp only [List.length_map]
      exact h2 (fun acc' m' => lcR g ft fe vs lk Q (xs.map f) acc' m') ih
  intro xs acc m h
  rw [lcQ_eq]
  exact H xs acc m h
/-- over a range -/
theorem lcR_range {β : Type} (r : β → D) {lo : Int} {n : Nat} {g : FG} {ft : FT} {fe : FE} {vs : List Nat} {lk : M → Prop} {Q : List D → M → Prop} (I : Nat → List β → M → Prop) (hnil : ∀ acc m, I n acc m → lk m ∧ Q (acc.map r) m)
    (hcons : ∀ i acc m, i < n → I i acc m → lk m ∧ ∀ k : List D → M → Prop, (∀ acc' m', I (i + 1) acc' m' → k (acc'.map r) m') → g m (.int (lo + i)) fun m1 => ft m1 (fun c m2 => iteP c (fe m2 (fun rr m3 => bindO (keep m3 rr) fun p => acc.length < sizeLine ∧ k (acc.map r ++ [p.1]) (wipeM p.2 vs)) (fun _ _ => False)) (k (acc.map r) (wipeM m2 vs))) (fun _ _ => False))
    {m : M} {acc : List β} (h0 : I 0 acc m) : lcQ g ft fe vs lk Q (rangeD lo n) (acc.map r) m := by
  have H : ∀ (j i : Nat) acc m, i + j = n → I i acc m → lcR g ft fe vs lk Q ((List.range' i j).map fun (i : Nat) => .int (lo + i)) (acc.map r) m := by
    intro j
    induction j with
    | zero => intro i acc m e hi; rw [Nat.add_zero] at e; subst e; rw [List.range'_zero, List.map_nil, lcR_nil]; exact hnil acc m hi
    | succ j ih =>
      intro i acc m e hi
      rw [List.range'_succ, List.map_cons, lcR_cons]
      obtain ⟨h1, h2⟩ := hcons i acc m (by omega) hi
      refine ⟨h1, ?_⟩
      simp only [List.length_map]
      exact h2 (fun acc' m' => lcR g ft fe vs lk Q ((List.range' (i + 1) j).map fun (i : Nat) => .int (lo + i)) acc' m') fun acc' m' h' => ih (i + 1) acc' m' (by omega) h'
  rw [lcQ_eq]
  unfold rangeD
  rw [List.range_eq_range']
  exact H n 0 acc m (by omega) h0
/-- the end of a body that leaves the shared containers as they are -/
theorem fin0 {gs : List D} {r : Ret} {Q : Ret → List D → Prop} {m : M} (e : m.gs = gs) (h : Q r gs) : Clean gs.length m r ∧ Q r (m.gs.take gs.length) := by
  subst e
  exact ⟨.inl rfl, by rw [List.take_length]; exact h⟩

/-! ### isinstance with a built-in class -/
inductive TyK where
  | int | bool | str | list | tuple | dict
def TyK.name : TyK → String
  | .int => "int"
  | .bool => "bool"
  | .str => "str"
  | .list => "list"
  | .tuple => "tuple"
  | .dict => "dict"
def isTy : TyK → D → Option Bool
  | .int, .int _ => some true
  | .int, .bl _ => some true
  | .bool, .bl _ => some true
  | .str, .str _ => some true
  | .tuple, .tup _ => some true
  | .list, .lst _ => some true
  | .dict, .dK _ => some true
  | .dict, .dT _ => some true
  | _, .raw _ => none
  | _, .gh _ => none
  | _, .kt _ => none
  | _, .kl _ => none
  | _, .fn _ _ _ => none
  | _, .clo _ _ _ => none
  | _, .dM _ => none
  | _, .exc _ _ => none
  | _, .ins _ _ => none
  | _, _ => some false
theorem isTy_ok : ∀ (k : TyK) (d : D) (b : Bool), isTy k d = some b → ∃ t, tyName d = some t ∧ kitB t k.name = some b := by
  intro k d b h
  cases k <;> cases d <;> simp only [isTy, reduceCtorEq, Option.some.injEq] at h <;> subst h <;> exact ⟨_, rfl, by decide +kernel⟩
def gIsiT (k : TyK) : G1 := fun d kk => bindO (isTy k d) fun b => kk (.fz (.bl b))
theorem ve_isi {X : Cx} {W : WX} {a : Expr} {fa : FE} {p p2 pos : Pos} (k : TyK) {y : Str} (hg : Gl X "isinstance") (hm : X.mg "isinstance" = none) (hgy : Gl X y) (hmy : X.mg y = none) (hb : bootBuiltins y = some (.type k.name)) (ha : VE X W a fa)
    (hbi : bootBuiltins "isinstance" = some (.builtin "isinstance") := by decide +kernel) (hn : y ≠ "__name__" := by decide) (hd : (y == ("__debug__" : Str)) = false := by decide)
    (he : starEach (a :: .Name y p2 :: []) X.env = (false, eval a X.env) :: starEach (.Name y p2 :: []) X.env := by rfl) (he2 : starEach (.Name y p2 :: []) X.env = (false, eval (.Name y p2) X.env) :: starEach [] X.env := by rfl)
    (hpl : (backTo pos (starEach [.Name y p2] X.env)).any (·.1) = false := by rfl) : VE X W (.Call (.Name "isinstance" p) [a, .Name y p2] [] pos) (fUn (gIsiT k) fa) := by
  obtain ⟨ta, pa, sa⟩ := ha.ex
  refine ⟨⟨_, pe_callB call_isi hg hm hbi (pa_cons pa (pa_cons (pe_bltn (v := .ty k.name) hgy hmy hb rfl hn hd) pa_nil he2) he) (by decide) (by decide) he hpl, fun w m Q Qx Q' s h kk kx => ?_⟩⟩
  refine sa w m _ Qx _ s h (fun r m' w' v e a1 r1 q => ?_) kx
  obtain ⟨d, hd, q⟩ := bindO_elim q
  obtain ⟨b, hb, q⟩ := bindO_elim q
  obtain ⟨t, ht, hk⟩ := isTy_ok k d b hb
  refine isiV w' m' v (.ty k.name) d (.raw (.ty k.name)) (fun r => Q r m') Q' a1.ok (a1.ok.view r1 hd) rfl ?_ fun r w3 v' e3 a3 r3 k3 => ?_
  · show bindO (tyName d) fun t => bindO (kitB t k.name) fun b => Q (.fz (.bl b)) m'
    rw [ht, bindO_some, hk, bindO_some]
    exact q
  · exact kk r m' w3 v' (e3.trans e) (a1.trans a3) (r3.from fun _ z => a1.st.back z) k3

/-! ### data with a Lean type -/
class Emb (α : Type) [DecidableEq α] [PySem.W.Datum α] where
  d : α → D
  ok : ∀ a, toPy (d a) = some (PySem.W.Datum.toD a)
theorem toPyL_map {α : Type} {f : α → D} {g : α → PyData} (h : ∀ a, toPy (f a) = some (g a)) : ∀ xs : List α, toPyL (xs.map f) = some (xs.map g)
  | [] => by simp [toPyL]
  | x :: xs => by simp [toPyL, h x, toPyL_map h xs]
instance : Emb Int := ⟨.int, fun _ => by simp [toPy, PySem.W.Datum.toD]⟩
instance : Emb Str := ⟨.str, fun _ => by simp [toPy, PySem.W.Datum.toD]⟩
instance : Emb Bool := ⟨.bl, fun _ => by simp [toPy, PySem.W.Datum.toD]⟩
section
variable {α β : Type} [DecidableEq α] [PySem.W.Datum α] [Emb α] [DecidableEq β] [PySem.W.Datum β] [Emb β]
instance : Emb (α × β) := ⟨fun p => .tup [Emb.d p.1, Emb.d p.2], fun p => by simp [toPy, toPyL, Emb.ok, PySem.W.Datum.toD]⟩
instance : Emb (List α) := ⟨fun xs => .lst (xs.map Emb.d), fun xs => by simp [toPy, toPyL_map Emb.ok, PySem.W.Datum.toD]⟩
instance : Emb (PySem.W.Tup α) := ⟨fun t => .tup (t.items.map Emb.d), fun t => by simp [toPy, toPyL_map Emb.ok, PySem.W.Datum.toD]⟩
/-- == of two values of one type -/
theorem eqO_emb {d e : D} (x y : α) (hd : toPy d = some (PySem.W.Datum.toD x)) (he : toPy e = some (PySem.W.Datum.toD y)) (h64 : PySem.W.Datum.depth α ≤ 64) : eqO d e = some (decide (x = y)) := by
  rw [eqO_of hd he (by have := PySem.W.Datum.depth_le x; omega), PySem.W.Datum.eqv]
theorem eqO_e (x y : α) (h64 : PySem.W.Datum.depth α ≤ 64) : eqO (Emb.d x) (Emb.d y) = some (decide (x = y)) := eqO_emb x y (Emb.ok x) (Emb.ok y) h64
theorem depthAll_le : ∀ (xs : List α), PyData.depthAll (xs.map PySem.W.Datum.toD) ≤ PySem.W.Datum.depth α
  | [] => by simp [PyData.depthAll]
  | x :: xs => by
    have h1 := depthAll_le xs
    have h2 := PySem.W.Datum.depth_le x
    simp only [List.map_cons, PyData.depthAll]
    omega
theorem inO_e (xs : List α) (x : α) (h63 : PySem.W.Datum.depth α ≤ 63) : inO (xs.map Emb.d) (Emb.d x) = some (decide (x ∈ xs)) := by
  rw [inO_of (toPyL_map Emb.ok xs) (Emb.ok x) (by have := PySem.W.Datum.depth_le x; omega)]
  congr 1
  induction xs with
  | nil => rfl
  | cons y ys ih =>
    rw [List.map_cons, List.any_cons, ih, PySem.W.Datum.eqv]
    by_cases h : y = x
    · subst h; simp
    · have : x ≠ y := fun z => h z.symm
      simp [h, this]
end
theorem eqO_refl {d : D} {p : PyData} (hd : toPy d = some p) (hp : p.plain = true) (h64 : p.depth ≤ 64) : eqO d d = some true := by
  rw [eqO_of hd hd (by omega), PySem.SeqAt.eqv_refl_plain p hp]

/-- plain data, at most n deep -/
def Pl (d : D) (n : Nat) : Prop := ∃ p, toPy d = some p ∧ p.plain = true ∧ p.depth ≤ n
def PlL (ds : List D) (n : Nat) : Prop := ∃ ps, toPyL ds = some ps ∧ PyData.plainAll ps = true ∧ PyData.depthAll ps ≤ n
theorem Pl.refl {d : D} (h : Pl d 64) : eqO d d = some true := by
  obtain ⟨p, h1, h2, h3⟩ := h
  exact eqO_refl h1 h2 h3
theorem Pl.emb {α : Type} [DecidableEq α] [PySem.W.Datum α] [Emb α] (x : α) : Pl (Emb.d x) (PySem.W.Datum.depth α) := ⟨_, Emb.ok x, PySem.W.Datum.plain x, PySem.W.Datum.depth_le x⟩
theorem Pl.mono {d : D} {n m : Nat} (h : Pl d n) (l : n ≤ m) : Pl d m := by obtain ⟨p, h1, h2, h3⟩ := h; exact ⟨p, h1, h2, by omega⟩
theorem PlL.nil {n : Nat} : PlL [] n := ⟨[], by simp [toPyL], by simp [PyData.plainAll], by simp [PyData.depthAll]⟩
theorem PlL.cons {d : D} {ds : List D} {n : Nat} (h : Pl d n) (r : PlL ds n) : PlL (d :: ds) n := by
  obtain ⟨p, h1, h2, h3⟩ := h
  obtain ⟨ps, r1, r2, r3⟩ := r
  exact ⟨p :: ps, by simp [toPyL, h1, r1], by simp [PyData.plainAll, h2, r2], by simp only [PyData.depthAll]; omega⟩
theorem PlL.map {α : Type} {f : α → D} {n : Nat} (h : ∀ x, Pl (f x) n) : ∀ xs : List α, PlL (xs.map f) n
  | [] => .nil
  | x :: xs => .cons (h x) (PlL.map h xs)
theorem Pl.lst {ds : List D} {n : Nat} (r : PlL ds n) : Pl (.lst ds) (n + 1) := by
  obtain ⟨ps, r1, r2, r3⟩ := r
  exact ⟨.list ps, by simp [toPy, r1], by simpa [PyData.plain] using r2, by simp only [PyData.depth]; omega⟩
theorem Pl.tup {ds : List D} {n : Nat} (r : PlL ds n) : Pl (.tup ds) (n + 1) := by
  obtain ⟨ps, r1, r2, r3⟩ := r
  exact ⟨.tuple ps, by simp [toPy, r1], by simpa [PyData.plain] using r2, by simp only [PyData.depth]; omega⟩
theorem Pl.int (i : Int) {n : Nat} : Pl (.int i) n := ⟨_, rfl, rfl, by rw [dep_int]; omega⟩
theorem Pl.str (i : Str) {n : Nat} : Pl (.str i) n := ⟨_, rfl, rfl, by rw [dep_str]; omega⟩
theorem Pl.bl (i : Bool) {n : Nat} : Pl (.bl i) n := ⟨_, rfl, rfl, by rw [dep_bool]; omega⟩

/-! ### dicts: what they hold -/
section
variable {κ : Type} [DecidableEq κ]
theorem dval_nil (k : κ) : dval ([] : List (κ × D)) k = none := rfl
theorem dval_put (es : List (κ × D)) (k j : κ) (v : D) : dval (dput es k v) j = if j = k then some v else dval es j := by
  unfold dput
  split
  · rename_i h
    induction es with
    | nil => simp at h
    | cons e es ih =>
      obtain ⟨a, b⟩ := e
      by_cases ha : a = k
      · subst ha
        by_cases hj : j = a
        · subst hj; simp [dval]
        · have hj' : ¬ a = j := fun z => hj z.symm
          by_cases hes : (es.any fun kv => decide (kv.1 = a)) = true
          · have := ih hes
            simp only [if_neg hj] at this ⊢
            simpa [dval, List.find?_cons, hj', hj] using this
          · have e0 : es.map (fun kv => if kv.1 = a then (kv.1, v) else kv) = es := by
              conv => rhs; rw [← List.map_id es]
              apply List.map_congr_left
              intro x hx
              have : ¬ x.1 = a := fun z => hes (List.any_eq_true.mpr ⟨x, hx, decide_eq_true z⟩)
              simp [this]
            simp [dval, List.find?_cons, hj', hj, e0]
      · have hes : (es.any fun kv => decide (kv.1 = k)) = true := by simpa [ha] using h
        have := ih hes
        by_cases hj : a = j
        · subst hj; simp [dval, List.find?_cons, ha]
        · simp only [List.map_cons, ha, if_false]
          simpa [dval, List.find?_cons, hj] using this
  · rename_i h
    unfold dval
    rw [List.find?_append]
    by_cases hj : j = k
    · subst hj
      have : es.find? (fun kv => decide (kv.1 = j)) = none := List.find?_eq_none.mpr fun x hx z => h (List.any_eq_true.mpr ⟨x, hx, z⟩)
      simp [this]
    · have hj' : ¬ k = j := fun z => hj z.symm
      cases es.find? (fun kv => decide (kv.1 = j)) <;> simp [hj, hj', List.find?_cons]
theorem dput_len (es : List (κ × D)) (k : κ) (v : D) : (dput es k v).length ≤ es.length + 1 := by
  unfold dput
  split <;> simp
theorem dput_all {P : D → Prop} {es : List (κ × D)} (h : ∀ e ∈ es, P e.2) (k : κ) {v : D} (hv : P v) : ∀ e ∈ dput es k v, P e.2 := by
  unfold dput
  split
  · intro e he
    obtain ⟨x, hx, rfl⟩ := List.mem_map.mp he
    split
    · exact hv
    · exact h x hx
  · intro e he
    rcases List.mem_append.mp he with z | z
    · exact h e z
    · simp at z; rw [z]; exact hv
theorem dval_mem {es : List (κ × D)} {k : κ} {d : D} (h : dval es k = some d) : ∃ e ∈ es, e.1 = k ∧ e.2 = d := by
  unfold dval at h
  cases z : es.find? (fun kv => decide (kv.1 = k)) with
  | none => rw [z] at h; cases h
  | some e =>
    rw [z] at h
    exact ⟨e, List.mem_of_find?_eq_some z, of_decide_eq_true (List.find?_some (p := fun kv : κ × D => decide (kv.1 = k)) z), Option.some.inj h⟩
end
theorem dmerge_len : ∀ (more es : List (Key × D)), (dmerge es more).length ≤ es.length + more.length
  | [], es => by simp [dmerge]
  | p :: r, es => by
    have h1 := dmerge_len r (dput es p.1 p.2)
    have h2 := dput_len es p.1 p.2
    show (dmerge (dput es p.1 p.2) r).length ≤ _
    rw [List.length_cons]; omega
theorem dmerge_all {P : D → Prop} : ∀ (more es : List (Key × D)), (∀ e ∈ es, P e.2) → (∀ e ∈ more, P e.2) → ∀ e ∈ dmerge es more, P e.2
  | [], es, h, _ => h
  | p :: r, es, h, h2 => dmerge_all r (dput es p.1 p.2) (dput_all h p.1 (h2 p List.mem_cons_self)) fun e he => h2 e (List.mem_cons_of_mem _ he)
theorem dmerge_some : ∀ (more es : List (Key × D)) (k : Key), (dval (dmerge es more) k).isSome = true ↔ k ∈ more.map (fun p : Key × D => p.1) ∨ (dval es k).isSome = true
  | [], es, k => by simp [dmerge]
  | p :: r, es, k => by
    have h := dmerge_some r (dput es p.1 p.2) k
    rw [dval_put] at h
    show (dval (dmerge (dput es p.1 p.2) r) k).isSome = true ↔ _
    rw [h]
    by_cases e : k = p.1
    · simp [e]
    · simp [e]
theorem toPairs_map (es : List (Str × D)) : toPairs (es.map fun p => .tup [.str p.1, p.2]) = some (es.map fun p => (.inr p.1, p.2)) := by
  induction es with
  | nil => rfl
  | cons e es ih => simp [toPairs, keyOf, ih]
theorem and_split {c1 c2 : Bool} {X Y : Prop} (hx : c1 = true → c2 = true → X) (hy : (c1 && c2) = false → Y) : (c1 = true → (c2 = true → X) ∧ (c2 = false → Y)) ∧ (c1 = false → Y) := by
  cases c1 <;> cases c2 <;> simp_all
theorem or_split {c1 c2 : Bool} {X Y : Prop} (hx : (c1 || c2) = true → X) (hy : c1 = false → c2 = false → Y) : (c1 = true → X) ∧ (c1 = false → (c2 = true → X) ∧ (c2 = false → Y)) := by
  cases c1 <;> cases c2 <;> simp_all
theorem yes_of {c : Bool} {X Y : Prop} (h : c = true) (hx : X) : (c = true → X) ∧ (c = false → Y) := ⟨fun _ => hx, fun e => by rw [h] at e; cases e⟩
theorem no_of {c : Bool} {X Y : Prop} (h : c = false) (hy : Y) : (c = true → X) ∧ (c = false → Y) := ⟨fun e => (by rw [h] at e; cases e), fun _ => hy⟩
theorem len1 (x : Nat) : (⟨#[x]⟩ : Str).length = 1 := rfl
theorem szl : sizeLine = 16777216 := by decide
/-! ### places -/
theorem at_nat {α : Type} {xs : List α} {k : Nat} (h : k < xs.length) : atI xs (k : Int) = some xs[k] := atI_nat (List.getElem?_eq_getElem h)
theorem at_ex {α : Type} {xs : List α} {i : Int} (h0 : 0 ≤ i) (h1 : i < xs.length) : ∃ x ∈ xs, atI xs i = some x := by
  obtain ⟨k, rfl⟩ := Int.eq_ofNat_of_zero_le h0
  have hk : k < xs.length := by omega
  exact ⟨xs[k], List.getElem_mem hk, at_nat hk⟩
theorem at_exm {α β : Type} {f : α → β} {xs : List α} {i : Int} (h0 : 0 ≤ i) (h1 : i < xs.length) : ∃ x ∈ xs, atI (xs.map f) i = some (f x) := by
  obtain ⟨y, hy, h⟩ := at_ex (xs := xs.map f) h0 (by simpa using h1)
  obtain ⟨x, hx, rfl⟩ := List.mem_map.mp hy
  exact ⟨x, hx, h⟩
theorem at_map {α β : Type} {f : α → β} {xs : List α} {k : Nat} {x : α} (h : xs[k]? = some x) : atI (xs.map f) (k : Int) = some (f x) := atI_nat (by rw [List.getElem?_map, h]; rfl)
theorem at_chr {z : Str} {i : Int} (h0 : 0 ≤ i) (h1 : i < z.length) : ∃ c ∈ z.cps.toList, atI z.cps.toList i = some c := at_ex h0 (by simpa [Str.length] using h1)
theorem bindO_at {α : Type} {xs : List α} {i : Int} {k : α → Prop} (h0 : 0 ≤ i) (h1 : i < xs.length) (h : ∀ x ∈ xs, k x) : bindO (atI xs i) k := by
  obtain ⟨x, hx, e⟩ := at_ex h0 h1
  exact bindO_of e (h x hx)
theorem bindO_atm {α β : Type} (f : α → β) {xs : List α} {i : Int} {k : β → Prop} (h0 : 0 ≤ i) (h1 : i < xs.length) (h : ∀ x ∈ xs, k (f x)) : bindO (atI (xs.map f) i) k := by
  obtain ⟨x, hx, e⟩ := at_exm (f := f) h0 h1
  exact bindO_of e (h x hx)
/-- the k-th, known -/
theorem bindO_atk {α β : Type} (f : α → β) {xs : List α} {i : Int} {n : Nat} {x : α} {k : β → Prop} (hi : i = n) (e : xs[n]? = some x) (h : k (f x)) : bindO (atI (xs.map f) i) k := by
  subst hi; exact bindO_of (at_map e) h
theorem at_lastm {α β : Type} (f : α → β) (xs : List α) (x : α) : atI ((xs ++ [x]).map f) (-1) = some (f x) := by
  have e : ixN ((xs ++ [x]).map f).length (-1) = some xs.length := by
    unfold ixN
    have : ((xs ++ [x]).map f).length = xs.length + 1 := by simp
    rw [this, if_neg (by omega), if_pos (by omega)]
    congr 1
    omega
  unfold atI
  rw [e]
  simp
theorem last_map {α β : Type} (f : α → β) (xs : List α) (x : α) : ((xs ++ [x]).map f)[((xs ++ [x]).map f).length - 1]? = some (f x) := by simp
theorem dropLast_map' {α β : Type} (f : α → β) (xs : List α) (x : α) : ((xs ++ [x]).map f).dropLast = xs.map f := by simp
theorem ixN_ok {n : Nat} {i : Int} (h0 : 0 ≤ i) (h1 : i < n) : ∃ j, ixN n i = some j ∧ j < n := ⟨i.toNat, by unfold ixN; rw [if_pos h0, if_pos h1], by omega⟩
theorem strApp_len (x y : Str) : (x ++ y).length = x.length + y.length := by
  have h := TL.len_tl (x ++ y)
  rw [TL.tl_append, List.length_append] at h
  rw [h, TL.len_tl x, TL.len_tl y]
/-! ### loops by what is done already -/
theorem forR_pre {α : Type} (f : α → D) {xs : List α} {dz : List D} {g : FG} {fb : FS} {E : EndsV} {lk : M → Prop} (e : dz = xs.map f) (I : List α → M → Prop) (hnil : ∀ m, I xs m → lk m ∧ E.nx m)
    (hcons : ∀ pre x rest m, xs = pre ++ x :: rest → I pre m → lk m ∧ ∀ k : M → Prop, (∀ m', I (pre ++ [x]) m' → k m') → g m (f x) fun m1 => fb (E.wl k) m1) {m : M} (h0 : I [] m) : forQ g fb E lk dz m := by
  subst e
  refine forR_map f (fun rest m => ∃ pre, xs = pre ++ rest ∧ I pre m) (fun m h => ?_) (fun x rest m h => ?_) xs m ⟨[], rfl, h0⟩
  · obtain ⟨pre, e, h⟩ := h
    rw [List.append_nil] at e; subst e; exact hnil m h
  · obtain ⟨pre, e, h⟩ := h
    have z := hcons pre x rest m e h
    exact ⟨z.1, fun k hk => z.2 k fun m' h' => hk m' ⟨pre ++ [x], by rw [e, List.append_assoc]; rfl, h'⟩⟩
theorem forR_enum {α : Type} (f : α → D) {xs : List α} {dz : List D} {g : FG} {fb : FS} {E : EndsV} {lk : M → Prop} (e : dz = enumD 0 (xs.map f)) (I : List α → M → Prop) (hnil : ∀ m, I xs m → lk m ∧ E.nx m)
    (hcons : ∀ pre x rest m, xs = pre ++ x :: rest → I pre m → lk m ∧ ∀ k : M → Prop, (∀ m', I (pre ++ [x]) m' → k m') → g m (.tup [.int pre.length, f x]) fun m1 => fb (E.wl k) m1) {m : M} (h0 : I [] m) : forQ g fb E lk dz m := by
  subst e
  refine forR_ind (fun ds m => ∃ pre rest, xs = pre ++ rest ∧ ds = enumD pre.length (rest.map f) ∧ I pre m) (fun m h => ?_) (fun d ds m h => ?_) _ m ⟨[], xs, rfl, rfl, h0⟩
  · obtain ⟨pre, rest, e, e2, h⟩ := h
    cases rest with
    | nil => rw [List.append_nil] at e; subst e; exact hnil m h
    | cons x rest => cases e2
  · obtain ⟨pre, rest, e, e2, h⟩ := h
    cases rest with
    | nil => cases e2
    | cons x rest =>
      rw [List.map_cons] at e2
      injection e2 with e3 e4
      subst e3; subst e4
      have z := hcons pre x rest m e h
      exact ⟨z.1, fun k hk => z.2 k fun m' h' => hk m' ⟨pre ++ [x], rest, by rw [e, List.append_assoc]; rfl, by rw [List.length_append]; rfl, h'⟩⟩
theorem cutD_map {α β : Type} (f : α → β) (xs : List α) (lo hi : Option Int) : cutD (xs.map f) lo hi = (cutD xs lo hi).map f := by
  unfold cutD
  rw [List.length_map, List.map_take, List.map_drop]
theorem cutD_len {α : Type} (xs : List α) (lo hi : Option Int) : (cutD xs lo hi).length ≤ xs.length := by
  unfold cutD
  rw [List.length_take, List.length_drop]; omega
theorem cutD_mem {α : Type} {xs : List α} {lo hi : Option Int} {x : α} (h : x ∈ cutD xs lo hi) : x ∈ xs := List.mem_of_mem_drop (List.mem_of_mem_take h)
/-! ### the ends -/
def ntH (H : Hp) : Hp := fun b => match H b with
  | some (.tbl _) => none
  | o => o
theorem ntH_at {H : Hp} {b : Addr} {o : HO} (z : ntH H b = some o) : H b = some o := by
  unfold ntH at z
  split at z
  · cases z
  · exact z
theorem ntH_nt {H : Hp} {b : Addr} {ps : Array Value} (z : ntH H b = some (.tbl ps)) : False := by
  unfold ntH at z
  split at z
  · cases z
  · rename_i h; exact h ps z
theorem ntH_of {H : Hp} {b : Addr} {o : HO} (z : H b = some o) (n : ∀ ps, o ≠ .tbl ps) : ntH H b = some o := by
  unfold ntH
  rw [z]
  split
  · rename_i h; cases h; exact absurd rfl (n _)
  · rfl
theorem sqL_nt {K : PySem.W.Frag} {H : Hp} {a : Addr} {xs : List V} (h : SqL K H a xs) : SqL K (ntH H) a xs := by
  rcases h with (h | ⟨o, h⟩) | h
  · exact .inl (.inl (ntH_of h (fun ps z => by cases z)))
  · exact .inl (.inr ⟨o, ntH_of h (fun ps z => by cases z)⟩)
  · exact .inr h
theorem law_start {K : PySem.W.Frag} {H : Hp} {a : Addr} {ns : List Int} {g : FV} (hT : NdefX.TabsN Tabs.T H) (hS : SqL K H a (ns.map V.int)) (h : ∀ Q Qe, Q (.fz (.bl true)) [] → g [.kl (ns.map .int)] [] Q Qe) : spV K 1 g [.ref a] H (fun v _ => v = .bl true) fun _ _ _ => False := by
  refine ⟨ntH H, [], [.kl (ns.map .int)], [], fun r _ => r = .fz (.bl true), fun _ _ => False, ?_, .cons (.kl (sqL_nt hS) (reps_ints ns)) .nil, rfl, h _ _ rfl, ?_, fun _ _ _ _ _ _ _ q => q.elim⟩
  · refine ⟨fun b o z => ntH_at z, rfl, fun i d h => ?_, fun i d h => ?_, fun i j d e a h => ?_, rfl, fun k a d h => ?_, .nil, hT, fun b ps z => ntH_nt z⟩
    · cases h
    · cases h
    · cases h
    · cases h
  · intro γ' r gs' G' H' v _ rr q
    subst q
    have rr : Rep K γ' G' v (.bl true) := rr
    cases rr
    rfl
omit [Tabs] in
theorem no_end {P : Program} {w : World} {H : Hp} {s s' : Shared} {e : Value} (h : L2.CX P w [] H s (fun _ _ _ => False) e s') : False := by
  obtain ⟨_, _, _, _, _, _, _, _, _, _, _, _, h⟩ := h
  exact h
end VL

/-! The value layer: more rules. -/
namespace VL
open PySem PySem.Spec PyProof.Rows L2
variable [Tabs]
section
variable {X : Cx} {W : WX} {a b c : Expr} {fa fb fc : FE} {pos : Pos}
/-- xs[::-1] of a list -/
def gRevL : G1 := fun d k => bindO (lstOf d) fun ds => k (.tmp (.lst ds.reverse))
theorem ve_revL {k : Nat} {p1 p2 p3 : Pos} (ha : VE X W a fa) : VE X W (.Subscript a (.Slice none none (some (.UnaryOp .USub (.Constant (.int 1) k p1) p2)) p3) pos) (fUn gRevL fa) := by
  obtain ⟨ta, pa, sa⟩ := ha.ex
  refine ⟨⟨_, pe_revL pa, fun w m Q Qx Q' s h k kx => ?_⟩⟩
  refine sa w m _ Qx _ s h (fun r m' w' v e a1 r1 q => ?_) kx
  obtain ⟨d, hd, q⟩ := bindO_elim q
  have hv := a1.ok.view r1 hd
  obtain ⟨ds, he, q⟩ := bindO_elim q
  obtain ⟨p, xs, rfl, h1, r1⟩ := lst_at a1.ok hv he
  refine ⟨p, xs, rfl, h1, fun l hl => ?_⟩
  exact outTmp a1.ok (fun r w3 v' e3 a3 r3 k3 => k r m' w3 v' (e3.trans e) (a1.trans a3) (r3.from fun _ z => a1.st.back z) k3) hl (.lst r1.reverse) q
end
theorem toPairs_str (es : List (Str × Str)) : toPairs (es.map fun e => .tup [.str e.1, .str e.2]) = some (es.map fun e => (.inr e.1, .str e.2)) := by
  have := toPairs_map (es.map fun e => (e.1, D.str e.2))
  rw [List.map_map, List.map_map] at this
  exact this
/-! ### a module's tuple of texts -/
def KT (K : PySem.W.Frag) (a : Addr) (zs : List Str) : Prop := ∃ (o : Obj) (its : Array Value) (n : Nat), K.lookup a = some o ∧ o.cls = .type "tuple" ∧ o.dict = none ∧ o.data = .seq its n ∧ its.size ≤ sizeLine ∧ Vals (zs.map V.str) its.toList
section
variable {X : Cx} {W : WX}
theorem KT.sq {K : PySem.W.Frag} {a : Addr} {zs : List Str} (h : KT K a zs) : ∃ (o : Obj) (its : Array Value) (n : Nat), K.lookup a = some o ∧ o.cls = .type "tuple" ∧ o.data = .seq its n ∧ its.size ≤ sizeLine ∧ Vals (zs.map V.str) its.toList := by
  obtain ⟨o, its, n, h1, h2, _, h3, h4, h5⟩ := h
  exact ⟨o, its, n, h1, h2, h3, h4, h5⟩
theorem ve_globTup {x : Str} {a : Addr} {zs : List Str} {pos : Pos} (hg : Gl X x) (hm : X.mg x = some (.ref a)) (hk : KT X.K a zs) (hd : (x == ("__debug__" : Str)) = false := by decide) : VE X W (.Name x pos) (fC (.kt (zs.map .str))) :=
  ⟨⟨_, pe_glob (v := .ref a) hg hm rfl hd, fun w m Q Qx Q' s h k kx => k _ m w _ rfl (.refl s) (retFz (.kt (.inr hk.sq) (reps_strs' zs))) h⟩⟩
end
theorem Pl.non' {n : Nat} : Pl .non n := ⟨.none, rfl, rfl, by simp [PyData.depth]⟩
theorem eqO_nil {ds : List D} {n : Nat} (h : PlL ds n) (hn : n ≤ 60) : eqO (.lst ds) (.lst []) = some ds.isEmpty := by
  obtain ⟨ps, h1, h2, h3⟩ := h
  rw [eqO_of (p := .list ps) (p' := .list []) (by simp [toPy, h1]) (by simp [toPy, toPyL]) (by simp only [PyData.depth]; omega)]
  cases ds with
  | nil => simp [toPyL] at h1; subst h1; rfl
  | cons d ds =>
    cases ps with
    | nil =>
      unfold toPyL at h1
      split at h1
      · split at h1
        · cases h1
        · cases h1
      · cases h1
    | cons p ps => rfl
theorem cut_take {α : Type} (xs : List α) (k : Nat) : VL.cutD xs none (some (k : Int)) = xs.take k := by
  unfold VL.cutD
  rw [HT.sIx_none, HT.sIx_nat, List.drop_zero, Nat.sub_zero]
  rcases Nat.le_total k xs.length with h | h
  · rw [Nat.min_eq_left h]
  · rw [Nat.min_eq_right h, List.take_length, List.take_of_length_le h]
theorem cut_drop {α : Type} (xs : List α) (k : Nat) : VL.cutD xs (some (k : Int)) none = xs.drop k := by
  unfold VL.cutD
  rw [HT.sIx_none, HT.sIx_nat]
  rcases Nat.le_total k xs.length with h | h
  · rw [Nat.min_eq_left h, List.take_of_length_le (by rw [List.length_drop]; omega)]
  · rw [Nat.min_eq_right h, List.drop_length, List.drop_of_length_le h, List.take_nil]
theorem cut_len2 {α : Type} (xs : List α) (a b i : Nat) (h : i < (VL.cutD xs (some (a : Int)) (some (b : Int))).length) : a + i < xs.length ∧ a + i < b := by
  unfold VL.cutD at h
  rw [HT.sIx_nat, HT.sIx_nat, List.length_take, List.length_drop] at h
  omega
mutual
theorem py_gh (k : Nat) : ∀ (d : D) {p : PyData}, toPy d = some p → ghB k d = true
  | .non, _, _ => by simp [ghB]
  | .bl b, _, _ => by simp [ghB]
  | .int i, _, _ => by simp [ghB]
  | .str x, _, _ => by simp [ghB]
  | .raw v, _, _ => by simp [ghB]
  | .gh j, _, h => by simp [toPy] at h
  | .dK es, _, h => by simp [toPy] at h
  | .dT es, _, h => by simp [toPy] at h
  | .dM es, _, h => by simp [toPy] at h
  | .exc _ _, _, h => by simp [toPy] at h
  | .ins _ _, _, h => by simp [toPy] at h
  | .tup ds, _, h => by
    cases z : toPyL ds with
    | none => simp [toPy, z] at h
    | some ps => simp only [ghB]; exact pyL_gh k ds z
  | .lst ds, _, h => by
    cases z : toPyL ds with
    | none => simp [toPy, z] at h
    | some ps => simp only [ghB]; exact pyL_gh k ds z
  | .kt ds, _, h => by
    cases z : toPyL ds with
    | none => simp [toPy, z] at h
    | some ps => simp only [ghB]; exact pyL_gh k ds z
  | .kl ds, _, h => by
    cases z : toPyL ds with
    | none => simp [toPy, z] at h
    | some ps => simp only [ghB]; exact pyL_gh k ds z
theorem pyL_gh (k : Nat) : ∀ (ds : List D) {ps : List PyData}, toPyL ds = some ps → ghBL k ds = true
  | [], _, _ => by simp [ghBL]
  | d :: ds, _, h => by
    cases z : toPy d with
    | none => simp [toPyL, z] at h
    | some p =>
      cases z2 : toPyL ds with
      | none => simp [toPyL, z, z2] at h
      | some ps => simp only [ghBL, Bool.and_eq_true]; exact ⟨py_gh k d z, pyL_gh k ds z2⟩
end
theorem plGh {d : D} {n : Nat} (h : Pl d n) (k : Nat) : ghB k d = true := by obtain ⟨p, h1, _⟩ := h; exact py_gh k d h1
/-! ### two tuples, one beside the other -/
def tupOf' : D → Option (List D)
  | .tup ds => some ds
  | .kt ds => some ds
  | _ => none
theorem tup_fix {K : PySem.W.Frag} {w : Wd} {v : V} {d : D} {ds : List D} (r : Rep K w.γ w.G v d) (h : tupOf' d = some ds) : ∃ a xs, v = .ref a ∧ SqT K w.G a xs ∧ RepL K w.γ w.G xs ds := by
  cases d <;> simp [tupOf'] at h <;> subst h
  · cases r with
    | tup h1 r1 => exact ⟨_, _, rfl, .inl (.inl h1), r1⟩
  · cases r with
    | kt h1 r1 => exact ⟨_, _, rfl, h1, r1⟩
def iZipT (f g : FE) : FI := fun m Q Qx => f m (fun r m1 => bindO (keep m1 r) fun p => g p.2 (fun r' m2 => bindO (keep m2 r') fun p' => bindO (tupOf' p.1) fun ds => bindO (tupOf' p'.1) fun es => Q (zipD ds es) (fun _ => True) p'.2) Qx) Qx
section
variable {X : Cx} {W : WX} {a b c : Expr} {fa fb fc : FE} {pos : Pos}
theorem vi_zipT {elts : List Expr} {kk : Nat} {p tpos : Pos} (hg : Gl X "zip") (hm : X.mg "zip" = none) (ha : VE X W a fa) (hb : VE X W b fb) (hs : starEach [a, b] X.env = (false, eval a X.env) :: starEach [b] X.env := by rfl) (hs2 : starEach [b] X.env = [(false, eval b X.env)] := by rfl) (hpl : (backTo pos (starEach [b] X.env)).any (·.1) = false := by rfl) :
    VI X W (.Tuple elts kk tpos) (.Call (.Name "zip" p) [a, b] [] pos) (iZipT fa fb) := by
  obtain ⟨ta, pa, sa⟩ := ha.ex
  obtain ⟨tb, pb, sb⟩ := hb.ex
  refine ⟨⟨_, RZ.pi_zipA hg hm (pa_cons pa (pa_cons pb pa_nil hs2) hs) hs hpl, fun w m Q Qx R s h k kx => ?_⟩⟩
  refine sa w m _ _ _ s h (fun r m1 w1 v e1 a1 r1 q => ?_) kx
  obtain ⟨⟨d, m2⟩, hk, q⟩ := bindO_elim q
  obtain ⟨w2, e2, eH, a2, r2⟩ := keep_ok a1 r1 hk
  rw [← eH, ← e1, ← e2]
  have e21 := e2.trans e1
  refine sb w2 m2 _ _ _ a2.ok q (fun r' m3 w3 u e3 a3 r3 q => ?_) (kx.aft a2 e21)
  obtain ⟨⟨d', m4⟩, hk', q⟩ := bindO_elim q
  obtain ⟨w4, e4, eH4, a4, r4⟩ := keep_ok a3 r3 hk'
  obtain ⟨ds, hd, q⟩ := bindO_elim q
  obtain ⟨es, he, q⟩ := bindO_elim q
  obtain ⟨p1, xs, rfl, h1, rx⟩ := tup_fix (r2.mono a4.st.gp a4.st.gg) hd
  obtain ⟨p2, ys, rfl, h2, ry⟩ := tup_fix r4 he
  refine ⟨p1, p2, xs, ys, rfl, .inr ⟨by rw [← eH4]; exact sqT_ext a4.ok.sub h1, by rw [← eH4]; exact sqT_ext a4.ok.sub h2, ?_⟩⟩
  rw [← eH4]
  have st1 : ∀ w' m', Aft X.K w4 m4 w' m' → SqT X.K w'.H p1 xs ∧ SqT X.K w'.H p2 ys := fun w' m' a' => ⟨sqT_ext (a'.st.gg.trans a'.ok.sub) h1, sqT_ext (a'.st.gg.trans a'.ok.sub) h2⟩
  refine k _ _ m4 w4 _ (e4.trans (e3.trans e21)) (a2.trans a4) ⟨fun w' m' a' l => ?_, fun i w' m' a' l hi => ?_, fun i w' m' d x H' a' l hd y => ?_⟩ q
  · obtain ⟨z1, z2⟩ := st1 w' m' a'
    refine ⟨xs, ys, z1, z2, ?_⟩
    rw [zipD, List.length_zipWith, rx.length, ry.length]
    omega
  · obtain ⟨z1, z2⟩ := st1 w' m' a'
    rw [zipD, List.length_zipWith] at hi
    obtain ⟨x, hx, _⟩ := rx.get (List.getElem?_eq_getElem (show i < ds.length by omega))
    obtain ⟨y, hy, _⟩ := ry.get (List.getElem?_eq_getElem (show i < es.length by omega))
    exact ⟨xs, ys, x, y, z1, z2, hx, hy⟩
  · obtain ⟨z1, z2⟩ := st1 w' m' a'
    obtain ⟨T, x, y', rfl, hT, rfl, y1, y2⟩ := y
    rw [zipD, List.getElem?_zipWith] at hd
    cases f1 : ds[i]? with
    | none => rw [f1] at hd; simp at hd
    | some d1 =>
      cases f2 : es[i]? with
      | none => rw [f1, f2] at hd; simp at hd
      | some d2 =>
        rw [f1, f2] at hd
        simp at hd
        subst hd
        obtain ⟨x', hx, rx'⟩ := rx.get f1
        obtain ⟨y'', hy, ry'⟩ := ry.get f2
        have z := y1 xs z1
        rw [hx] at z
        cases z
        have z := y2 ys z2
        rw [hy] at z
        cases z
        obtain ⟨s4, st4⟩ := a'.ok.lay (o := .tup [x, y']) hT
        exact ⟨w'.lay T (.tup [x, y']), rfl, rfl, ⟨s4, st4⟩, .tup upd_same (.cons ((rx'.mono a'.st.gp a'.st.gg).mono (Pre.refl _) st4.gg) (.cons ((ry'.mono a'.st.gp a'.st.gg).mono (Pre.refl _) st4.gg) .nil))⟩
end
end VL

/-! The value layer: slices of lists with a step. -/
namespace VL
open PySem PySem.Spec PyProof.Rows L2
variable [Tabs]
/-- the items of xs[lo:hi:st] -/
def pickV {α : Type} (xs : List α) (lo hi st : Option Int) : List α := (sliceRange (sliceBounds lo hi st xs.length).1 (sliceBounds lo hi st xs.length).2.1 (sliceBounds lo hi st xs.length).2.2).filterMap (xs[·]?)
theorem pickV_map {α β : Type} (f : α → β) (xs : List α) (lo hi st : Option Int) : pickV (xs.map f) lo hi st = (pickV xs lo hi st).map f := by
  unfold pickV
  rw [List.length_map, List.map_filterMap]
  congr 1
  funext i
  rw [List.getElem?_map]
theorem pick_array (its : List Value) (lo hi st : Option Int) : slicePick its.toArray lo hi st = (pickV its lo hi st).toArray := by
  unfold slicePick pickV
  rw [List.size_toArray]
  have e : (fun i : Nat => its.toArray[i]?) = fun i : Nat => its[i]? := by funext i; simp
  rw [e]
theorem pickV_len {α : Type} (xs : List α) (lo hi st : Option Int) : (pickV xs lo hi st).length ≤ xs.length := by
  have h := slicePick_size_le (xs.map fun _ => Value.none).toArray lo hi st
  rw [pick_array, List.size_toArray, List.size_toArray, pickV_map, List.length_map, List.length_map] at h
  exact h
theorem vals_pick {xs : List V} {us : List Value} (r : Vals xs us) (is : List Nat) : Vals (is.filterMap (xs[·]?)) (is.filterMap (us[·]?)) := by
  induction is with
  | nil => exact .nil
  | cons i is ih =>
    cases h : xs[i]? with
    | some x =>
      obtain ⟨u, hu, ru⟩ := r.get h
      rw [List.filterMap_cons_some h, List.filterMap_cons_some hu]
      exact .cons ru ih
    | none =>
      have hl := r.length
      have hu : us[i]? = none := by rw [List.getElem?_eq_none_iff] at h ⊢; omega
      rw [List.filterMap_cons_none h, List.filterMap_cons_none hu]
      exact ih
theorem RepL.pick {K : PySem.W.Frag} {γ : List Addr} {G : Hp} {vs : List V} {ds : List D} (r : RepL K γ G vs ds) (is : List Nat) : RepL K γ G (is.filterMap (vs[·]?)) (is.filterMap (ds[·]?)) := by
  induction is with
  | nil => exact .nil
  | cons i is ih =>
    cases h : ds[i]? with
    | some x =>
      obtain ⟨u, hu, ru⟩ := r.get h
      rw [List.filterMap_cons_some h, List.filterMap_cons_some hu]
      exact .cons ru ih
    | none =>
      have hl := r.length
      have hu : vs[i]? = none := by rw [List.getElem?_eq_none_iff] at h ⊢; omega
      rw [List.filterMap_cons_none h, List.filterMap_cons_none hu]
      exact ih
def tSlSt (K : PySem.W.Frag) (te : TE) (tl th ts : TO) : TE := fun σ H Q => te σ H fun x H1 => tl σ H1 fun l H2 => th σ H2 fun u H3 => ts σ H3 fun o H4 => ∃ a xs i, x = .ref a ∧ o = some i ∧ i ≠ 0 ∧ SqL K H4 a xs ∧ ∀ p, H4 p = none → Q (.ref p) (upd H4 p (.lst (pickV xs l u o)))
section
variable {X : Cx} {W : WX} {a b c : Expr} {fa fb fc : FE} {pos : Pos}
theorem pe_slSt {e : Expr} {te : TE} {lo hi : Option Expr} {st : Expr} {tl th ts : TO} {p2 pos : Pos} (he : PE X e te) (hl : PO X lo tl) (hu : PO X hi th) (hs : PO X (some st) ts) : PE X (.Subscript e (.Slice lo hi (some st) p2) pos) (tSlSt X.K te tl th ts) := by
  refine ⟨fun pins s σ H Q I h => ?_⟩
  refine Subscript_ (thn (he.run pins s σ H _ I h) fun v s1 ⟨x, H1, I1, r1, q1⟩ => ?_)
  refine wpAny_Slice (thn (hl.run pins s1 σ H1 _ I1 q1) fun vl s2 ⟨l, H2, I2, pl, q2⟩ => thn (hu.run pins s2 σ H2 _ I2 q2) fun vu s3 ⟨u, H3, I3, pu, q3⟩ => ?_)
  refine thn (hs.run pins s3 σ H3 _ I3 q3) fun vs s4 ⟨o, H4, I4, ps, q4⟩ => ?_
  obtain ⟨a, xs, i, ex, eo, h0, hx, q⟩ := q4
  subst ex
  cases r1
  have I5 : Inv X pins σ H4 { s4 with heap := s4.heap.push { cls := .type "slice", data := .fields #[vl, vu, vs] } } := I4.kept (t' := s4.toks) fun b ob q => Heap.get?_push_of_some _ q
  obtain ⟨its, r, ht, hz⟩ := I5.list hx
  have hlen := r.length
  show wpAny (model X.prog X.w) X.A (subscriptTail e (.Slice lo hi (some st) p2) (.ref a) (.ref s4.heap.objs.size)) (EP X pins σ Q) X.xe { s4 with heap := s4.heap.push { cls := .type "slice", data := .fields #[vl, vu, vs] } }
  refine tail_any (ops := [.ref a, .ref s4.heap.objs.size]) ht.isList.typeIs (PySem.slot_list_getitem.lookup) ?_ (by with_unfolding_all rfl)
  refine wpAny_getItem_list_slice ht.isList (Heap.IsSliceOf.new _ vl vu vs) pl pu ps (by rw [eo]; intro e; exact h0 (Option.some.inj e)) ?_ (by rw [List.size_toArray]; omega)
  rw [pick_array]
  have rp : Vals (pickV xs l u o) (pickV its l u o) := by
    unfold pickV
    rw [hlen]
    exact vals_pick r _
  refine ⟨.ref _, _, I5.laid (t' := s4.toks) (o := .lst (pickV xs l u o)) (fun b ob q => Heap.get?_push_of_some _ q) (Nat.le_refl _) ?_, rfl, q _ (I5.hok.fresh (Nat.le_refl _))⟩
  exact ⟨Nat.le_trans (pickV_len xs l u o) hz, _, 0, rp, Heap.get?_push_size _ rfl⟩
def fSlSt (fe : FE) (fl fh fs : FO) : FE := fun m Q Qx => fe m (fun r m1 => fl m1 (fun lo m2 => fh m2 (fun hi m3 => fs m3 (fun st m4 => bindO st fun i => i ≠ 0 ∧ bindO (view m4 r) fun d => bindO (lstOf d) fun ds => Q (.tmp (.lst (pickV ds lo hi st))) m4) Qx) Qx) Qx) Qx
theorem ve_slSt {lo hi : Option Expr} {st : Expr} {fl fh fs : FO} {p2 : Pos} (ha : VE X W a fa) (hl : VO X W lo fl) (hh : VO X W hi fh) (hs : VO X W (some st) fs) : VE X W (.Subscript a (.Slice lo hi (some st) p2) pos) (fSlSt fa fl fh fs) := by
  obtain ⟨ta, pa, sa⟩ := ha.ex
  obtain ⟨tl, pl, sl⟩ := hl.ex
  obtain ⟨th, ph, sh⟩ := hh.ex
  obtain ⟨ts, ps, ss⟩ := hs.ex
  refine ⟨⟨_, pe_slSt pa pl ph ps, fun w m Q Qx Q' s h k kx => ?_⟩⟩
  refine sa w m _ Qx _ s h (fun r m1 w1 v e1 a1 r1 q => ?_) kx
  rw [← e1]
  refine sl w1 m1 _ Qx _ a1.ok q (fun lo m2 w2 e2 a2 q => ?_) (kx.aft a1 e1)
  rw [← e2]
  have a12 := a1.trans a2
  refine sh w2 m2 _ Qx _ a2.ok q (fun hi m3 w3 e3 a3 q => ?_) (kx.aft a12 (e2.trans e1))
  rw [← e3]
  have a13 := a12.trans a3
  refine ss w3 m3 _ Qx _ a3.ok q (fun st m4 w4 e4 a4 q => ?_) (kx.aft a13 (e3.trans (e2.trans e1)))
  obtain ⟨i, hi2, q⟩ := bindO_elim q
  obtain ⟨d, hd, q'⟩ := bindO_elim q.2
  obtain ⟨ds, he, q'⟩ := bindO_elim q'
  have a14 := a13.trans a4
  have r4 := ((r1.step a2.st e2).step a3.st e3).step a4.st e4
  have hv := a4.ok.view r4 hd
  have e14 := e4.trans (e3.trans (e2.trans e1))
  obtain ⟨p, xs, rfl, h1, rr⟩ := lst_at a4.ok hv he
  refine ⟨p, xs, i, rfl, hi2, q.1, h1, fun l hl => ?_⟩
  have rp : RepL X.K w4.γ w4.G (pickV xs lo hi st) (pickV ds lo hi st) := by
    unfold pickV
    rw [rr.length]
    exact rr.pick _
  exact outTmp a4.ok (fun r w5 v' e5 a5 r5 k5 => k r m4 w5 v' (e5.trans e14) (a14.trans a5) (r5.from fun _ z => a14.st.back z) k5) hl (.lst rp) q'
end
/-! ### t.index(x), t a module's tuple of texts -/
def idxO : List Str → Str → Option Nat
  | [], _ => none
  | y :: r, z => if y = z then some 0 else (idxO r z).map (· + 1)
theorem idxO_ok : ∀ {ys : List Str} {z : Str} {j : Nat}, idxO ys z = some j → ys[j]? = some z ∧ ∀ m, m < j → ys[m]? ≠ some z
  | y :: r, z, j, h => by
    unfold idxO at h
    by_cases c : y = z
    · rw [if_pos c] at h
      cases h
      exact ⟨by rw [c]; rfl, fun m hm => absurd hm (Nat.not_lt_zero m)⟩
    · rw [if_neg c] at h
      cases e : idxO r z with
      | none => rw [e] at h; cases h
      | some i =>
        rw [e] at h
        cases h
        obtain ⟨h1, h2⟩ := idxO_ok e
        refine ⟨h1, fun m hm => ?_⟩
        cases m with
        | zero => intro q; exact c (Option.some.inj q)
        | succ m => exact h2 m (Nat.lt_of_succ_lt_succ hm)
def fTix (zs : List Str) (fb : FE) : FE := fun m Q Qx => fb m (fun re m2 => bindO (view m2 re) fun e => match e with
  | .str z => bindO (idxO zs z) fun j => Q (.fz (.int (j : Nat))) m2
  | _ => False) Qx
section
variable {X : Cx} {W : WX} {b : Expr} {fb : FE} {pos : Pos}
theorem ve_tix {x : Str} {a : Addr} {zs : List Str} {p apos : Pos} (hg : Gl X x) (hm : X.mg x = some (.ref a)) (hk : KT X.K a zs) (hb : VE X W b fb) (hd : (x == ("__debug__" : Str)) = false := by decide)
    (hbase : attributeBase (.Name x p) "index" X.env (eval (.Name x p) X.env) = eval (.Name x p) X.env := by rfl)
    (hfew : ((backTo pos (starEach (b :: []) X.env)).all (fun x => !x.1) && (backToKw pos (keywordEach [] X.env)).all (fun x => x.1.isSome)
      && decide ((b :: []).length + ([] : List Keyword).length + (if ([] : List Keyword).isEmpty then 0 else 1) < 30)) = true := by rfl)
    (hline : (apos.endLine == pos.line) = true := by rfl) (hs : starEach (b :: []) X.env = (false, eval b X.env) :: starEach [] X.env := by rfl) (hplain : (backTo pos (starEach [] X.env)).any (·.1) = false := by rfl) :
    VE X W (.Call (.Attribute (.Name x p) "index" apos) [b] [] pos) (fTix zs fb) := by
  obtain ⟨tb, pb, sb⟩ := hb.ex
  refine ⟨⟨_, pe_bm PySem.F.plainAttrs_tuple PySem.F.slot_tuple_index PySem.F.type_tuple_index mt_tup_index (pe_glob (v := .ref a) hg hm rfl hd) (pa_cons pb pa_nil hs) hbase hfew hline hs hplain, fun w m Q Qx Q' s h k kx => ?_⟩⟩
  obtain ⟨o, its, n, k1, k2, k3, k4⟩ := hk
  refine ⟨.inr (.inl ⟨rfl, o, k1, k2, k3⟩), ?_⟩
  refine sb w m _ Qx _ s h (fun re m2 w2 u e2 a2 r2 q => ?_) kx
  obtain ⟨e, he, q⟩ := bindO_elim q
  have hv := a2.ok.view r2 he
  split at q
  · cases hv
    obtain ⟨j, hj, q⟩ := bindO_elim q
    obtain ⟨h1, h2⟩ := idxO_ok hj
    exact ⟨a, zs, _, j, rfl, rfl, .inr ⟨o, its, n, k1, k2, k4⟩, h1, h2, k (.fz (.int (j : Nat))) m2 w2 _ e2 a2 (retFz (.int _)) q⟩
  · exact q.elim
end
/-! ### text.count(text), xs.insert(i, y) -/
section
variable {K : PySem.W.Frag}
def gCount : G2 := fun d e k => match d, e with
  | .str a, .str b => k (.fz (.int (Txt.count a b)))
  | _, _ => False
theorem countV : OpV K (fun x y H Q => (fun x xs H Q => ∃ a b, x = V.str a ∧ xs = [V.str b] ∧ Q (.int (Txt.count a b)) H : V → List V → Hp → VK → Prop) x [y] H Q) gCount := by
  intro w m v u d e k Q' s hv hu h q
  unfold gCount at h
  split at h
  · cases hv; cases hu
    exact ⟨_, _, rfl, rfl, outFz s q (.int _) h⟩
  · exact h.elim
def gInsert : GM := fun c ds k => match c, ds with
  | .lst cs, [.int i, d] => cs.length < sizeLine ∧ 0 ≤ i ∧ i < 2 ^ 63 ∧ k .non (.lst (cs.take i.toNat ++ [d] ++ cs.drop i.toNat))
  | _, _ => False
theorem insertV : MmV K (fun x vs H Q => ∃ (l : Addr) (xs : List V) (i : Int) (y : V), x = .ref l ∧ vs = [.int i, y] ∧ H l = some (.lst xs) ∧ xs.length < sizeLine ∧ 0 ≤ i ∧ i < 2 ^ 63 ∧
    Q .non (upd H l (.lst (xs.take i.toNat ++ [y] ++ xs.drop i.toNat)))) gInsert := by
  intro γ G H a o c vs ds k Q' s h1 h2 h3 h q
  unfold gInsert at h
  split at h
  · cases h2 with
    | lst r =>
      cases h3 with
      | cons r1 r2 =>
        cases r2 with
        | cons r3 r4 =>
          cases r4
          cases r1
          exact ⟨a, _, _, _, rfl, rfl, h1, by rw [r.length]; exact h.1, h.2.1, h.2.2.1, q _ _ _ _ .non (.lst (((r.take _).append (.cons r3 .nil)).append (r.drop _))) h.2.2.2⟩
  · exact h.elim
end
end VL

set_option maxHeartbeats 4000000
/-! The value layer: a def made in a def, handed on as an argument, called there. The cells that it captured lie frozen in the abstract heap meanwhile. -/
namespace VL
open PySem PySem.Spec PyProof.Rows L2 NdefX LamX
variable [Tabs]
/-! ### the cells' addresses -/
def cellL (cl : List (Str × Addr)) : List Addr := (cl.map (·.1)).filterMap fun x => cl.lookup x
theorem lookup_name {cl : List (Str × Addr)} {x : Str} {c : Addr} (h : cl.lookup x = some c) : x ∈ cl.map (·.1) := by
  induction cl with
  | nil => cases h
  | cons p cl ih =>
    rw [List.lookup_cons] at h
    split at h
    · rename_i z
      rw [List.map_cons, List.mem_cons]
      exact .inl (by simpa using z)
    · rw [List.map_cons, List.mem_cons]
      exact .inr (ih h)
theorem mem_cellL {cl : List (Str × Addr)} {b : Addr} : b ∈ cellL cl ↔ ∃ x, cl.lookup x = some b := by
  unfold cellL
  rw [List.mem_filterMap]
  exact ⟨fun ⟨x, _, h⟩ => ⟨x, h⟩, fun ⟨x, h⟩ => ⟨x, lookup_name h, h⟩⟩
/-- on S as A, elsewhere as B -/
def mix (S : List Addr) (A B : Hp) : Hp := fun b => if b ∈ S then A b else B b
theorem mix_in {S : List Addr} {A B : Hp} {b : Addr} (h : b ∈ S) : mix S A B b = A b := if_pos h
theorem mix_out {S : List Addr} {A B : Hp} {b : Addr} (h : b ∉ S) : mix S A B b = B b := if_neg h
def emp : Hp := fun _ => none
section
variable {P : Program} {w : World} {K : PySem.W.Frag} {mg : Str → Option Value} {base : Heap} {A : Around} {outer : List Env} {s s' : Shared} {S : List Addr} {C H H' : Hp} {h : Heap}
theorem hok_mix (x : HOk P w H h) (hS : ∀ b ∈ S, H b = none ∨ ∃ o, H b = some (HO.cell o)) (hC : ∀ b ∈ S, C b = none ∨ ∃ o, C b = some (HO.cell o) ∧ h.get? b = some o) : HOk P w (mix S C H) h := fun b u e => by
  by_cases hb : b ∈ S
  · rw [mix_in hb] at e
    rcases hC b hb with z | ⟨o, z, g⟩
    · rw [z] at e; cases e
    · rw [z] at e; cases e
      exact ⟨g, o, g⟩
  · rw [mix_out hb] at e
    refine (x b u e).stay (fun _ _ _ q => q) (fun c q => ?_) fun c xs q => ?_
    · have : c ∉ S := fun z => by rcases hS c z with y | ⟨o, y⟩ <;> rw [y] at q <;> cases q
      rw [mix_out this]; exact q
    · have : c ∉ S := fun z => by rcases hS c z with y | ⟨o, y⟩ <;> rw [y] at q <;> cases q
      rw [mix_out this]; exact q
theorem env_mix (e : Env0 P w K mg base A outer s H) (hS : ∀ b ∈ S, H b = none ∨ ∃ o, H b = some (HO.cell o)) (hC : ∀ b ∈ S, C b = none ∨ ∃ o, C b = some (HO.cell o) ∧ s.heap.get? b = some o) (hB : ∀ b ∈ S, C b = none ∨ (base.get? b = none ∧ b ∉ frs outer)) : Env0 P w K mg base A outer s (mix S C H) where
  frames := e.frames
  mod := e.mod
  bs := fun b o g => ⟨(e.bs b o g).1, by
    by_cases hb : b ∈ S
    · rw [mix_in hb]
      rcases hB b hb with z | ⟨z, _⟩
      · exact z
      · rw [z] at g; cases g
    · rw [mix_out hb]; exact (e.bs b o g).2⟩
  bsz := e.bsz
  funs := e.funs
  frf := fun b g => by
    by_cases hb : b ∈ S
    · rw [mix_in hb]
      rcases hB b hb with z | ⟨_, z⟩
      · exact z
      · exact absurd g z
    · rw [mix_out hb]; exact e.frf b g
  hok := hok_mix e.hok hS hC
  bare := e.bare
/-- the cells, laid for a call, are taken out behind it -/
theorem ce_show {Q Q' : VK} {u : Value} (hS : ∀ b ∈ S, H b = none) (hC : ∀ b ∈ S, ∃ o, C b = some (HO.cell o) ∧ s.heap.get? b = some o) (hF : ∀ b ∈ S, b ∉ frs outer) (x : CE outer P w (mix S C H) s Q' u s')
    (hQ : ∀ v H', (∀ b ∈ S, H' b = C b) → Q' v H' → Q v (mix S emp H')) : CE outer P w H s Q u s' := by
  obtain ⟨v, H', os, bare, un, hok, r, q⟩ := x
  have st : ∀ b ∈ S, H' b = C b := fun b hb => by
    obtain ⟨o, e, _⟩ := hC b hb
    rw [e]
    exact un.frzs b _ _ ((mix_in hb).trans e)
  have hc : ∀ b ∈ S, ∃ o, H' b = some (HO.cell o) := fun b hb => let ⟨o, e, _⟩ := hC b hb; ⟨o, (st b hb).trans e⟩
  have out : ∀ {b : Addr} {o : HO}, H b = some o → b ∉ S := fun {b o} e z => by rw [hS b z] at e; cases e
  refine ⟨v, mix S emp H', os, bare, ⟨fun b o g n f x => ?_, fun b o g n f x => ?_, fun b o g n x => ?_, un.there, fun b xs e => ?_, fun b o z e => ?_, fun b ps e => ?_⟩, hok_mix hok (fun b hb => .inr (hc b hb)) (fun b hb => .inl rfl), r, hQ v H' st q⟩
  · by_cases hb : b ∈ S
    · obtain ⟨o', e, g'⟩ := hC b hb
      obtain ⟨z, _⟩ := hok b _ ((st b hb).trans e)
      rw [g] at g'; cases g'
      exact z
    · exact un.keep b o g ((mix_out hb).trans n) f x
  · have hb : b ∉ S := fun z => hF b z f
    exact un.slot b o g ((mix_out hb).trans n) f x
  · by_cases hb : b ∈ S
    · exact mix_in hb
    · exact (mix_out hb).trans (un.free b o g ((mix_out hb).trans n) x)
  · exact (mix_out (out e)).trans (un.tups b xs ((mix_out (out e)).trans e))
  · exact (mix_out (out e)).trans (un.frzs b o z ((mix_out (out e)).trans e))
  · obtain ⟨more, z⟩ := un.tbls b ps ((mix_out (out e)).trans e)
    exact ⟨more, (mix_out (out e)).trans z⟩
/-- the cells, taken out for a closure's call, lie there again behind it -/
theorem ce_hide {Q Q' : VK} {u : Value} (hS : ∀ b ∈ S, ∃ o, H b = some (HO.cell o)) (hH : HOk P w H s.heap) (hF : ∀ b ∈ frs outer, H b = none) (x : CE outer P w (mix S emp H) s Q' u s')
    (hQ : ∀ v H', (∀ b ∈ S, H' b = none) → Q' v H' → Q v (mix S H H')) : CE outer P w H s Q u s' := by
  obtain ⟨v, H', os, bare, un, hok, r, q⟩ := x
  have nf : ∀ b ∈ S, b ∉ frs outer := fun b hb z => by obtain ⟨o, e⟩ := hS b hb; rw [hF b z] at e; cases e
  have at_ : ∀ b ∈ S, ∃ o, H b = some (HO.cell o) ∧ s.heap.get? b = some o := fun b hb => let ⟨o, e⟩ := hS b hb; ⟨o, e, (hH b _ e).1⟩
  have no : ∀ b ∈ S, H' b = none := fun b hb => let ⟨o, _, g⟩ := at_ b hb; un.free b o g (mix_in hb) (by simp)
  have kp : ∀ b ∈ S, ∃ o, H b = some (HO.cell o) ∧ s'.heap.get? b = some o := fun b hb => let ⟨o, e, g⟩ := at_ b hb; ⟨o, e, un.keep b o g (mix_in hb) (nf b hb) (by simp)⟩
  have out : ∀ {b : Addr}, H b = none → b ∉ S := fun {b} e z => by obtain ⟨o, y⟩ := hS b z; rw [e] at y; cases y
  refine ⟨v, mix S H H', os, bare, ⟨fun b o g n f x => un.keep b o g ((mix_out (out n)).trans n) f x, fun b o g n f x => un.slot b o g ((mix_out (out n)).trans n) f x, fun b o g n x => (mix_out (out n)).trans (un.free b o g ((mix_out (out n)).trans n) x), un.there, fun b xs e => ?_, fun b o z e => ?_, fun b ps e => ?_⟩,
    hok_mix hok (fun b hb => .inl (no b hb)) (fun b hb => .inr (kp b hb)), r, hQ v H' no q⟩
  · have hb : b ∉ S := fun z => by obtain ⟨o, y⟩ := hS b z; rw [e] at y; cases y
    exact (mix_out hb).trans (un.tups b xs ((mix_out hb).trans e))
  · by_cases hb : b ∈ S
    · exact (mix_in hb).trans e
    · exact (mix_out hb).trans (un.frzs b o z ((mix_out hb).trans e))
  · have hb : b ∉ S := fun z => by obtain ⟨o, y⟩ := hS b z; rw [e] at y; cases y
    obtain ⟨more, z⟩ := un.tbls b ps ((mix_out hb).trans e)
    exact ⟨more, (mix_out hb).trans z⟩
end
end VL

set_option maxHeartbeats 4000000
/-! The value layer: the two calls, a def handed on, a closure called. -/
namespace VL
open PySem PySem.Spec PyProof.Rows L2 NdefX LamX
variable [Tabs]
/-- what is known of a frame's cells as they are laid -/
structure CmOk (cells : List (Str × Addr)) (sc : Scope) (N : List Str) (σ : L2.St) (C : Hp) : Prop where
  inj : ∀ x y c, cells.lookup x = some c → cells.lookup y = some c → x = y
  has : ∀ x, sc.names.lookup x = some .cell ∨ sc.names.lookup x = some .free → ∃ c, cells.lookup x = some c
  at_ : ∀ x c, cells.lookup x = some c → ∃ (o : Obj) (v : Option Value), C c = some (HO.cell o) ∧ o.data = .cell v ∧
    (sc.names.lookup x = some .cell → ∀ (j : Nat) (z : V), N[j]? = some x → σ[j]? = some (some z) → ∃ u, v = some u ∧ RelV z u)
def tCallC (cells : List (Str × Addr)) (sc : Scope) (N : List Str) (sp : Sp) (t : TA) : TE := fun σ H Q => t σ H fun vs H1 => ∀ C : Hp, CmOk cells sc N σ C → (∀ b ∈ cellL cells, H1 b = none) →
  sp vs (mix (cellL cells) C H1) (fun v H' => (∀ b ∈ cellL cells, H' b = C b) → Q v (mix (cellL cells) emp H')) fun _ _ _ => False
omit [Tabs] in
theorem cx_no {P : Program} {w : World} {outer : List Env} {H : Hp} {s s' : Shared} {e : Value} (h : L2.CX P w outer H s (fun _ _ _ => False) e s') : False := by
  obtain ⟨_, _, _, _, _, _, _, _, _, _, _, _, z⟩ := h
  exact z
section
variable {X : Cx}
theorem cells_cm {pins : List (Addr × Obj)} {σ : L2.St} {H : Hp} {s : Shared} (I : Inv X pins σ H s) : CmOk X.env.cells X.env.scope X.N σ fun b => (s.heap.get? b).map HO.cell where
  inj := I.ok.inj
  has := fun x h => I.ok.has x h
  at_ := fun x c h => by
    obtain ⟨v, o, g, d⟩ := I.cell x c h
    refine ⟨o, v, by show (s.heap.get? c).map HO.cell = _; rw [g]; rfl, d, fun kc j z hj hz => ?_⟩
    obtain ⟨m, _, hl⟩ := I.loc
    obtain ⟨u, r, l⟩ := hl j x z hj hz (.inr (.inl kc))
    rcases l with ⟨k, _⟩ | ⟨_, c', h', o', g', d'⟩
    · have k' : X.env.scope.names.lookup x = some .local := k
      rw [kc] at k'; cases k'
    · rw [h] at h'; cases h'
      rw [g] at g'; cases g'
      rw [d] at d'; cases d'
      exact ⟨u, rfl, r⟩
theorem cell_fresh {pins : List (Addr × Obj)} {σ : L2.St} {H : Hp} {s : Shared} (I : Inv X pins σ H s) (hfn : ∀ x, X.fn x = true) {b : Addr} (hb : b ∈ cellL X.env.cells) : X.base.get? b = none ∧ b ∉ frs X.stack := by
  obtain ⟨x, hx⟩ := mem_cellL.mp hb
  have hge := I.ok.cab x b (hfn x) hx
  refine ⟨?_, fun z => ?_⟩
  · cases q : X.base.get? b with
    | none => rfl
    | some o => exact absurd (Heap.lt_size (I.ok.bs b o q).1) (Nat.not_lt.mpr hge)
  · rcases List.mem_cons.mp (I.stkSub b z) with e | z
    · exact I.cne x b hx e
    · obtain ⟨_, o, ho, _⟩ := I.ok.funs.mem z
      exact absurd (Heap.lt_size ho) (Nat.not_lt.mpr hge)
theorem pe_callC {k : Nat} {f : Addr} {fd : FuncData} {ps : List Str} {sp : Sp} {x : Str} {e : Expr} {es : List Expr} {p pos : Pos} {t : TA} (F : FnOk X.prog X.w X.K X.mg X.base (L2.CX X.prog X.w) k f fd ps sp) (hr : Room k X.A) (hg : Gl X x) (hm : X.mg x = some (.ref f)) (hk : PySem.W.keepIn X.K (.ref f) = true)
    (hb : Binds X.K fd ps []) (hfn : ∀ x, X.fn x = true) (ha : PA X (e :: es) t) (hdb : (x == ("__debug__" : Str)) = false := by decide)
    (he : starEach (e :: es) X.env = (false, eval e X.env) :: starEach es X.env := by rfl) (hpl : (backTo pos (starEach es X.env)).any (·.1) = false := by rfl) :
    PE X (.Call (.Name x p) (e :: es) [] pos) (tCallC X.env.cells X.env.scope X.N sp t) := by
  refine ⟨fun pins s σ H Q I hh => ?_⟩
  refine wpAny_Call_Name_kw (ld_glob I hg hm ?_ hdb)
  refine PySem.W.callWith_K (h₀ := X.base) I.ok.mod.kin hk (thn (ha.run pos pins s σ H _ I hh) fun us s1 ⟨vs, H1, J, r, q⟩ => ⟨J.kIn, ?_⟩) he hpl
  have hno : ∀ b ∈ cellL X.env.cells, H1 b = none := fun b hb => let ⟨y, hy⟩ := mem_cellL.mp hb; J.freeC y b hy
  have q := q _ (cells_cm J) hno
  have hl : us.length = ps.length := by rw [← r.length]; exact F.len _ _ _ _ q
  have hcell : ∀ b ∈ cellL X.env.cells, ∃ o, ((s1.heap.get? b).map HO.cell) = some (HO.cell o) ∧ s1.heap.get? b = some o := fun b hb => by
    obtain ⟨y, hy⟩ := mem_cellL.mp hb
    obtain ⟨v, o, g, d⟩ := J.cell y b hy
    exact ⟨o, by rw [g]; rfl, g⟩
  have e0 := env_mix (C := fun b => (s1.heap.get? b).map HO.cell) J.env0 (fun b hb => .inl (hno b hb)) (fun b hb => .inr (hcell b hb)) fun b hb => .inr (cell_fresh J hfn hb)
  have bd := hb s1 us J.kIn (by rw [List.append_nil]; exact hl)
  rw [List.append_nil] at bd
  refine wpAny_call (codeAny_mono (F.run X.A X.stack s1 _ ⟨us, []⟩ us vs _ _ hr e0 bd r q) fun rs s' hq => ?_)
  cases rs with
  | error e => exact (cx_no hq).elim
  | ok fl =>
    cases fl with
    | ret u => exact J.after (ce_show hno hcell (fun b hb => (cell_fresh J hfn hb).2) hq fun v H' h1 h2 => h2 h1)
    | next => exact False.elim hq
    | brk => exact False.elim hq
    | cont => exact False.elim hq
/-! ### functions of either kind -/
theorem fnG_get {P : Program} {w : World} {H : Hp} {h : Heap} {f : Addr} {F : FW} {name qual : Str} {cl : List (Str × Addr)} {c : Addr} (x : HOk P w H h) (e : H f = some (FnG f F name qual cl c)) : ∃ (od : Option Addr) (sl : Array (Option Value)) (doc pm ctv : Value),
    h.get? f = some (⟨.type "function", od, .func { name, qualname := qual, params := F.1, body := F.2.1, scope := F.2.2, globals := mainGlobals, closure := cl, defaults := .none, kwdefaults := .none, doc, pyModule := pm, annotations := none, code := .ref c, closureTuple := ctv, builtins := builtinsNs }, sl⟩ : Obj) := (x f _ e).1
theorem fnG_stmts {f : Addr} {name qual : Str} {pa : Arguments} {b : List Stmt} {sc : Scope} {cl : List (Str × Addr)} {c : Addr} : FnG f (pa, .stmts b, sc) name qual cl c = FnO f ⟨name, qual, pa, b, sc, cl, c⟩ := rfl
/-- a function's promise -/
structure GOk (P : Program) (w : World) (K : PySem.W.Frag) (mg : Str → Option Value) (base : Heap) (k : Nat) (f : Addr) (F : FW) (name qual : Str) (cl : List (Str × Addr)) (c : Addr) (ps fr : List Str) (sp : List (Option V) → Sp) : Prop where
  go : ∀ (A : Around) (outer : List Env) (s : Shared) (H : Hp) (us : List Value) (vs : List V) (ws : List (Option V)) (Q : VK) (E : XK), Room k A → Env0 P w K mg base A outer s H → H f = some (FnG f F name qual cl c) → H c = some (CodeO c qual) → CellsAt cl fr ws s.heap H → Vals vs us → sp ws vs H Q E →
    codeAny (model P w) A (.call (.ref f) ⟨us, []⟩) (CR (L2.CX P w) outer P w H s Q E) s
theorem gok_nok {P : Program} {w : World} {K : PySem.W.Frag} {mg : Str → Option Value} {base : Heap} {k : Nat} {f c : Addr} {st : Stmt} {name qual : Str} {cl : List (Str × Addr)} {ps fr : List Str} {sp : List (Option V) → Sp} (o : NOk P w K mg base (L2.CX P w) k f (NF.of st name qual cl c) ps fr sp) : GOk P w K mg base k f (fwOf st) name qual cl c ps fr sp :=
  ⟨fun A outer s H us vs ws Q E hr e0 hf hc C r h => o.run A outer s H us vs ws Q E hr e0 hf hc C r h⟩
theorem GOk.mono {P : Program} {w : World} {K : PySem.W.Frag} {mg : Str → Option Value} {base : Heap} {k j : Nat} {f c : Addr} {F : FW} {name qual : Str} {cl : List (Str × Addr)} {ps fr : List Str} {sp : List (Option V) → Sp} (o : GOk P w K mg base j f F name qual cl c ps fr sp) (h : j ≤ k) : GOk P w K mg base k f F name qual cl c ps fr sp :=
  ⟨fun A outer s H us vs ws Q E hr => o.go A outer s H us vs ws Q E (hr.mono h)⟩
theorem GOk.imp {P : Program} {w : World} {K : PySem.W.Frag} {mg : Str → Option Value} {base : Heap} {k : Nat} {f c : Addr} {F : FW} {name qual : Str} {cl : List (Str × Addr)} {ps fr : List Str} {sp sp' : List (Option V) → Sp} (o : GOk P w K mg base k f F name qual cl c ps fr sp) (h : ∀ ws vs H Q E, sp' ws vs H Q E → sp ws vs H Q E) : GOk P w K mg base k f F name qual cl c ps fr sp' :=
  ⟨fun A outer s H us vs ws Q E hr e0 hf hc C r q => o.go A outer s H us vs ws Q E hr e0 hf hc C r (h _ _ _ _ _ q)⟩
/-- a closure that the i-th slot holds is called -/
def tCallP (X : Cx) (i j : Nat) (t : TA) : TE := fun σ H Q => ∃ (f : Addr) (F0 : FW) (n0 q0 : Str) (l0 : List (Str × Addr)) (c0 : Addr), σ[i]? = some (some (.ref f)) ∧ H f = some (FnG f F0 n0 q0 l0 c0) ∧ t σ H fun vs H1 => ∃ (F : FW) (name qual : Str) (cl : List (Str × Addr)) (c : Addr) (k : Nat) (ps fr : List Str) (sp : List (Option V) → Sp) (cvs : List V),
  H1 f = some (FnG f F name qual cl c) ∧ H1 c = some (CodeO c qual) ∧ GOk X.prog X.w X.K X.mg X.base k f F name qual cl c ps fr sp ∧ k ≤ j ∧ CellG H1 cl fr cvs ∧
  sp (cvs.map some) vs (mix (cellL cl) emp H1) (fun v H' => (∀ b ∈ cellL cl, H' b = none) → Q v (mix (cellL cl) H1 H')) fun _ _ _ => False
theorem cells_at {P : Program} {w : World} {cl : List (Str × Addr)} {fr : List Str} {cvs : List V} {h : Heap} {H : Hp} (x : HOk P w H h) (c : CellG H cl fr cvs) : CellsAt cl fr (cvs.map some) h (mix (cellL cl) emp H) where
  len := by rw [List.length_map]; exact c.len
  all := fun y b hy => by
    obtain ⟨o, v, e, d⟩ := c.all y b hy
    exact ⟨mix_in (mem_cellL.mpr ⟨y, hy⟩), v, o, (x b _ e).1, d⟩
  inj := c.inj
  has := fun i y hy => by
    have hi : i < cvs.length := by rw [c.len]; exact (List.getElem?_eq_some_iff.mp hy).1
    obtain ⟨b, o, u, h1, h2, h3, h4⟩ := c.has i y cvs[i] hy (List.getElem?_eq_getElem hi)
    refine ⟨b, h1, fun v hv => ?_⟩
    rw [List.getElem?_map, List.getElem?_eq_getElem hi] at hv
    cases hv
    exact ⟨u, h4, o, (x b _ h2).1, h3⟩
theorem fnG_at {X : Cx} {pins : List (Addr × Obj)} {σ : L2.St} {H : Hp} {s : Shared} {f : Addr} {F : FW} {name qual : Str} {cl : List (Str × Addr)} {c : Addr} (I : Inv X pins σ H s) (e : H f = some (FnG f F name qual cl c)) : PySem.W.FnAt f s.heap := by
  obtain ⟨od, sl, doc, pm, ctv, ho⟩ := fnG_get I.hok e
  exact ⟨_, od, _, sl, ho⟩
theorem pe_callP {i j : Nat} {x : Str} {e : Expr} {es : List Expr} {p pos : Pos} {t : TA} (hr : Room j X.A) (hN : X.N[i]? = some x) (hv : Vis X.env.scope x) (ha : PA X (e :: es) t)
    (hdb : (x == ("__debug__" : Str)) = false := by decide) (hcd : (x == ("__classdict__" : Str)) = false := by decide)
    (he : starEach (e :: es) X.env = (false, eval e X.env) :: starEach es X.env := by rfl) (hpl : (backTo pos (starEach es X.env)).any (·.1) = false := by rfl) :
    PE X (.Call (.Name x p) (e :: es) [] pos) (tCallP X i j t) := by
  refine ⟨fun pins s σ H Q I hh => ?_⟩
  obtain ⟨f, F0, n0, q0', l0, c0, hs, hf, ht⟩ := hh
  refine wpAny_Call_Name_kw (thn ((pe_var (pos := p) hN hv hdb hcd).run pins s σ H (fun v H1 => v = .ref f ∧ H1 = H) I ⟨.ref f, hs, rfl, rfl⟩) fun u s0 ⟨v, H0, I0, r0, q0⟩ => ?_)
  obtain ⟨ev, eH⟩ := q0
  subst ev; subst eH
  obtain rfl : u = Value.ref f := r0
  refine PySem.W.callWith_F (first := []) (fnG_at I0 hf) (thn (ha.run pos pins s0 σ _ _ I0 ht) fun us s1 ⟨vs, H1, J, r, q⟩ => ?_) he hpl
  obtain ⟨F, name, qual, cl, c, k, ps, fr, sp, cvs, h1, h2, Fn, hkj, cg, q⟩ := q
  refine ⟨fnG_at J h1, ?_⟩
  have hS : ∀ b ∈ cellL cl, ∃ o, H1 b = some (HO.cell o) := fun b hb => by
    obtain ⟨y, hy⟩ := mem_cellL.mp hb
    obtain ⟨o, v, e, d⟩ := cg.all y b hy
    exact ⟨o, e⟩
  have e0 := env_mix (C := emp) J.env0 (fun b hb => .inr (hS b hb)) (fun b hb => .inl rfl) fun b hb => .inl rfl
  have o1 : ∀ {b : Addr} {φ : Heap → Prop}, H1 b = some (.ext φ) → b ∉ cellL cl := fun {b φ} e z => by obtain ⟨o, y⟩ := hS b z; rw [e] at y; cases y
  refine wpAny_call (codeAny_mono (Fn.go X.A X.stack s1 _ us vs _ _ _ (hr.mono hkj) e0 ((mix_out (o1 h1)).trans h1) ((mix_out (o1 h2)).trans h2) (cells_at J.hok cg) r q) fun rs s' hq => ?_)
  cases rs with
  | error e => exact (cx_no hq).elim
  | ok fl =>
    cases fl with
    | ret u => exact J.after (ce_hide hS J.hok J.stkFree hq fun v H' h1 h2 => h2 h1)
    | next => exact False.elim hq
    | brk => exact False.elim hq
    | cont => exact False.elim hq
end
end VL

set_option maxHeartbeats 4000000
/-! The value layer: closures as values. -/
namespace VL
open PySem PySem.Spec PyProof.Rows L2 NdefX LamX
variable [Tabs]
mutual
/-- no closure within -/
def noC : D → Bool
  | .clo _ _ _ => false
  | .tup ds => noCL ds
  | .lst ds => noCL ds
  | .kt ds => noCL ds
  | .kl ds => noCL ds
  | .dK es => noCK es
  | .dT es => noCT es
  | .non => true
  | .bl _ => true
  | .int _ => true
  | .str _ => true
  | .raw _ => true
  | .gh _ => true
  | .fn _ _ _ => true
  | .dM es => noCM es
  | .exc _ fs => noCF fs
  | .ins _ fs => noCF fs
def noCL : List D → Bool
  | [] => true
  | d :: ds => noC d && noCL ds
def noCK : List (Key × D) → Bool
  | [] => true
  | (_, d) :: ds => noC d && noCK ds
def noCT : List (List Key × D) → Bool
  | [] => true
  | (_, d) :: ds => noC d && noCT ds
def noCM : List (GK × D) → Bool
  | [] => true
  | (_, d) :: ds => noC d && noCM ds
def noCF : List (Str × D) → Bool
  | [] => true
  | (_, d) :: ds => noC d && noCF ds
end
theorem noCM_map : ∀ {es : List (GK × D)}, noCM es = true → noCL (es.map (·.2)) = true
  | [], _ => by simp [noCL]
  | (k, d) :: es, h => by
    simp only [noCM, Bool.and_eq_true] at h
    simp only [List.map_cons, noCL, Bool.and_eq_true]
    exact ⟨h.1, noCM_map h.2⟩
theorem noCF_map : ∀ {es : List (Str × D)}, noCF es = true → noCL (es.map (·.2)) = true
  | [], _ => by simp [noCL]
  | (k, d) :: es, h => by
    simp only [noCF, Bool.and_eq_true] at h
    simp only [List.map_cons, noCL, Bool.and_eq_true]
    exact ⟨h.1, noCF_map h.2⟩
mutual
theorem noC_gk : ∀ k : GK, noC (gkD k) = true
  | .i _ => by simp [gkD, noC]
  | .s _ => by simp [gkD, noC]
  | .t ks => by simp only [gkD, noC]; exact noCL_gk ks
theorem noCL_gk : ∀ ks : List GK, noCL (gkDL ks) = true
  | [] => by simp [gkDL, noCL]
  | k :: ks => by simp only [gkDL, noCL, Bool.and_eq_true]; exact ⟨noC_gk k, noCL_gk ks⟩
end
theorem noCL_gkm : ∀ es : List (GK × D), noCL (es.map fun e => gkD e.1) = true
  | [] => by simp [noCL]
  | e :: es => by simp only [List.map_cons, noCL, Bool.and_eq_true]; exact ⟨noC_gk e.1, noCL_gkm es⟩
theorem noCK_map : ∀ {es : List (Key × D)}, noCK es = true → noCL (es.map (·.2)) = true
  | [], _ => by simp [noCL]
  | (k, d) :: es, h => by
    simp only [noCK, Bool.and_eq_true] at h
    simp only [List.map_cons, noCL, Bool.and_eq_true]
    exact ⟨h.1, noCK_map h.2⟩
theorem noCT_map : ∀ {es : List (List Key × D)}, noCT es = true → noCL (es.map (·.2)) = true
  | [], _ => by simp [noCL]
  | (k, d) :: es, h => by
    simp only [noCT, Bool.and_eq_true] at h
    simp only [List.map_cons, noCL, Bool.and_eq_true]
    exact ⟨h.1, noCT_map h.2⟩
theorem noCL_map {α : Type} {f : α → D} (h : ∀ x, noC (f x) = true) : ∀ xs : List α, noCL (xs.map f) = true
  | [] => by simp [noCL]
  | x :: xs => by simp [noCL, h x, noCL_map h xs]
theorem noCL_app : ∀ {ds es : List D}, noCL ds = true → noCL es = true → noCL (ds ++ es) = true
  | [], _, _, h => h
  | d :: ds, es, h1, h2 => by
    simp only [noCL, Bool.and_eq_true] at h1
    simp only [List.cons_append, noCL, Bool.and_eq_true]
    exact ⟨h1.1, noCL_app h1.2 h2⟩
theorem noCL_mem : ∀ {ds : List D} {d : D}, noCL ds = true → d ∈ ds → noC d = true
  | d :: ds, e, h, hm => by
    simp only [noCL, Bool.and_eq_true] at h
    rcases List.mem_cons.mp hm with rfl | hm
    · exact h.1
    · exact noCL_mem h.2 hm
def noR : Ret → Bool
  | .fz d => noC d
  | .tmp d => noC d
  | .sl _ => false
def Cells (S : List Addr) (G : Hp) : Prop := ∀ b ∈ S, G b = none ∨ ∃ o, G b = some (HO.cell o)
section
variable {K : PySem.W.Frag} {γ : List Addr} {G : Hp} {S : List Addr}
theorem cells_out (hS : Cells S G) {b : Addr} {o : HO} (h : G b = some o) (n : ∀ x, o ≠ HO.cell x) : mix S emp G b = some o := by
  refine (mix_out fun z => ?_).trans h
  rcases hS b z with y | ⟨x, y⟩
  · rw [h] at y; cases y
  · rw [h] at y; cases y; exact n x rfl
theorem sqL_out (hS : Cells S G) {a : Addr} {xs : List V} (h : SqL K G a xs) : SqL K (mix S emp G) a xs := by
  rcases h with (h | ⟨o, h⟩) | h
  · exact .inl (.inl (cells_out hS h fun x z => by cases z))
  · exact .inl (.inr ⟨o, cells_out hS h fun x z => by cases z⟩)
  · exact .inr h
theorem sqT_out (hS : Cells S G) {a : Addr} {xs : List V} (h : SqT K G a xs) : SqT K (mix S emp G) a xs := by
  rcases h with (h | ⟨o, h⟩) | h
  · exact .inl (.inl (cells_out hS h fun x z => by cases z))
  · exact .inl (.inr ⟨o, cells_out hS h fun x z => by cases z⟩)
  · exact .inr h
mutual
theorem Rep.out (hS : Cells S G) : ∀ {v : V} {d : D}, Rep K γ G v d → noC d = true → Rep K γ (mix S emp G) v d
  | _, _, .non, _ => .non
  | _, _, .bl b, _ => .bl b
  | _, _, .int i, _ => .int i
  | _, _, .str x, _ => .str x
  | _, _, .raw v, _ => .raw v
  | _, _, .gh h, _ => .gh h
  | _, _, .tup h r, z => .tup (cells_out hS h fun x z => by cases z) (RepL.out hS r (by simpa only [noC] using z))
  | _, _, .lst h r, z => .lst (cells_out hS h fun x z => by cases z) (RepL.out hS r (by simpa only [noC] using z))
  | _, _, .kt h r, z => .kt (sqT_out hS h) (RepL.out hS r (by simpa only [noC] using z))
  | _, _, .kl h r, z => .kl (sqL_out hS h) (RepL.out hS r (by simpa only [noC] using z))
  | _, _, .fn h1 h2 h3, _ => .fn h1 (cells_out hS h2 fun x z => by cases z) (cells_out hS h3 fun x z => by cases z)
  | _, _, .clo _ _ _ _ _, z => by simp [noC] at z
  | _, _, .dK h k r, z => .dK (cells_out hS h fun x z => by cases z) k (RepL.out hS r (noCK_map (by simpa only [noC] using z)))
  | _, _, .dT h k r, z => .dT (cells_out hS h fun x z => by cases z) k (RepL.out hS r (noCT_map (by simpa only [noC] using z)))
  | _, _, .dM h k n r1 r2, z => .dM (cells_out hS h fun x z => by cases z) k n (RepL.out hS r1 (noCL_gkm _)) (RepL.out hS r2 (noCM_map (by simpa only [noC] using z)))
  | _, _, .exc0 h, _ => .exc0 (cells_out hS h fun x z => by cases z)
  | _, _, .exc1 h h2 k r, z => .exc1 (cells_out hS h fun x z => by cases z) (cells_out hS h2 fun x z => by cases z) k (RepL.out hS r (noCF_map (by simpa only [noC] using z)))
  | _, _, .ins h k r, z => .ins (cells_out hS h fun x z => by cases z) k (RepL.out hS r (noCF_map (by simpa only [noC] using z)))
theorem RepL.out (hS : Cells S G) : ∀ {vs : List V} {ds : List D}, RepL K γ G vs ds → noCL ds = true → RepL K γ (mix S emp G) vs ds
  | _, _, .nil, _ => .nil
  | _, _, .cons h r, z => by
    simp only [noCL, Bool.and_eq_true] at z
    exact .cons (Rep.out hS h z.1) (RepL.out hS r z.2)
end
theorem ORep.out (hS : Cells S G) {o : HO} {d : D} (r : ORep K γ G o d) (z : noC d = true) : ORep K γ (mix S emp G) o d := by
  cases r with
  | lst r => exact .lst (r.out hS (by simpa only [noC] using z))
  | dK k r => exact .dK k (r.out hS (noCK_map (by simpa only [noC] using z)))
  | dT k r => exact .dT k (r.out hS (noCT_map (by simpa only [noC] using z)))
  | dM k n r1 r2 => exact .dM k n (r1.out hS (noCL_gkm _)) (r2.out hS (noCM_map (by simpa only [noC] using z)))
  | ins k r => exact .ins k (r.out hS (noCF_map (by simpa only [noC] using z)))
end
theorem tabs_out {S : List Addr} {H : Hp} (hS : Cells S H) (t : NdefX.TabsN Tabs.T H) : NdefX.TabsN Tabs.T (mix S emp H) := fun p hp => by
  obtain ⟨ps, h1, h2, h3⟩ := t p hp
  refine ⟨ps, cells_out hS h1 (fun x z => by cases z), h2, fun pos cv hc => ?_⟩
  obtain ⟨c, e1, e2⟩ := h3 pos cv hc
  exact ⟨c, e1, cells_out hS e2 fun x z => by cases z⟩
/-- a closure's promise: from what it captured, its arguments -/
def spN (K : PySem.W.Frag) (n : Nat) (g : List D → FV) : List (Option V) → Sp := fun ws vs H Q _ => ∃ (G : Hp) (γ : List Addr) (cvs : List V) (caps ds gs : List D) (Qr : Ret → List D → Prop), ws = cvs.map some ∧ RepL K γ G cvs caps ∧
  SOk K (w0 G H γ) (m0 gs) ∧ RepL K γ G vs ds ∧ ds.length = n ∧ g caps ds gs Qr (fun _ _ => False) ∧
  (∀ r gs' G' H' v, Aft K (w0 G H γ) (m0 gs) (w0 G' H' γ) (m0 gs') → RetOk K H (w0 G' H' γ) (m0 gs') v r → Qr r gs' → Q v H')
theorem spN_imp {K : PySem.W.Frag} {n : Nat} {g g' : List D → FV} (hg : ∀ caps ds gs Q Qe, g' caps ds gs Q Qe → g caps ds gs Q Qe) {ws : List (Option V)} {vs : List V} {H : Hp} {Q : VK} {E : XK} (h : spN K n g' ws vs H Q E) : spN K n g ws vs H Q E := by
  obtain ⟨G, γ, cvs, caps, ds, gs, Qr, a, b, c, d, e, f, k⟩ := h
  exact ⟨G, γ, cvs, caps, ds, gs, Qr, a, b, c, d, e, hg _ _ _ _ _ f, k⟩
theorem nok_ok {P : Program} {w : World} {K : PySem.W.Frag} {mg : Str → Option Value} {base : Heap} {F : NF} {f : Addr} {N ps fr : List Str} {k : Nat} {fb : FS} (S : NScope N ps fr F.scope)
    (hb : ∀ (doc pm ctv : Value) (us : List Value), us.length = ps.length → bindArgs (F.fd doc pm ctv) ⟨us, []⟩ = pure (ps.zip us))
    (hbody : ∀ (A : Around) (outer : List Env) (s : Shared) (H : Hp) (E : XK), Room k (A.deeper (envF F f s.heap.objs.size)) → VSs (ncx (L2.CX P w) P w K mg base N F f A outer s H E) (fun cls d _ H => E cls d H) F.body fb) :
    NOk P w K mg base (L2.CX P w) (k + 1) f F ps fr (spN K ps.length fun caps ds => bodyV N.length fb (ds ++ caps)) := by
  refine nok_of S hb (fun ws vs H Q E h => ?_) fun A outer s H vs ws Q E hr hf hc hl h => ?_
  · obtain ⟨G, γ, cvs, caps, ds, gs, Qr, _, _, _, r, l, _⟩ := h
    rw [r.length]; exact l
  · obtain ⟨t, pt, st⟩ := (hbody A outer s H E hr).ex
    obtain ⟨G, γ, cvs, caps, ds, gs, Qr, rfl, rc, s0, r, hn, q, k1⟩ := h
    refine ⟨t, pt, ?_⟩
    have e : startF N vs (cvs.map some) = L2.start N (vs ++ cvs) := by
      unfold startF L2.start
      rw [List.map_append, List.append_assoc, List.length_append, List.length_map, Nat.sub_sub]
    rw [e]
    have hgs : gs.length = γ.length := s0.gl
    refine st ⟨G, H, γ, L2.start N (vs ++ cvs)⟩ (padM N.length (ds ++ caps) gs) _ _ (padM_ok s0 (r.append rc)) q ⟨fun m' w' a' q' => ?_, fun r' m' w' v a' rr q' => ?_, fun _ _ _ q' => q'.elim, fun _ _ _ q' => q'.elim, fun xc m' w' d a' x' q' => q'.2.elim⟩
    · exact k1 (.fz .non) _ w'.G w'.H .non (body_end hgs a' q'.1) .non q'.2
    · obtain ⟨r2, e2, c2, q2⟩ := bindO_elim q'
      exact k1 r2 _ w'.G w'.H v (body_end hgs a' c2) (body_ret hgs a' rr e2 c2) q2
/-- a def that makes defs: its reading knows its cells -/
theorem fn_okC {P : Program} {w : World} {K : PySem.W.Frag} {mg : Str → Option Value} {base : Heap} {x qual : Str} {st : Stmt} {f : Addr} {fd : FuncData} {N ps : List Str} {k : Nat} {fb : List (Str × Addr) → FS} {g : FV} {cc : Value} (F : L2.Fun K x qual st f fd) (S : FnScope N ps (defScope st))
    (hcc : ∀ o fd', K.lookup f = some o → o.data = .func fd' → fd'.code = cc)
    (hbody : ∀ (A : Around) (outer : List Env) (s : Shared) (H : Hp) (E : XK), Room k (A.deeper (envOfC qual (defScope st) s.heap.objs.size f cc)) → VSs (cxOf (L2.CX P w) P w K mg base N qual (defScope st) f cc A outer s H E) (fun cls d _ H => E cls d H) (defBody st) (fb (cxOf (L2.CX P w) P w K mg base N qual (defScope st) f cc A outer s H E).env.cells))
    (hg : ∀ cs ds gs Q Qe, g ds gs Q Qe → bodyV N.length (fb cs) ds gs Q Qe) :
    FnOk P w K mg base (L2.CX P w) (k + 1) f fd ps (spV K ps.length g) := by
  obtain ⟨oc, od, kV, doc, pm, an, cdv, ct, osl, rfl, lk, hcd⟩ := F.ex
  have ecc : cdv = cc := hcc _ _ lk rfl
  subst ecc
  refine fn_of lk hcd S (fun vs H Q E h => spV_len h) fun A outer s H vs Q E hr h => ?_
  obtain ⟨t, pt, stp⟩ := (hbody A outer s H E hr).ex
  refine ⟨t, pt, ?_⟩
  obtain ⟨G, γ, ds, gs, Qr, Qe, s0, r, hl, q, k1, k2⟩ := spV_imp (hg (cxOf (L2.CX P w) P w K mg base N qual (defScope st) f cdv A outer s H E).env.cells) h
  have hgs : gs.length = γ.length := s0.gl
  refine stp ⟨G, H, γ, L2.start N vs⟩ (padM N.length ds gs) _ _ (padM_ok s0 r) q ⟨fun m' w' a' q' => ?_, fun r' m' w' v a' rr q' => ?_, fun _ _ _ q' => q'.elim, fun _ _ _ q' => q'.elim, fun xc m' w' d a' x' q' => ?_⟩
  · exact k1 (.fz .non) _ w'.G w'.H .non (body_end hgs a' q'.1) .non q'.2
  · obtain ⟨r2, e2, c2, q2⟩ := bindO_elim q'
    exact k1 r2 _ w'.G w'.H v (body_end hgs a' c2) (body_ret hgs a' rr e2 c2) q2
  · exact k2 xc _ w'.G w'.H d (body_end hgs a' q'.1) (body_exc hgs a' q'.1 x') q'.2
end VL

set_option maxHeartbeats 4000000
/-! The value layer: a def made in a def; it is handed on; it is called. -/
namespace VL
open PySem PySem.Spec PyProof.Rows L2 NdefX LamX
variable [Tabs]
theorem made_ok {K : PySem.W.Frag} {w : Wd} {m : M} {F : FW} {q name qual : Str} {n : Nat} {cs : List (Str × Addr)} {f c' : Addr} {H1 : Hp} (s : SOk K w m) (nth : NthFn K q n F) (eN : ExtN w.H H1) (nn : ∀ b, H1 b = none → w.H b = none) (T1 : TabsN Tabs.T H1) (f0 : w.H f = none)
    (f1 : H1 f = some (FnG f F name qual (cloFrom cs F.2.2.names []) c')) (c1 : H1 c' = some (CodeO c' qual)) : ∃ w1 : Wd, w1.σ = w.σ ∧ w1.H = H1 ∧ Aft K w m w1 m ∧ Rep K w1.γ w1.G (.ref f) (.fn q n cs) := by
  have ntG := s.tb.2
  have inG : ∀ b o, w.G b = some o → H1 b = some o := fun b o e => eN b o (s.sub b o e) fun ps z => ntG b ps (by rw [e, z])
  have hf1 : ∃ φ, H1 f = some (.ext φ) := ⟨_, f1⟩
  have hc1 : ∃ φ, H1 c' = some (.ext φ) := ⟨_, c1⟩
  have hc2 : ∃ qq, H1 c' = some (CodeO c' qq) := ⟨_, c1⟩
  let w1 : Wd := ⟨fun b => if b = f ∨ b = c' then H1 b else w.G b, H1, w.γ, w.σ⟩
  have gIn : ∀ {b : Addr}, (b = f ∨ b = c') → w1.G b = H1 b := fun h => if_pos h
  have gOut : ∀ {b : Addr}, ¬ (b = f ∨ b = c') → w1.G b = w.G b := fun h => if_neg h
  have gg : Ext w.G w1.G := fun b o e => by
    by_cases hb : b = f ∨ b = c'
    · exact (gIn hb).trans (inG b o e)
    · exact (gOut hb).trans e
  have plain : ∀ {b : Addr} {o : HO}, w.H b = some o → ¬ Odd o → ¬ (b = f ∨ b = c') ∧ H1 b = some o := fun {b o} e n => by
    have e1 := eN b o e fun ps z => n (.inr (.inl ⟨ps, z⟩))
    refine ⟨?_, e1⟩
    rintro (rfl | rfl)
    · rw [f0] at e; cases e
    · obtain ⟨qq, z⟩ := hc2
      rw [z] at e1; cases e1
      exact n (.inl ⟨_, _, rfl⟩)
  have a1 : Aft K w m w1 m := by
    refine ⟨⟨fun b o e => ?_, s.len, fun j d q => ?_, fun j d q => ?_, s.inj, s.gl, fun j b d q1 q2 => ?_, s.gnd, T1, fun b ps e => ?_⟩, ⟨gg, fun b o e _ nt => eN b o e nt, fun b o e => ?_, fun b e => .inl e, fun b o e => ?_, Pre.refl _⟩⟩
    · by_cases hb : b = f ∨ b = c'
      · rw [gIn hb] at e; exact e
      · rw [gOut hb] at e; exact inG b o e
    · obtain ⟨v, e1, e2⟩ := s.val j d q
      exact ⟨v, e1, e2.mono (Pre.refl _) gg⟩
    · obtain ⟨b, o, e1, e2, e3, e4, e5⟩ := s.own j d q
      obtain ⟨n1, n2⟩ := plain e4 e5.odd
      exact ⟨b, o, e1, (gOut n1).trans e2, e3, n2, e5.mono (Pre.refl _) gg⟩
    · obtain ⟨e2, o, e4, e5⟩ := s.gh j b d q1 q2
      obtain ⟨n1, n2⟩ := plain e4 e5.odd
      exact ⟨(gOut n1).trans e2, o, n2, e5.mono (Pre.refl _) gg⟩
    · by_cases hb : b = f ∨ b = c'
      · rw [gIn hb] at e
        rcases hb with rfl | rfl
        · obtain ⟨φ, z⟩ := hf1; rw [z] at e; cases e
        · obtain ⟨φ, z⟩ := hc1; rw [z] at e; cases e
      · rw [gOut hb] at e; exact ntG b ps e
    · by_cases hb : b = f ∨ b = c'
      · rcases none_or (w.H b) with z | ⟨u, z⟩
        · exact .inr (.inr (.inl z))
        · refine .inr (.inr (.inr ⟨u, z, Classical.byContradiction fun n => ?_⟩))
          exact (plain z n).1 hb
      · rw [gOut hb] at e; exact .inl e
    · rcases none_or (H1 b) with z | ⟨u, z⟩
      · have y := nn b z
        rw [e] at y; cases y
      · exact ⟨u, z⟩
  have r : Rep K w1.γ w1.G (.ref f) (.fn q n cs) := .fn nth ((gIn (.inl rfl)).trans f1) ((gIn (.inr rfl)).trans c1)
  exact ⟨w1, rfl, rfl, a1, r⟩
section
variable {X : Cx} {W : WX}
/-- «def name(..): ..» in a body: the slot holds a function that knows the frame's cells cs -/
def sDef (i : Nat) (q : Str) (n : Nat) (cs : List (Str × Addr)) : FS := fun E m => i < m.env.length ∧ E.nx (m.set i (.val (.fn q n cs)))
theorem vs_def (i n : Nat) {q : Str} {st : Stmt} {nm : Nat → Nat → Str} {c P : Addr} {name : Str} {pos : Pos} (nth : NthFn X.K q n (fwOf st)) (TB : LamX.TabB X.base X.mg c P) (hm : (P, nm) ∈ Tabs.T) (hu : ∀ p ∈ (Tabs.T : List NTab), p.1 = P → p.2 = nm)
    (hst : st = .FunctionDef name (C8.fnArgs st) (C8.fnBody st) [] none [] (C8.fnScope st) none name pos) (hcode : X.env.code = .ref c) (hn : nm pos.line pos.col = X.env.qual ++ name)
    (hfree : ∀ y ∈ (C8.fnScope st).names, y.2 = .free → X.env.scope.names.lookup y.1 = some .cell ∨ X.env.scope.names.lookup y.1 = some .free) (hd0 : (C8.fnArgs st).defaults = []) (hk0 : (C8.fnArgs st).kw_defaults = []) (ha : annTrees (C8.fnArgs st) none X.env = [])
    (hN : X.N.Nodup) (hi : X.N[i]? = some name) (hx : Loc X.env.scope name) (hf : X.fn name = true ∨ X.env.scope.names.lookup name = some .local) : VS X W st (sDef i q n X.env.cells) := by
  refine ⟨⟨_, ps_ndefMS hst TB hcode hm hn hu hfree hd0 hk0 ha hN hi hx hf, fun w m E D s h k => ⟨s.tb.1, fun f c' H1 eN nn T1 f0 f1 c1 => ?_⟩⟩⟩
  obtain ⟨w1, e1, e2, a1, r⟩ := made_ok (cs := X.env.cells) s nth eN nn T1 f0 f1 c1
  obtain ⟨s2, st2⟩ := a1.ok.setVal (i := i) (by rw [e1, ← s.len]; exact h.1) r
  have z := k.nx _ (w1.slot i (.ref f)) (a1.trans ⟨s2, st2⟩) h.2
  have e3 : (w1.slot i (.ref f)).σ = w.σ.set i (some (.ref f)) := by show w1.σ.set i _ = _; rw [e1]
  have e4 : (w1.slot i (.ref f)).H = H1 := e2
  rw [e3, e4] at z
  exact z

/-! ### handed on -/
/-- each function among the arguments knows the cells cs -/
def FnsAt (cs : List (Str × Addr)) : List D → Prop
  | [] => True
  | .fn _ _ cs' :: ds => cs' = cs ∧ FnsAt cs ds
  | _ :: ds => FnsAt cs ds
def capsOf (m : M) : List Nat → Option (List D)
  | [] => some []
  | j :: js => match m.env[j]? with
    | some (.val d) => (capsOf m js).map (d :: ·)
    | _ => none
def jsOf (tbl : List (Str × Nat × List Nat)) (q : Str) (n : Nat) : Option (List Nat) := match tbl with
  | [] => none
  | (q', n', js) :: r => if q' = q ∧ n' = n then some js else jsOf r q n
def conv1 (tbl : List (Str × Nat × List Nat)) (m : M) : D → Option D
  | .fn q n _ => match jsOf tbl q n with
    | some js => (capsOf m js).map (.clo q n ·)
    | none => none
  | d => some d
def convL (tbl : List (Str × Nat × List Nat)) (m : M) : List D → Option (List D)
  | [] => some []
  | d :: ds => match conv1 tbl m d with
    | some d' => (convL tbl m ds).map (d' :: ·)
    | none => none
/-- the table of what the defs capture -/
def TblOk (X : Cx) (tbl : List (Str × Nat × List Nat)) : Prop := ∀ q n js (F : FW), jsOf tbl q n = some js → NthFn X.K q n F →
  js.map (fun j => X.N[j]?) = (frS F.2.2).map some ∧ (∀ y ∈ frS F.2.2, X.env.scope.names.lookup y = some .cell) ∧ ∀ y ∈ F.2.2.names, y.2 = .free → X.env.scope.names.lookup y.1 = some .cell ∨ X.env.scope.names.lookup y.1 = some .free
theorem capsOf_ok {K : PySem.W.Frag} {w : Wd} {m : M} (s : SOk K w m) : ∀ {js : List Nat} {caps : List D}, capsOf m js = some caps → ∃ cvs : List V, RepL K w.γ w.G cvs caps ∧ js.map (fun j => w.σ[j]?) = cvs.map fun v => some (some v)
  | [], _, h => by cases h; exact ⟨[], .nil, rfl⟩
  | j :: js, caps, h => by
    unfold capsOf at h
    split at h
    · rename_i d hd
      rw [Option.map_eq_some_iff] at h
      obtain ⟨r, h1, rfl⟩ := h
      obtain ⟨v, e, rv⟩ := s.val j d hd
      obtain ⟨cvs, r2, e2⟩ := capsOf_ok s h1
      exact ⟨v :: cvs, .cons rv r2, by rw [List.map_cons, List.map_cons, e, e2]⟩
    · cases h
theorem fr_mem {sc : Scope} {y : Str} (h : y ∈ frS sc) : (y, NameKind.free) ∈ sc.names := by
  unfold frS at h
  obtain ⟨p, hp, rfl⟩ := List.mem_map.mp h
  obtain ⟨h1, h2⟩ := List.mem_filter.mp hp
  have : p.2 = .free := by simpa using h2
  rw [← this]; exact h1
theorem lay_ext {S : List Addr} {C G H : Hp} (e : Ext G H) (hS : ∀ b ∈ S, H b = none) : Ext G (mix S C G) := fun b o g => by
  refine (mix_out fun z => ?_).trans g
  have y := e b o g
  rw [hS b z] at y; cases y
/-- what a made def captured, laid -/
theorem cellG_of {sc : Scope} {cells : List (Str × Addr)} {N : List Str} {σ : L2.St} {C G : Hp} {nsc : Scope} {js : List Nat} {cvs : List V} (cm : CmOk cells sc N σ C) (hS : ∀ b ∈ cellL cells, mix (cellL cells) C G b = C b)
    (hj : js.map (fun j => N[j]?) = (frS nsc).map some) (hc : ∀ y ∈ frS nsc, sc.names.lookup y = some .cell) (hf : ∀ y ∈ nsc.names, y.2 = .free → sc.names.lookup y.1 = some .cell ∨ sc.names.lookup y.1 = some .free)
    (hv : js.map (fun j => σ[j]?) = cvs.map fun v => some (some v)) : CellG (mix (cellL cells) C G) (cloFrom cells nsc.names []) (frS nsc) cvs := by
  have hfree : ∀ y ∈ nsc.names, y.2 = .free → ∃ c, cells.lookup y.1 = some c := fun y hy e => cm.has y.1 (hf y hy e)
  have sub : ∀ {y : Str} {c : Addr}, (cloFrom cells nsc.names []).lookup y = some c → cells.lookup y = some c := fun e => clo_cm hfree e
  have l1 : js.length = (frS nsc).length := by have := congrArg List.length hj; simpa using this
  have l2 : js.length = cvs.length := by have := congrArg List.length hv; simpa using this
  refine ⟨l2.symm.trans l1, fun x y c e1 e2 => cm.inj x y c (sub e1) (sub e2), fun y c e => ?_, fun i y v e1 e2 => ?_⟩
  · obtain ⟨o, v, h1, h2, _⟩ := cm.at_ y c (sub e)
    exact ⟨o, v, (hS c (mem_cellL.mpr ⟨y, sub e⟩)).trans h1, h2⟩
  · have hy := List.mem_of_getElem? e1
    obtain ⟨c, hcc⟩ := cm.has y (.inl (hc y hy))
    obtain ⟨o, u, h1, h2, h3⟩ := cm.at_ y c hcc
    have hi : i < js.length := by rw [l1]; exact (List.getElem?_eq_some_iff.mp e1).1
    have a1 : N[js[i]]? = some y := by
      have z := congrArg (fun l => l[i]?) hj
      simp only [List.getElem?_map, List.getElem?_eq_getElem hi, e1, Option.map_some, Option.some.injEq] at z
      exact z
    have a2 : σ[js[i]]? = some (some v) := by
      have z := congrArg (fun l => l[i]?) hv
      simp only [List.getElem?_map, List.getElem?_eq_getElem hi, e2, Option.map_some, Option.some.injEq] at z
      exact z
    obtain ⟨u', rfl, r⟩ := h3 (hc y hy) js[i] v a1 a2
    exact ⟨c, o, u', clo_has hfree (fr_mem hy) hcc, (hS c (mem_cellL.mpr ⟨y, hcc⟩)).trans h1, h2, r⟩
theorem convL_ok {K : PySem.W.Frag} {w : Wd} {m : M} {tbl : List (Str × Nat × List Nat)} {C : Hp} (s : SOk K w m) (hK : K = X.K) (T : TblOk X tbl) (cm : CmOk X.env.cells X.env.scope X.N w.σ C) (hS : ∀ b ∈ cellL X.env.cells, w.H b = none) :
    ∀ {vs : List V} {ds ds' : List D}, RepL K w.γ w.G vs ds → FnsAt X.env.cells ds → convL tbl m ds = some ds' → RepL K w.γ (mix (cellL X.env.cells) C w.G) vs ds'
  | _, _, _, .nil, _, h => by cases h; exact .nil
  | _, _, ds', .cons (d := d) (ds := dr) r rs, hf, h => by
    have ex : Ext w.G (mix (cellL X.env.cells) C w.G) := lay_ext s.sub hS
    unfold convL at h
    split at h
    · rename_i d' hd
      rw [Option.map_eq_some_iff] at h
      obtain ⟨rest, h1, rfl⟩ := h
      have hf2 : FnsAt X.env.cells dr := by
        cases d <;> first | exact hf.2 | exact hf
      refine .cons ?_ (convL_ok s hK T cm hS rs hf2 h1)
      by_cases hfn : ∃ q n cs', d = .fn q n cs'
      · obtain ⟨q, n, cs', rfl⟩ := hfn
        have hcs : cs' = X.env.cells := hf.1
        subst hcs
        have hd : (match jsOf tbl q n with | some js => (capsOf m js).map (.clo q n ·) | none => none) = some d' := hd
        cases hjs : jsOf tbl q n with
        | none => rw [hjs] at hd; cases hd
        | some js =>
          rw [hjs] at hd
          have hd : (capsOf m js).map (.clo q n ·) = some d' := hd
          rw [Option.map_eq_some_iff] at hd
          obtain ⟨caps, h2, rfl⟩ := hd
          cases r with
          | fn n1 n2 n3 =>
            rename_i FF
            obtain ⟨t1, t2, t3⟩ := T q n js FF hjs (by rw [← hK]; exact n1)
            obtain ⟨cvs, rc, ec⟩ := capsOf_ok s h2
            exact .clo n1 (ex _ _ n2) (ex _ _ n3) (cellG_of cm (fun b hb => mix_in hb) t1 t2 t3 ec) (rc.mono (Pre.refl _) ex)
      · have e : conv1 tbl m d = some d := by
          cases d <;> first | rfl | exact absurd ⟨_, _, _, rfl⟩ hfn
        rw [e] at hd; cases hd
        exact r.mono (Pre.refl _) ex
    · cases h

/-- f(.., g, ..), g a def made here: its cells lie open while f runs -/
def fCallC (n : Nat) (g : FV) (cs : List (Str × Addr)) (tbl : List (Str × Nat × List Nat)) (ga : FA) : FE := fun m Q Qx => ga m (fun ds m1 => FnsAt cs ds ∧ bindO (convL tbl m1 ds) fun ds' => ds'.length = n ∧ g ds' m1.gs (fun r gs' => noR r = true ∧ noCL gs' = true ∧ Q r ⟨m1.env, gs'⟩) fun _ _ => False) Qx
theorem ve_callC {k n : Nat} {f : Addr} {fd : FuncData} {ps : List Str} {g : FV} {x : Str} {p pos : Pos} {e : Expr} {es : List Expr} {ga : FA} {tbl : List (Str × Nat × List Nat)} (F : FnOk X.prog X.w X.K X.mg X.base (L2.CX X.prog X.w) k f fd ps (spV X.K n g)) (hr : Room k X.A) (hg : Gl X x) (hm : X.mg x = some (.ref f)) (hk : PySem.W.keepIn X.K (.ref f) = true) (hb : Binds X.K fd ps [])
    (hfn : ∀ x, X.fn x = true) (T : TblOk X tbl) (ha : VA X W (e :: es) ga) (hdb : (x == ("__debug__" : Str)) = false := by decide)
    (he : starEach (e :: es) X.env = (false, eval e X.env) :: starEach es X.env := by rfl) (hpl : (backTo pos (starEach es X.env)).any (·.1) = false := by rfl) :
    VE X W (.Call (.Name x p) (e :: es) [] pos) (fCallC n g X.env.cells tbl ga) := by
  obtain ⟨t, pt, st⟩ := ha.ex
  refine ⟨⟨_, pe_callC F hr hg hm hk hb hfn pt hdb he hpl, fun w m Q Qx Q' s h k kx => ?_⟩⟩
  refine st w m _ Qx _ s h (fun ds m1 w1 vs e1 a1 r1 q => ?_) kx
  intro C cm hS
  obtain ⟨qf, q⟩ := q
  obtain ⟨ds', hc, hl, q⟩ := bindO_elim q
  have s1 := a1.ok
  rw [← e1] at cm
  have cg := fun b (hb : b ∈ cellL X.env.cells) => mem_cellL.mp hb
  have hC : ∀ b ∈ cellL X.env.cells, ∃ o, C b = some (HO.cell o) := fun b hb => by
    obtain ⟨y, hy⟩ := cg b hb
    obtain ⟨o, v, z, _⟩ := cm.at_ y b hy
    exact ⟨o, z⟩
  have rd := convL_ok s1 rfl T cm hS r1 qf hc
  have exG := lay_ext (C := C) s1.sub hS
  have exH : Ext w1.H (mix (cellL X.env.cells) C w1.H) := fun b o e => (mix_out fun z => by rw [hS b z] at e; cases e).trans e
  have nS : ∀ {b : Addr} {o : HO}, w1.H b = some o → b ∉ cellL X.env.cells := fun {b o} e z => by rw [hS b z] at e; cases e
  have b1 := s1.bare
  have s2 : SOk X.K (w0 (mix (cellL X.env.cells) C w1.G) (mix (cellL X.env.cells) C w1.H) w1.γ) (m0 m1.gs) := by
    refine ⟨fun b o e => ?_, rfl, fun i d h => by simp [m0] at h, fun i d h => by simp [m0] at h, fun i j d e a h => by simp [m0] at h, s1.gl, fun j b d h1 h2 => ?_, s1.gnd, s1.tb.1.ext exH, fun b ps e => ?_⟩
    · have e : mix (cellL X.env.cells) C w1.G b = some o := e
      show mix (cellL X.env.cells) C w1.H b = some o
      by_cases hb : b ∈ cellL X.env.cells
      · rw [mix_in hb] at e ⊢; exact e
      · rw [mix_out hb] at e ⊢; exact s1.sub b o e
    · obtain ⟨e2, o, e3, e4⟩ := s1.gh j b d h1 h2
      exact ⟨(mix_out (nS e3)).trans e2, o, exH b o e3, e4.mono (Pre.refl _) exG⟩
    · have e : mix (cellL X.env.cells) C w1.G b = some (.tbl ps) := e
      by_cases hb : b ∈ cellL X.env.cells
      · rw [mix_in hb] at e
        obtain ⟨o, z⟩ := hC b hb
        rw [z] at e; cases e
      · rw [mix_out hb] at e; exact s1.tb.2 b ps e
  refine ⟨_, w1.γ, ds', m1.gs, _, _, s2, rd, hl, q, fun {γ'} r gs' G' H' v a2 r2 q2 hH => ?_, fun _ _ _ _ _ _ _ z => z.elim⟩
  obtain ⟨n1, n2, q2⟩ := q2
  have cS : Cells (cellL X.env.cells) G' := fun b hb => by
    rcases none_or (G' b) with z | ⟨o, z⟩
    · exact .inl z
    · have y := a2.ok.sub b o z
      have y : H' b = some o := y
      rw [hH b hb] at y
      obtain ⟨o', z'⟩ := hC b hb
      rw [z'] at y; cases y
      exact .inr ⟨o', z⟩
  have cSH : Cells (cellL X.env.cells) H' := fun b hb => by
    obtain ⟨o', z'⟩ := hC b hb
    exact .inr ⟨o', (hH b hb).trans z'⟩
  have a3 : Aft X.K (w0 w1.G w1.H w1.γ) (m0 m1.gs) (w0 (mix (cellL X.env.cells) emp G') (mix (cellL X.env.cells) emp H') γ') (m0 gs') := by
    refine ⟨⟨fun b o e => ?_, rfl, fun i d h => by simp [m0] at h, fun i d h => by simp [m0] at h, fun i j d e a h => by simp [m0] at h, a2.ok.gl, fun j b d h1 h2 => ?_, a2.ok.gnd, tabs_out cSH a2.ok.tb.1, fun b ps e => ?_⟩, ⟨fun b o e => ?_, fun b o e n t => ?_, fun b o e => ?_, fun b e => ?_, fun b o e => ?_, a2.st.gp⟩⟩
    · have e : mix (cellL X.env.cells) emp G' b = some o := e
      show mix (cellL X.env.cells) emp H' b = some o
      by_cases hb : b ∈ cellL X.env.cells
      · rw [mix_in hb] at e; cases e
      · rw [mix_out hb] at e ⊢; exact a2.ok.sub b o e
    · obtain ⟨e2, o, e3, e4⟩ := a2.ok.gh j b d h1 h2
      have e3 : H' b = some o := e3
      have hb : b ∉ cellL X.env.cells := fun z => by
        obtain ⟨o', z'⟩ := hC b z
        rw [hH b z, z'] at e3; cases e3
        cases e4
      exact ⟨(mix_out hb).trans e2, o, (mix_out hb).trans e3, e4.out cS (noCL_mem n2 (List.mem_of_getElem? h2))⟩
    · have e : mix (cellL X.env.cells) emp G' b = some (.tbl ps) := e
      by_cases hb : b ∈ cellL X.env.cells
      · rw [mix_in hb] at e; cases e
      · rw [mix_out hb] at e; exact a2.ok.tb.2 b ps e
    · have hb : b ∉ cellL X.env.cells := nS (s1.sub b o e)
      exact (mix_out hb).trans (a2.st.gg b o (exG b o e))
    · have hb := nS e
      exact (mix_out hb).trans (a2.st.fr b o (exH b o e) (fun z => n (own_bare.mpr (own_bare.mp z))) t)
    · have e : mix (cellL X.env.cells) emp G' b = some o := e
      by_cases hb : b ∈ cellL X.env.cells
      · rw [mix_in hb] at e; cases e
      · rw [mix_out hb] at e
        rcases a2.st.gn b o e with z | z | z | ⟨u, z, zu⟩
        · exact .inl ((mix_out hb).symm.trans z)
        · exact .inr (.inl (own_bare.mpr (own_bare.mp z)))
        · exact .inr (.inr (.inl ((mix_out hb).symm.trans z)))
        · exact .inr (.inr (.inr ⟨u, (mix_out hb).symm.trans z, zu⟩))
    · rcases a2.st.on b (own_bare.mpr (own_bare.mp e)) with z | z
      · exact .inl (own_bare.mpr (own_bare.mp z))
      · refine .inr ?_
        rcases none_or (w1.H b) with y | ⟨o, y⟩
        · exact y
        · have := exH b o y
          have z : mix (cellL X.env.cells) C w1.H b = none := z
          rw [z] at this; cases this
    · obtain ⟨o', z⟩ := a2.st.al b o (exH b o e)
      exact ⟨o', (mix_out (nS e)).trans z⟩
  have r3 : RetOk X.K w1.H (w0 (mix (cellL X.env.cells) emp G') (mix (cellL X.env.cells) emp H') γ') (m0 gs') v r := by
    cases r with
    | fz d => exact Rep.out cS r2 n1
    | tmp d =>
      obtain ⟨b, o, rfl, h1, h2, h3, h4, h5⟩ := r2
      have hb : b ∉ cellL X.env.cells := fun z => by
        obtain ⟨o', z'⟩ := hC b z
        have y : mix (cellL X.env.cells) C w1.H b = none := h1
        rw [mix_in z, z'] at y; cases y
      exact ⟨b, o, rfl, (mix_out hb).symm.trans h1, (mix_out hb).trans h2, fun z => h3 (own_bare.mpr (own_bare.mp z)), (mix_out hb).trans h4, h5.out cS n1⟩
    | sl i => cases n1
  exact k r ⟨m1.env, gs'⟩ ⟨_, _, γ', w1.σ⟩ v e1 (a1.trans (call_back s1 a3)) ((ret_back s1 r3).from fun _ z => a1.st.back z) q2
end
end VL

set_option maxHeartbeats 4000000
/-! The value layer: a closure is called. -/
namespace VL
open PySem PySem.Spec PyProof.Rows L2 NdefX LamX
variable [Tabs]
section
variable {X : Cx} {W : WX}
abbrev CTbl := List (Str × Nat × Nat × (List D → FV))
def gOf (tbl : CTbl) (q : Str) (n : Nat) : Option (Nat × (List D → FV)) := match tbl with
  | [] => none
  | (q', n', p) :: r => if q' = q ∧ n' = n then some p else gOf r q n
def CloOk (P : Program) (w : World) (K : PySem.W.Frag) (mg : Str → Option Value) (base : Heap) (k : Nat) (tbl : CTbl) : Prop := ∀ q n p (F : FW), gOf tbl q n = some p → NthFn K q n F → ∀ (f : Addr) (name qual : Str) (cl : List (Str × Addr)) (c : Addr), ∃ ps : List Str,
  GOk P w K mg base k f F name qual cl c ps (frS F.2.2) (spN K p.1 p.2)
theorem nthDef_one {K : PySem.W.Frag} {q : Str} {n : Nat} {st st' : Stmt} (a : NthDef K q n st) (b : NthDef K q n st') : st = st' := by
  obtain ⟨f, o, fd, body, h1, h2, h3, h4, h5⟩ := a
  obtain ⟨f', o', fd', body', g1, g2, g3, g4, g5⟩ := b
  rw [h1] at g1; cases g1
  rw [h2] at g2; cases g2
  rw [h3] at g3; cases g3
  rw [h4] at g4; cases g4
  rw [h5] at g5; cases g5
  rfl
theorem nth_one {K : PySem.W.Frag} {q : Str} {n : Nat} {F F' : FW} (a : NthFn K q n F) (b : NthFn K q n F') : F = F' := by
  unfold NthFn at a b
  cases e : Tabs.L q n with
  | none =>
    rw [e] at a b
    obtain ⟨st, h1, rfl⟩ := a
    obtain ⟨st', h2, rfl⟩ := b
    rw [nthDef_one h1 h2]
  | some x =>
    rw [e] at a b
    obtain ⟨p, ee, sc⟩ := x
    exact (show F = _ from a).trans (show F' = _ from b).symm
theorem nth_def {K : PySem.W.Frag} {q : Str} {n : Nat} {st : Stmt} (e : Tabs.L q n = none) (h : NthDef K q n st) : NthFn K q n (fwOf st) := by
  unfold NthFn
  rw [e]
  exact ⟨st, h, rfl⟩
theorem nth_lam {K : PySem.W.Frag} {q : Str} {n : Nat} {p : Arguments} {b : Expr} {sc : Scope} (e : Tabs.L q n = some (p, b, sc)) : NthFn K q n (p, .expr b, sc) := by
  unfold NthFn
  rw [e]
theorem clo_nil {P : Program} {w : World} {K : PySem.W.Frag} {mg : Str → Option Value} {base : Heap} {k : Nat} : CloOk P w K mg base k [] := fun q n p F h => by cases h
theorem clo_cons {P : Program} {w : World} {K : PySem.W.Frag} {mg : Str → Option Value} {base : Heap} {k j nn n : Nat} {q : Str} {FF : FW} {ps : List Str} {g : List D → FV} {tbl : CTbl} (nth : NthFn K q n FF) (hj : j ≤ k)
    (F : ∀ (f : Addr) (name qual : Str) (cl : List (Str × Addr)) (c : Addr), GOk P w K mg base j f FF name qual cl c ps (frS FF.2.2) (spN K nn g)) (r : CloOk P w K mg base k tbl) : CloOk P w K mg base k ((q, n, nn, g) :: tbl) := fun q' n' p F' h h' => by
  unfold gOf at h
  split at h
  · rename_i e
    obtain ⟨rfl, rfl⟩ := e
    cases h
    obtain rfl := nth_one nth h'
    exact fun f name qual cl c => ⟨ps, (F f name qual cl c).mono hj⟩
  · exact r q' n' p F' h h'
def tblB (N : List Str) (sc nsc : Scope) (js : List Nat) : Bool :=
  decide (js.map (fun j => N[j]?) = (frS nsc).map some) && ((frS nsc).all fun y => decide (sc.names.lookup y = some .cell)) && nsc.names.all fun y => !decide (y.2 = .free) || decide (sc.names.lookup y.1 = some .cell) || decide (sc.names.lookup y.1 = some .free)
theorem tbl_nil : TblOk X [] := fun q n js F h => by cases h
theorem tbl_cons {N : List Str} {sc : Scope} {q : Str} {n : Nat} {F : FW} {js : List Nat} {tbl : List (Str × Nat × List Nat)} (nth : NthFn X.K q n F) (hB : tblB N sc F.2.2 js = true) (r : TblOk X tbl) (hN : X.N = N := by rfl) (hsc : X.env.scope = sc := by rfl) : TblOk X ((q, n, js) :: tbl) := fun q' n' js' F' h h' => by
  unfold jsOf at h
  split at h
  · rename_i e
    obtain ⟨rfl, rfl⟩ := e
    cases h
    obtain rfl := nth_one nth h'
    unfold tblB at hB
    simp only [Bool.and_eq_true, decide_eq_true_eq, List.all_eq_true, Bool.or_eq_true, Bool.not_eq_true', decide_eq_false_iff_not] at hB
    obtain ⟨⟨h1, h2⟩, h3⟩ := hB
    rw [hN, hsc]
    refine ⟨h1, h2, fun y hy e => ?_⟩
    rcases h3 y hy with (z | z) | z
    · exact absurd e z
    · exact .inl z
    · exact .inr z
  · exact r q' n' js' F' h h'
def fCallP (i : Nat) (tbl : CTbl) (ga : FA) : FE := fun m Q Qx => match m.env[i]? with
  | some (.val (.clo q n caps)) => bindO (gOf tbl q n) fun p => ga m (fun ds m1 => ds.length = p.1 ∧ noCL ds = true ∧ noCL caps = true ∧ noCL m1.gs = true ∧ p.2 caps ds m1.gs (fun r gs' => Q r ⟨m1.env, gs'⟩) fun _ _ => False) Qx
  | _ => False
theorem ve_callP (i : Nat) {k j : Nat} {x : Str} {p pos : Pos} {e : Expr} {es : List Expr} {ga : FA} {tbl : CTbl} (T : CloOk X.prog X.w X.K X.mg X.base k tbl) (hr : Room j X.A) (hkj : k ≤ j) (ha : VA X W (e :: es) ga) (hN : X.N[i]? = some x := by rfl)
    (hv : Vis X.env.scope x := by first | exact Or.inl rfl | exact Or.inr (Or.inl rfl) | exact Or.inr (Or.inr rfl))
    (hdb : (x == ("__debug__" : Str)) = false := by decide) (hcd : (x == ("__classdict__" : Str)) = false := by decide)
    (he : starEach (e :: es) X.env = (false, eval e X.env) :: starEach es X.env := by rfl) (hpl : (backTo pos (starEach es X.env)).any (·.1) = false := by rfl) :
    VE X W (.Call (.Name x p) (e :: es) [] pos) (fCallP i tbl ga) := by
  obtain ⟨t, pt, st⟩ := ha.ex
  refine ⟨⟨_, pe_callP (i := i) hr hN hv pt hdb hcd he hpl, fun w m Q Qx Q' s h kk kx => ?_⟩⟩
  unfold fCallP at h
  split at h
  · rename_i q n caps hi
    obtain ⟨pr, hp, h⟩ := bindO_elim h
    obtain ⟨v, ev, rv⟩ := s.val i _ hi
    cases rv with
    | clo n1 n2 n3 n4 n5 =>
      rename_i a c name qual FF cl cvs
      obtain ⟨ps, Fn⟩ := T q n pr FF hp n1 a name qual cl c
      refine ⟨a, _, _, _, _, _, ev, s.sub _ _ n2, ?_⟩
      refine st w m _ Qx _ s h (fun ds m1 w1 vs e1 a1 r1 qq => ?_) kx
      obtain ⟨hl, c1, c2, c3, qq⟩ := qq
      have s1 := a1.ok
      have g1 := a1.st.gg
      have cg := n4.ext g1
      have cH := cg.ext s1.sub
      have rc := n5.mono a1.st.gp g1
      refine ⟨_, _, _, _, _, k, ps, frS FF.2.2, _, cvs, s1.sub _ _ (g1 _ _ n2), s1.sub _ _ (g1 _ _ n3), Fn, hkj, cH, ?_⟩
      show spN X.K pr.1 pr.2 (cvs.map some) vs (mix (cellL cl) emp w1.H) _ _
      have cS : ∀ b ∈ cellL cl, ∃ o, w1.G b = some (HO.cell o) := fun b hb => by
        obtain ⟨y, hy⟩ := mem_cellL.mp hb
        obtain ⟨o, _, z, _⟩ := cg.all y b hy
        exact ⟨o, z⟩
      have cSG : Cells (cellL cl) w1.G := fun b hb => .inr (cS b hb)
      have cSH : Cells (cellL cl) w1.H := fun b hb => let ⟨o, z⟩ := cS b hb; .inr ⟨o, s1.sub _ _ z⟩
      have nS : ∀ {b : Addr} {o : HO}, w1.H b = some o → (∀ x, o ≠ HO.cell x) → b ∉ cellL cl := fun {b o} e n z => by
        obtain ⟨o', y⟩ := cS b z
        rw [s1.sub _ _ y] at e; cases e; exact n _ rfl
      have nC : ∀ {γ : List Addr} {G : Hp} {o : HO} {d : D}, ORep X.K γ G o d → ∀ x, o ≠ HO.cell x := fun r x z => by rw [z] at r; cases r
      have s2 : SOk X.K (w0 (mix (cellL cl) emp w1.G) (mix (cellL cl) emp w1.H) w1.γ) (m0 m1.gs) := by
        refine ⟨fun b o e => ?_, rfl, fun i d h => by simp [m0] at h, fun i d h => by simp [m0] at h, fun i j d e a h => by simp [m0] at h, s1.gl, fun j b d h1 h2 => ?_, s1.gnd, tabs_out cSH s1.tb.1, fun b ps e => ?_⟩
        · have e : mix (cellL cl) emp w1.G b = some o := e
          show mix (cellL cl) emp w1.H b = some o
          by_cases hb : b ∈ cellL cl
          · rw [mix_in hb] at e; cases e
          · rw [mix_out hb] at e ⊢; exact s1.sub b o e
        · obtain ⟨e2, o, e3, e4⟩ := s1.gh j b d h1 h2
          have hb := nS e3 (nC e4)
          exact ⟨(mix_out hb).trans e2, o, (mix_out hb).trans e3, e4.out cSG (noCL_mem c3 (List.mem_of_getElem? h2))⟩
        · have e : mix (cellL cl) emp w1.G b = some (.tbl ps) := e
          by_cases hb : b ∈ cellL cl
          · rw [mix_in hb] at e; cases e
          · rw [mix_out hb] at e; exact s1.tb.2 b ps e
      refine ⟨_, w1.γ, cvs, caps, ds, m1.gs, _, rfl, rc.out cSG c2, s2, r1.out cSG c1, hl, qq, fun r gs' G' H' v a2 r2 q2 hH => ?_⟩
      have gN : ∀ {b : Addr}, b ∈ cellL cl → G' b = none := fun {b} hb => by
        rcases none_or (G' b) with z | ⟨o, z⟩
        · exact z
        · have y := a2.ok.sub b o z
          have y : H' b = some o := y
          rw [hH b hb] at y; cases y
      have exG : Ext G' (mix (cellL cl) w1.G G') := fun b o e => (mix_out fun z => by rw [gN z] at e; cases e).trans e
      have exH : Ext H' (mix (cellL cl) w1.H H') := fun b o e => (mix_out fun z => by rw [hH b z] at e; cases e).trans e
      have nH : ∀ {b : Addr} {o : HO}, H' b = some o → b ∉ cellL cl := fun {b o} e z => by rw [hH b z] at e; cases e
      have a3 : Aft X.K (w0 w1.G w1.H w1.γ) (m0 m1.gs) (w0 (mix (cellL cl) w1.G G') (mix (cellL cl) w1.H H') w1.γ) (m0 gs') := by
        refine ⟨⟨fun b o e => ?_, rfl, fun i d h => by simp [m0] at h, fun i d h => by simp [m0] at h, fun i j d e a h => by simp [m0] at h, a2.ok.gl, fun j b d h1 h2 => ?_, s1.gnd, a2.ok.tb.1.ext exH, fun b ps e => ?_⟩, ⟨fun b o e => ?_, fun b o e n t => ?_, fun b o e => ?_, fun b e => .inl ?_, fun b o e => ?_, Pre.refl _⟩⟩
        · have e : mix (cellL cl) w1.G G' b = some o := e
          show mix (cellL cl) w1.H H' b = some o
          by_cases hb : b ∈ cellL cl
          · rw [mix_in hb] at e ⊢; exact s1.sub b o e
          · rw [mix_out hb] at e ⊢; exact a2.ok.sub b o e
        · obtain ⟨e2, o, e3, e4⟩ := a2.ok.gh j b d h1 h2
          exact ⟨(mix_out (nH e3)).trans e2, o, exH b o e3, e4.mono (Pre.refl _) exG⟩
        · have e : mix (cellL cl) w1.G G' b = some (.tbl ps) := e
          by_cases hb : b ∈ cellL cl
          · rw [mix_in hb] at e; exact s1.tb.2 b ps e
          · rw [mix_out hb] at e; exact a2.ok.tb.2 b ps e
        · by_cases hb : b ∈ cellL cl
          · exact (mix_in hb).trans e
          · exact (mix_out hb).trans (a2.st.gg b o ((mix_out hb).trans e))
        · by_cases hb : b ∈ cellL cl
          · exact (mix_in hb).trans e
          · exact (mix_out hb).trans (a2.st.fr b o ((mix_out hb).trans e) (fun z => n (own_bare.mpr (own_bare.mp z))) t)
        · have e : mix (cellL cl) w1.G G' b = some o := e
          by_cases hb : b ∈ cellL cl
          · rw [mix_in hb] at e; exact .inl e
          · rw [mix_out hb] at e
            rcases a2.st.gn b o e with z | z | z | ⟨u, z, zu⟩
            · exact .inl ((mix_out hb).symm.trans z)
            · exact .inr (.inl (own_bare.mpr (own_bare.mp z)))
            · exact .inr (.inr (.inl ((mix_out hb).symm.trans z)))
            · exact .inr (.inr (.inr ⟨u, (mix_out hb).symm.trans z, zu⟩))
        · exact own_bare.mpr (own_bare.mp e)
        · by_cases hb : b ∈ cellL cl
          · exact ⟨o, (mix_in hb).trans e⟩
          · obtain ⟨o', z⟩ := a2.st.al b o ((mix_out hb).trans e)
            exact ⟨o', (mix_out hb).trans z⟩
      have r3 : RetOk X.K w1.H (w0 (mix (cellL cl) w1.G G') (mix (cellL cl) w1.H H') w1.γ) (m0 gs') v r := by
        cases r with
        | fz d => exact Rep.mono (Pre.refl _) exG r2
        | tmp d =>
          obtain ⟨b, o, rfl, h1, h2, h3, h4, h5⟩ := r2
          have hb := nH h4
          exact ⟨b, o, rfl, (mix_out hb).symm.trans h1, (mix_out hb).trans h2, fun z => h3 (own_bare.mpr (own_bare.mp z)), exH b o h4, h5.mono (Pre.refl _) exG⟩
        | sl i => exact r2
      exact kk r ⟨m1.env, gs'⟩ ⟨_, _, w1.γ, w1.σ⟩ v e1 (a1.trans (call_back s1 a3)) ((ret_back s1 r3).from fun _ z => a1.st.back z) q2
  · exact h.elim
end
end VL

set_option maxHeartbeats 4000000
/-! The value layer: len(set(a list of ints)). -/
namespace VL
open PySem PySem.Spec PyProof.Rows L2
variable [Tabs]
/-- each item once, where it stands first -/
def ddS (acc : List Int) (x : Int) : List Int := if x ∈ acc then acc else acc ++ [x]
def dd (ns : List Int) : List Int := ns.foldl ddS []
theorem dd_snoc (ns : List Int) (x : Int) : dd (ns ++ [x]) = ddS (dd ns) x := by unfold dd; rw [List.foldl_append]; rfl
theorem dd_mem (ns : List Int) (y : Int) : y ∈ dd ns ↔ y ∈ ns := by
  have h : ∀ (ns acc : List Int), y ∈ ns.foldl ddS acc ↔ y ∈ acc ∨ y ∈ ns := by
    intro ns
    induction ns with
    | nil => intro acc; simp
    | cons x ns ih =>
      intro acc
      rw [List.foldl_cons, ih, List.mem_cons]
      unfold ddS
      by_cases hx : x ∈ acc
      · rw [if_pos hx]
        constructor
        · rintro (h | h)
          · exact .inl h
          · exact .inr (.inr h)
        · rintro (h | rfl | h)
          · exact .inl h
          · exact .inl hx
          · exact .inr h
      · rw [if_neg hx, List.mem_append, List.mem_singleton]
        constructor
        · rintro ((h | h) | h)
          · exact .inl h
          · exact .inr (.inl h)
          · exact .inr (.inr h)
        · rintro (h | h | h)
          · exact .inl (.inl h)
          · exact .inl (.inr h)
          · exact .inr h
  unfold dd
  rw [h]
  simp
theorem dd_nodup (ns : List Int) : (dd ns).Nodup := by
  have h : ∀ (ns acc : List Int), acc.Nodup → (ns.foldl ddS acc).Nodup := by
    intro ns
    induction ns with
    | nil => intro acc h; exact h
    | cons x ns ih =>
      intro acc h
      rw [List.foldl_cons]
      refine ih _ ?_
      unfold ddS
      split
      · exact h
      · rename_i hx
        refine List.nodup_append.mpr ⟨h, by simp, fun a ha b hb => ?_⟩
        simp at hb
        subst hb
        intro e
        exact hx (e ▸ ha)
  exact h ns [] .nil
theorem dd_of_nodup {ns : List Int} (h : ns.Nodup) : dd ns = ns := by
  have k : ∀ (ns acc : List Int), (acc ++ ns).Nodup → ns.foldl ddS acc = acc ++ ns := by
    intro ns
    induction ns with
    | nil => intro acc _; simp
    | cons x ns ih =>
      intro acc h
      have hx : x ∉ acc := fun z => (List.nodup_append.mp h).2.2 x z x (by simp) rfl
      have e : ddS acc x = acc ++ [x] := if_neg hx
      rw [List.foldl_cons, e, ih (acc ++ [x]) (by rw [List.append_assoc]; exact h), List.append_assoc]
      rfl
  have := k ns [] (by simpa using h)
  simpa [dd] using this
/-- all of a span, no other: as many as the span is wide -/
theorem dd_span {ns : List Int} {lo hi : Int} (h : ∀ y, y ∈ ns ↔ lo ≤ y ∧ y < hi) (hl : lo ≤ hi) : ((dd ns).length : Int) = hi - lo := by
  have hm : ∀ y : Int, y ∈ dd ns ↔ y ∈ (List.range (hi - lo).toNat).map fun i : Nat => lo + (i : Int) := fun y => by
    rw [dd_mem, h, List.mem_map]
    constructor
    · rintro ⟨h1, h2⟩
      exact ⟨(y - lo).toNat, List.mem_range.mpr (by omega), by omega⟩
    · rintro ⟨i, hi', rfl⟩
      have := List.mem_range.mp hi'
      omega
  have nd2 : ((List.range (hi - lo).toNat).map fun i : Nat => lo + (i : Int)).Nodup := by
    unfold List.Nodup
    rw [List.pairwise_map]
    exact List.nodup_range.imp fun h e => h (by omega)
  have e := ((List.perm_ext_iff_of_nodup (dd_nodup ns) nd2).mpr hm).length_eq
  rw [e, List.length_map, List.length_range]
  omega
theorem dd_len (ns : List Int) : (dd ns).length ≤ ns.length := by
  have h : ∀ (ns acc : List Int), (ns.foldl ddS acc).length ≤ acc.length + ns.length := by
    intro ns
    induction ns with
    | nil => intro acc; simp
    | cons x ns ih =>
      intro acc
      have := ih (ddS acc x)
      rw [List.foldl_cons, List.length_cons]
      have e : (ddS acc x).length ≤ acc.length + 1 := by unfold ddS; split <;> simp
      omega
  have := h ns []
  simpa [dd] using this
theorem met_dd (ns : List Int) : ∀ i, i ≤ ns.length → PyProof.Rows.firstMet (fun j => ns.getD j 0) i = dd (ns.take i)
  | 0, _ => rfl
  | i + 1, hi => by
    have hlt : i < ns.length := hi
    have e1 : ns.getD i 0 = ns[i] := by simp [List.getD, hlt]
    have e2 : ns.take (i + 1) = ns.take i ++ [ns[i]] := by simp
    rw [PyProof.Rows.firstMet_succ, met_dd ns i (Nat.le_of_lt hlt), e2, dd_snoc, e1]
    unfold ddS
    by_cases h : ns[i] ∈ dd (ns.take i)
    · rw [if_pos h]
      exact if_pos (List.any_eq_true.mpr ⟨_, h, by simp⟩)
    · rw [if_neg h]
      refine if_neg fun z => ?_
      obtain ⟨y, hy, ey⟩ := List.any_eq_true.mp z
      have : y = ns[i] := by simpa using ey
      exact h (this ▸ hy)
section
variable {X : Cx} {W : WX}
def tLenS (K : PySem.W.Frag) (ta : TE) : TE := fun σ H Q => ta σ H fun x H1 => ∃ (l : Addr) (ns : List Int), x = .ref l ∧ ns.length ≤ 4000 ∧ SqL K H1 l (ns.map V.int) ∧ Q (.int (dd ns).length) H1
theorem pe_lenS {a : Expr} {ta : TE} {p p2 q pos : Pos} (hc : X.calm = true) (hg : Gl X "len") (hm : X.mg "len" = none) (hg2 : Gl X "set") (hm2 : X.mg "set" = none) (ha : PE X a ta)
    (na : starEach [a] X.env = (false, eval a X.env) :: starEach [] X.env := by rfl) : PE X (.Call (.Name "len" p) [.Call (.Name "set" p2) [a] [] q] [] pos) (tLenS X.K ta) := by
  refine ⟨fun pins s σ H Q I hh => Call_ (ld_blt I hg hm boot_len (PyProof.Rows.callWith_builtin1 (PyProof.Rows.args_cons ?_ rfl) rfl rfl))⟩
  refine Call_ (ld_blt I hg2 hm2 boot_set (PyProof.Rows.callWith_type1 (PyProof.Rows.args_cons (thn (ha.run pins s σ H _ I hh) ?_) na) na rfl))
  rintro u s1 ⟨x, H1, J, rx, l, ns, rfl, hl, hq, q1⟩
  obtain rfl : u = Value.ref l := rx
  obtain ⟨its, r, pl, _⟩ := J.list hq
  have sz : its.toArray.size = ns.length := by
    rw [List.size_toArray, ← r.length, List.length_map]
  refine PyProof.Rows.args_nil (call_set_list (J.ok.hd hc) pl.isList (by simpa using RZ.intsAre_vals r) (by unfold scanBound; omega) fun h' tk hS hk => PyProof.Rows.args_nil ?_)
  rw [sz, met_dd ns ns.length (Nat.le_refl _), List.take_length] at hS
  obtain ⟨o, es, ep, t, ho, hex, hd, _, _, _, hf, hn⟩ := hS
  have dl := dd_len ns
  have J2 : Inv X pins σ H1 { s1 with heap := h', toks := tk } := J.kept fun b o e => hk b o (Heap.lt_size e) e
  exact call_len_set ho hex hd hf (by rw [hn]; omega) ⟨.int (dd ns).length, H1, J2.tok _, ⟨_, by rw [hn]⟩, q1⟩
def fLenSet (fa : FE) : FE := fun m Q Qx => fa m (fun r m1 => bindO (view m1 r) fun d => bindO (lstOf d) fun ds => bindO (toInts ds) fun ns => ns.length ≤ 4000 ∧ Q (.fz (.int (dd ns).length)) m1) Qx
theorem ve_lenSet {a : Expr} {fa : FE} {p p2 q pos : Pos} (hc : X.calm = true) (hg : Gl X "len") (hm : X.mg "len" = none) (hg2 : Gl X "set") (hm2 : X.mg "set" = none) (ha : VE X W a fa)
    (na : starEach [a] X.env = (false, eval a X.env) :: starEach [] X.env := by rfl) : VE X W (.Call (.Name "len" p) [.Call (.Name "set" p2) [a] [] q] [] pos) (fLenSet fa) := by
  obtain ⟨t, pt, st⟩ := ha.ex
  refine ⟨⟨_, pe_lenS hc hg hm hg2 hm2 pt na, fun w m Q Qx Q' s h k kx => ?_⟩⟩
  refine st w m _ Qx _ s h (fun r m1 w1 v e1 a1 r1 qq => ?_) kx
  obtain ⟨d, hd, qq⟩ := bindO_elim qq
  obtain ⟨ds, hds, qq⟩ := bindO_elim qq
  obtain ⟨ns, hns, hl, qq⟩ := bindO_elim qq
  obtain ⟨a, xs, rfl, hq, rr⟩ := lst_at a1.ok (a1.ok.view r1 hd) hds
  rw [toInts_of hns] at rr
  rw [rep_ints rr] at hq
  exact ⟨a, ns, rfl, hl, hq, k _ m1 w1 _ e1 a1 (retFz (.int _)) qq⟩
end
end VL
namespace VL
open PySem PySem.Spec PyProof.Rows L2
variable [Tabs]
section
variable {X : Cx} {W : WX}
/-- a slot's own container is shared from here on -/
def sShareAt (j : Nat) (f : FS) : FS := fun E m => match m.env[j]? with
  | some (.own d) => f E ⟨m.env.set j (.val (.gh m.gs.length)), m.gs ++ [d]⟩
  | _ => f E m
theorem vs_shareAt (j : Nat) {st : Stmt} {f : FS} (h : VS X W st f) : VS X W st (sShareAt j f) := by
  obtain ⟨t, pt, ht⟩ := h.ex
  refine ⟨⟨t, pt, fun w m E D s hh k => ?_⟩⟩
  unfold sShareAt at hh
  split at hh
  · rename_i d hd
    obtain ⟨a, o, e1, e2, e3, e4, e5⟩ := s.own j d hd
    obtain ⟨x, y⟩ := s.share hd e1
    exact ht ⟨w.G, w.H, w.γ ++ [a], w.σ⟩ _ E D x hh (k.aft ⟨x, y⟩)
  · exact ht w m E D s hh k
end
theorem cut_max {α : Type} (xs : List α) (a b : Nat) : (VL.cutD xs (some (a : Int)) (some (b : Int))).length ≤ b - a := by
  by_cases c : (VL.cutD xs (some (a : Int)) (some (b : Int))).length = 0
  · omega
  · obtain ⟨h1, h2⟩ := cut_len2 xs a b ((VL.cutD xs (some (a : Int)) (some (b : Int))).length - 1) (by omega)
    omega
end VL
namespace VL
open PySem PySem.Spec PyProof.Rows L2
theorem mul_len (a : Str) (j : Int) (h : 0 ≤ j) : (Txt.mul a j).length ≤ a.length * j.toNat := by
  unfold Txt.mul
  split
  · show 0 ≤ _; omega
  · split
    · rename_i h1 h2
      have : 1 ≤ j.toNat := by omega
      exact Nat.le_mul_of_pos_right _ this
    · have k : ∀ (n : Nat) (acc : Array Nat), ((List.replicate n a.cps).foldl (· ++ ·) acc).size = acc.size + a.cps.size * n := by
        intro n
        induction n with
        | zero => intro acc; simp
        | succ n ih =>
          intro acc
          rw [List.replicate_succ, List.foldl_cons, ih, Array.size_append, Nat.mul_succ]
          omega
      show ((List.replicate j.toNat a.cps).foldl (· ++ ·) #[]).size ≤ _
      rw [k]
      show 0 + a.cps.size * j.toNat ≤ a.cps.size * j.toNat
      omega
end VL

set_option maxHeartbeats 4000000
/-! The value layer: a text's slice with a step. -/
namespace VL
open PySem PySem.Spec PyProof.Rows L2
variable [Tabs]
section
variable {X : Cx} {W : WX} {a b c : Expr} {fa fb fc : FE} {pos : Pos}
def stepS (z : Str) (l u : Option Int) (i : Int) : Str := ⟨((Builtin.Str.strSliceIndices l u i z.length).filterMap (z.cps[·]?)).toArray⟩
def revS (z : Str) : Str := ⟨z.cps.toList.reverse.toArray⟩
theorem stepS_rev (z : Str) : stepS z none none (-1) = revS z := by
  unfold stepS revS
  rw [PyProof.Rows.picked_rev, PyProof.Rows.filterMap_get, List.map_map]
  · congr 1
    apply congrArg
    apply List.ext_getElem
    · simp [Str.length]
    · intro i h1 h2
      have hi : i < z.length := by simpa using h1
      have hs : z.cps.size = z.length := rfl
      simp [Array.getD, hs, show z.length - 1 - i < z.length by omega]
  · intro i hi
    obtain ⟨k, hk, rfl⟩ := List.mem_map.mp hi
    have := List.mem_range.mp hk
    show z.length - 1 - k < z.length
    omega
def tSlStS (te : TE) (tl th ts : TO) : TE := fun σ H Q => te σ H fun x H1 => tl σ H1 fun l H2 => th σ H2 fun u H3 => ts σ H3 fun o H4 => ∃ z i, x = .str z ∧ o = some i ∧ i ≠ 0 ∧ i ≠ 1 ∧ z.length ≤ sizeLine ∧ Q (.str (stepS z l u i)) H4
theorem pe_slStS {e : Expr} {te : TE} {lo hi : Option Expr} {st : Expr} {tl th ts : TO} {p2 : Pos} (he : PE X e te) (hl : PO X lo tl) (hu : PO X hi th) (hs : PO X (some st) ts) : PE X (.Subscript e (.Slice lo hi (some st) p2) pos) (tSlStS te tl th ts) := by
  refine ⟨fun pins s σ H Q I h => ?_⟩
  refine Subscript_ (thn (he.run pins s σ H _ I h) fun v s1 ⟨x, H1, I1, r1, q1⟩ => ?_)
  refine wpAny_Slice (thn (hl.run pins s1 σ H1 _ I1 q1) fun vl s2 ⟨l, H2, I2, pl, q2⟩ => thn (hu.run pins s2 σ H2 _ I2 q2) fun vu s3 ⟨u, H3, I3, pu, q3⟩ => ?_)
  refine thn (hs.run pins s3 σ H3 _ I3 q3) fun vs s4 ⟨o, H4, I4, ps, q4⟩ => ?_
  obtain ⟨z, i, rfl, rfl, h0, h1, hz, q⟩ := q4
  obtain ⟨t, rfl⟩ := r1
  obtain ⟨l', rfl, rfl⟩ := IsPart.raw pl
  obtain ⟨u', rfl, rfl⟩ := IsPart.raw pu
  obtain ⟨o', rfl, eo⟩ := IsPart.raw ps
  obtain ⟨⟨i', ti⟩, rfl, ei⟩ := Option.map_eq_some_iff.mp eo
  have ei : i' = i := ei
  subst ei
  have I5 : Inv X pins σ H4 { s4 with heap := s4.heap.push { cls := .type "slice", data := .fields #[partValue l', partValue u', partValue (some (i', ti))] } } := I4.kept (t' := s4.toks) fun b ob q => Heap.get?_push_of_some _ q
  show wpAny (model X.prog X.w) X.A (subscriptTail e (.Slice lo hi (some st) p2) (.str z t) (.ref s4.heap.objs.size)) (EP X pins σ Q) X.xe _
  refine tail_any (ops := [.str z t, .ref s4.heap.objs.size]) (typeIs_str _ _ _) F.slot_str_getitem.lookup ?_ (by with_unfolding_all rfl)
  refine wpAny_getItem_str_slice (l := l') (u := u') (st := some (i', ti)) (Heap.IsSliceOf.new _ _ _ _) (by simpa using h0) ?_
  have no1 : ¬ (((((some (i', ti)).map (·.1)).getD 1 == 1) && ((Builtin.Str.strSliceIndices (l'.map (·.1)) (u'.map (·.1)) (((some (i', ti)).map (·.1)).getD 1) z.length).length == z.length)) = true) := by
    have e : ((((some (i', ti)).map (·.1)).getD 1 == 1)) = false := by simpa using h1
    rw [e]; simp
  have hle : (stepS z (l'.map (·.1)) (u'.map (·.1)) i').length ≤ sizeLine := by
    refine Nat.le_trans (Nat.le_trans (Nat.le_of_eq (show (stepS z (l'.map (·.1)) (u'.map (·.1)) i').length = ((Builtin.Str.strSliceIndices (l'.map (·.1)) (u'.map (·.1)) i' z.length).filterMap (z.cps[·]?)).length by simp [stepS, Str.length])) (List.length_filterMap_le _ _)) (Nat.le_trans ?_ hz)
    exact sliceIndicesBy_le _ _ _ h0 _
  show Made.post (if ((((some (i', ti)).map (·.1)).getD 1 == 1) && ((Builtin.Str.strSliceIndices (l'.map (·.1)) (u'.map (·.1)) (((some (i', ti)).map (·.1)).getD 1) z.length).length == z.length)) = true then Made.val (.str z t)
    else Made.str (stepS z (l'.map (·.1)) (u'.map (·.1)) i')) (EP X pins σ Q) _
  rw [if_neg no1]
  exact ⟨hle, .str _, H4, I5.tok _, ⟨_, rfl⟩, q⟩
def fSlStS (fe : FE) (fl fh fs : FO) : FE := fun m Q Qx => fe m (fun r m1 => fl m1 (fun lo m2 => fh m2 (fun hi m3 => fs m3 (fun st m4 => bindO st fun i => i ≠ 0 ∧ i ≠ 1 ∧ bindO (view m4 r) fun d => match d with
  | .str z => z.length ≤ sizeLine ∧ Q (.fz (.str (stepS z lo hi i))) m4
  | _ => False) Qx) Qx) Qx) Qx
theorem ve_slStS {lo hi : Option Expr} {st : Expr} {fl fh fs : FO} {p2 : Pos} (ha : VE X W a fa) (hl : VO X W lo fl) (hh : VO X W hi fh) (hs : VO X W (some st) fs) : VE X W (.Subscript a (.Slice lo hi (some st) p2) pos) (fSlStS fa fl fh fs) := by
  obtain ⟨ta, pa, sa⟩ := ha.ex
  obtain ⟨tl, pl, sl⟩ := hl.ex
  obtain ⟨th, ph, sh⟩ := hh.ex
  obtain ⟨ts, ps, ss⟩ := hs.ex
  refine ⟨⟨_, pe_slStS pa pl ph ps, fun w m Q Qx Q' s h k kx => ?_⟩⟩
  refine sa w m _ Qx _ s h (fun r m1 w1 v e1 a1 r1 q => ?_) kx
  rw [← e1]
  refine sl w1 m1 _ Qx _ a1.ok q (fun lo m2 w2 e2 a2 q => ?_) (kx.aft a1 e1)
  rw [← e2]
  have a12 := a1.trans a2
  refine sh w2 m2 _ Qx _ a2.ok q (fun hi m3 w3 e3 a3 q => ?_) (kx.aft a12 (e2.trans e1))
  rw [← e3]
  have a13 := a12.trans a3
  refine ss w3 m3 _ Qx _ a3.ok q (fun st m4 w4 e4 a4 q => ?_) (kx.aft a13 (e3.trans (e2.trans e1)))
  obtain ⟨i, hi2, q⟩ := bindO_elim q
  obtain ⟨d, hd, q'⟩ := bindO_elim q.2.2
  have a14 := a13.trans a4
  have r4 := ((r1.step a2.st e2).step a3.st e3).step a4.st e4
  have hv := a4.ok.view r4 hd
  split at q'
  · cases hv
    exact ⟨_, i, rfl, hi2, q.1, q.2.1, q'.1, k _ m4 w4 _ (e4.trans (e3.trans (e2.trans e1))) a14 (retFz (.str _)) q'.2⟩
  · exact q'.elim
end
end VL
namespace VL
open PySem PySem.Spec PyProof.Rows L2
variable [Tabs]
/-- a new container that nobody holds is shared from here on -/
theorem Aft.shareTmp {K : PySem.W.Frag} {wz w : Wd} {mz m : M} {H0 : Hp} {v : V} {d : D} (a : Aft K wz mz w m) (h0 : wz.H = H0) (h : RetOk K H0 w m v (.tmp d)) :
    ∃ p, v = .ref p ∧ Aft K wz mz ⟨w.G, w.H, w.γ ++ [p], w.σ⟩ ⟨m.env, m.gs ++ [d]⟩ ∧ Rep K (w.γ ++ [p]) w.G (.ref p) (.gh m.gs.length) := by
  have s := a.ok
  obtain ⟨p, o, rfl, hz, hg, hn, ho, r⟩ := h
  have pr : Pre w.γ (w.γ ++ [p]) := ⟨[p], rfl⟩
  refine ⟨p, rfl, ⟨⟨s.sub, s.len, fun j d' q => ?_, fun j d' q => ?_, s.inj, by simp [s.gl], fun k b e h1 h2 => ?_, ?_, s.tb⟩, ⟨a.st.gg, a.st.fr, a.st.gn, fun b q => ?_, a.st.al, a.st.gp.trans pr⟩⟩, .gh (by rw [s.gl]; simp)⟩
  · obtain ⟨v, h1, h2⟩ := s.val j d' q
    exact ⟨v, h1, h2.mono pr (Ext.refl _)⟩
  · obtain ⟨b, u, h1, h2, h3, h4, h5⟩ := s.own j d' q
    have nb : b ≠ p := fun z => hn (.inr ⟨j, d', q, by rw [← z]; exact h1⟩)
    exact ⟨b, u, h1, h2, by simp [h3, nb], h4, h5.mono pr (Ext.refl _)⟩
  · by_cases hk : k < w.γ.length
    · have h1 : (w.γ ++ [p])[k]? = some b := h1
      have h2 : (m.gs ++ [d])[k]? = some e := h2
      rw [List.getElem?_append_left hk] at h1
      rw [List.getElem?_append_left (by rw [s.gl]; exact hk)] at h2
      obtain ⟨h3, u, h4, h5⟩ := s.gh k b e h1 h2
      exact ⟨h3, u, h4, h5.mono pr (Ext.refl _)⟩
    · have hl : k < (w.γ ++ [p]).length := (List.getElem?_eq_some_iff.mp h1).1
      rw [List.length_append, List.length_singleton] at hl
      obtain rfl : k = w.γ.length := by omega
      have h1 : (w.γ ++ [p])[w.γ.length]? = some b := h1
      have h2 : (m.gs ++ [d])[w.γ.length]? = some e := h2
      rw [← s.gl] at h2
      simp at h1 h2
      subst h1; subst h2
      exact ⟨hg, o, ho, r.mono pr (Ext.refl _)⟩
  · refine List.nodup_append.mpr ⟨s.gnd, by simp, fun x hx y hy e => ?_⟩
    simp at hy
    exact hn (.inl (by rw [← hy, ← e]; exact hx))
  · rcases q with q | ⟨j, d', q1, q2⟩
    · have q : b ∈ w.γ ++ [p] := q
      rcases List.mem_append.mp q with q | q
      · exact a.st.on b (.inl q)
      · simp at q
        subst q
        exact .inr (by rw [h0]; exact hz)
    · exact a.st.on b (.inr ⟨j, d', q1, q2⟩)
def fGh (f : FE) : FE := fun m Q Qx => f m (fun r m1 => match r with
  | .tmp d => Q (.fz (.gh m1.gs.length)) ⟨m1.env, m1.gs ++ [d]⟩
  | _ => False) Qx
theorem ve_gh {X : Cx} {W : WX} {e : Expr} {f : FE} (h : VE X W e f) : VE X W e (fGh f) := by
  obtain ⟨t, pt, st⟩ := h.ex
  refine ⟨⟨t, pt, fun w m Q Qx Q' s hh k kx => ?_⟩⟩
  refine st w m _ Qx _ s hh (fun r m1 w1 v e1 a1 r1 q => ?_) kx
  cases r with
  | tmp d =>
    obtain ⟨p, rfl, a2, r2⟩ := a1.shareTmp rfl r1
    exact k (.fz (.gh m1.gs.length)) _ ⟨w1.G, w1.H, w1.γ ++ [p], w1.σ⟩ _ e1 a2 (retFz r2) q
  | fz d => exact q.elim
  | sl i => exact q.elim
end VL

set_option maxHeartbeats 4000000
/-! The value layer: list(range(n)). -/
namespace VL
open PySem PySem.Spec PyProof.Rows L2
variable [Tabs]
section
variable {X : Cx} {W : WX} {a : Expr} {fa : FE} {pos : Pos}
theorem rgV_rep {K : PySem.W.Frag} {γ : List Addr} {G : Hp} (j : Int) : RepL K γ G (rgV 0 j) (rangeD 0 j.toNat) := by
  unfold rgV rangeD
  rw [Int.sub_zero]
  generalize List.range j.toNat = l
  induction l with
  | nil => exact .nil
  | cons i l ih => exact .cons (.int _) ih
def fLstRg (f : FE) : FE := fun m Q Qx => f m (fun r m1 => bindO (asI r) fun j => (-(2 ^ 62) ≤ j ∧ j ≤ 16777216) ∧ Q (.tmp (.lst (rangeD 0 j.toNat))) m1) Qx
theorem ve_lstRg {p p2 q : Pos} (hc : X.calm = true) (hgl : Gl X "list") (hml : X.mg "list" = none) (hg : Gl X "range") (hm : X.mg "range" = none) (ha : VE X W a fa)
    (na : starEach [a] X.env = (false, eval a X.env) :: starEach [] X.env := by rfl)
    (nb : starEach [.Call (.Name "range" p2) [a] [] q] X.env = (false, eval (.Call (.Name "range" p2) [a] [] q) X.env) :: starEach [] X.env := by rfl) :
    VE X W (.Call (.Name "list" p) [.Call (.Name "range" p2) [a] [] q] [] pos) (fLstRg fa) := by
  obtain ⟨t, pt, st⟩ := ha.ex
  refine ⟨⟨_, pe_listRg hc hgl hml (prg_1 hg hm pt na) nb, fun w m Q Qx Q' s h k kx => ?_⟩⟩
  refine st w m _ Qx _ s h (fun r m1 w1 v e1 a1 r1 qq => ?_) kx
  obtain ⟨j, hj, ⟨q1, q2⟩, qq⟩ := bindO_elim qq
  have hj2 := asI_ok r1 hj
  refine ⟨j, hj2, ⟨by decide, by decide, q1, by omega, by omega⟩, fun l hl => ?_⟩
  obtain ⟨s2, st2⟩ := a1.ok.put (o := .lst (rgV 0 j)) hl
  exact k (.tmp (.lst (rangeD 0 j.toNat))) m1 (w1.put l (.lst (rgV 0 j))) (.ref l) e1 (a1.trans ⟨s2, st2⟩) ((a1.ok.putRet hl (.lst (rgV_rep j))).from fun _ z => a1.st.back z) qq
end
end VL
namespace VL
open PySem PySem.Spec PyProof.Rows L2
variable [Tabs]
def slB (n : Nat) : Sl → Bool
  | .val d => ghB n d
  | .own d => ghB n d
  | _ => true
theorem slB_pl {d : D} {n : Nat} (h : Pl d n) (k : Nat) : slB k (.val d) = true ∧ slB k (.own d) = true := ⟨plGh h k, plGh h k⟩
/-- what the expression has shared is left behind -/
def fBack (f : FE) : FE := fun m Q Qx => f m (fun r m1 => (m1.env.all (slB m.gs.length) = true ∧ (m1.gs.take m.gs.length).all (ghB m.gs.length) = true ∧ ghR m.gs.length r = true) ∧ Q r ⟨m1.env, m1.gs.take m.gs.length⟩) Qx
theorem Aft.back {K : PySem.W.Frag} {w w1 : Wd} {m m1 : M} (s : SOk K w m) (a : Aft K w m w1 m1) (h1 : m1.env.all (slB m.gs.length) = true) (h2 : (m1.gs.take m.gs.length).all (ghB m.gs.length) = true) :
    Aft K w m ⟨w1.G, w1.H, w.γ, w1.σ⟩ ⟨m1.env, m1.gs.take m.gs.length⟩ := by
  obtain ⟨more, eγ⟩ := a.st.gp
  have hgs := s.gl
  have hlen := a.ok.gl
  rw [eγ, List.length_append] at hlen
  have cut : ∀ {v : V} {d : D}, Rep K w1.γ w1.G v d → ghB m.gs.length d = true → Rep K w.γ w1.G v d := fun q c => by
    rw [eγ] at q; exact q.cutG (by rw [← hgs]; exact c)
  have cutO : ∀ {o : HO} {d : D}, ORep K w1.γ w1.G o d → ghB m.gs.length d = true → ORep K w.γ w1.G o d := fun q c => by
    rw [eγ] at q; exact q.cutG (by rw [← hgs]; exact c)
  have sb : ∀ (i : Nat) (x : Sl), m1.env[i]? = some x → slB m.gs.length x = true := fun i x q => List.all_eq_true.mp h1 x (List.mem_of_getElem? q)
  refine ⟨⟨a.ok.sub, a.ok.len, fun i d q => ?_, fun i d q => ?_, a.ok.inj, ?_, fun k b d q1 q2 => ?_, ?_, a.ok.tb⟩, ⟨a.st.gg, a.st.fr, a.st.gn, fun b q => a.st.on b ?_, a.st.al, Pre.refl _⟩⟩
  · obtain ⟨v, g1, g2⟩ := a.ok.val i d q
    exact ⟨v, g1, cut g2 (sb i _ q)⟩
  · obtain ⟨b, o, g1, g2, g3, g4, g5⟩ := a.ok.own i d q
    exact ⟨b, o, g1, g2, fun z => g3 (by rw [eγ]; exact List.mem_append_left _ z), g4, cutO g5 (sb i _ q)⟩
  · show (m1.gs.take m.gs.length).length = w.γ.length
    rw [List.length_take]; omega
  · have q1 : w.γ[k]? = some b := q1
    have q2 : (m1.gs.take m.gs.length)[k]? = some d := q2
    have hk : k < m.gs.length := by have := (List.getElem?_eq_some_iff.mp q1).1; omega
    have q3 := q2
    rw [List.getElem?_take_of_lt hk] at q2
    obtain ⟨g3, o, g4, g5⟩ := a.ok.gh k b d (a.st.gp.get q1) q2
    exact ⟨g3, o, g4, cutO g5 (List.all_eq_true.mp h2 d (List.mem_of_getElem? q3))⟩
  · have := a.ok.gnd
    rw [eγ] at this
    exact (List.nodup_append.mp this).1
  · rcases q with q | q
    · exact .inl (by rw [eγ]; exact List.mem_append_left _ q)
    · exact .inr q
theorem ve_back {X : Cx} {W : WX} {e : Expr} {f : FE} (h : VE X W e f) : VE X W e (fBack f) := by
  obtain ⟨t, pt, st⟩ := h.ex
  refine ⟨⟨t, pt, fun w m Q Qx Q' s hh k kx => ?_⟩⟩
  refine st w m _ Qx _ s hh (fun r m1 w1 v e1 a1 r1 q => ?_) kx
  obtain ⟨⟨h1, h2, h3⟩, q⟩ := q
  obtain ⟨more, eγ⟩ := a1.st.gp
  refine k r _ ⟨w1.G, w1.H, w.γ, w1.σ⟩ _ e1 (a1.back s h1 h2) ?_ q
  have hgs := s.gl
  cases r with
  | fz d =>
    have r1 : Rep X.K w1.γ w1.G v d := r1
    rw [eγ] at r1
    exact r1.cutG (by rw [← hgs]; exact h3)
  | tmp d =>
    obtain ⟨p, o, rfl, g1, g2, g3, g4, g5⟩ := r1
    rw [eγ] at g5
    refine ⟨p, o, rfl, g1, g2, fun z => g3 ?_, g4, g5.cutG (by rw [← hgs]; exact h3)⟩
    rcases z with z | z
    · exact .inl (by rw [eγ]; exact List.mem_append_left _ z)
    · exact .inr z
  | sl i => exact absurd h3 (by simp [ghR])
end VL

set_option maxHeartbeats 4000000
/-! The value layer: a list's index of a whole number. -/
namespace VL
open PySem PySem.Spec PyProof.Rows L2
variable [Tabs]
section
variable {X : Cx} {W : WX} {a b : Expr} {fa : FE} {gb : FA} {pos : Pos}
def fIdxL (fa : FE) (gb : FA) : FE := fun m Q Qx => fa m (fun ra m1 => bindO (view m1 ra) fun d0 => bindO (lstOf d0) fun _ => gb m1 (fun es m2 => match es with
  | [.int i] => bindO (view m2 ra) fun d => bindO (lstOf d) fun ds => bindO (toInts ds) fun ns => ∃ j : Nat, ns[j]? = some i ∧ (∀ (q : Nat) (z : Int), q < j → ns[q]? = some z → z ≠ i) ∧ Q (.fz (.int (j : Nat))) m2
  | _ => False) Qx) Qx
theorem ve_idxL {apos : Pos} (ha : VE X W a fa) (hb : VA X W [b] gb)
    (hbase : attributeBase a "index" X.env (eval a X.env) = eval a X.env := by rfl)
    (hfew : ((backTo pos (starEach [b] X.env)).all (fun x => !x.1) && (backToKw pos (keywordEach [] X.env)).all (fun x => x.1.isSome)
      && decide ([b].length + ([] : List Keyword).length + (if ([] : List Keyword).isEmpty then 0 else 1) < 30)) = true := by rfl)
    (hline : (apos.endLine == pos.line) = true := by rfl) (hs : starEach [b] X.env = (false, eval b X.env) :: starEach [] X.env := by rfl) (hplain : (backTo pos (starEach [] X.env)).any (·.1) = false := by rfl) :
    VE X W (.Call (.Attribute a "index" apos) [b] [] pos) (fIdxL fa gb) := by
  obtain ⟨ta, p1, sa⟩ := ha.ex
  obtain ⟨tb, p2, sb⟩ := hb.ex
  refine ⟨⟨_, pe_bm PySem.F.plainAttrs_list PySem.F.slot_list_index PySem.F.type_list_index mt_index p1 p2 hbase hfew hline hs hplain, fun w m Q Qx Q' s h k kx => ?_⟩⟩
  refine sa w m _ Qx _ s h (fun ra m1 w1 v e1 a1 r1 q => ?_) kx
  obtain ⟨d0, hd0, q⟩ := bindO_elim q
  obtain ⟨ds0, hds0, q⟩ := bindO_elim q
  obtain ⟨p, xs, rfl, hq, rr⟩ := lst_at a1.ok (a1.ok.view r1 hd0) hds0
  refine ⟨.inl ⟨rfl, xs, hq⟩, ?_⟩
  rw [← e1]
  refine sb w1 m1 _ Qx _ a1.ok q (fun es m2 w2 vs e2 a2 r2 q => ?_) (kx.aft a1 e1)
  split at q
  rotate_left
  · exact q.elim
  rename_i i
  obtain ⟨d, hd, q⟩ := bindO_elim q
  obtain ⟨ds, hds, q⟩ := bindO_elim q
  obtain ⟨ns, hns, q⟩ := bindO_elim q
  obtain ⟨p', ys, ev, hq2, rr2⟩ := lst_at a2.ok (a2.ok.view (r1.step a2.st e2) hd) hds
  cases ev
  rw [toInts_of hns] at rr2
  rw [rep_ints rr2] at hq2
  obtain ⟨j, h1, h2, q⟩ := q
  cases r2 with
  | cons rv rn =>
    cases rn
    cases rv
    refine ⟨p, ns.map .int, .int i, j, .int i, rfl, rfl, hq2, rfl, by simp [flatV], by rw [List.getElem?_map, h1]; rfl, by simp [eqV], fun q' z' hl hz => ?_, k _ m2 w2 _ (e2.trans e1) (a1.trans a2) (retFz (.int _)) q⟩
    rw [List.getElem?_map] at hz
    cases e : ns[q']? with
    | none => rw [e] at hz; cases hz
    | some z =>
      rw [e] at hz
      cases hz
      have := h2 q' z hl e
      simpa [eqV] using this
end
end VL
namespace VL
open PySem PySem.Spec PyProof.Rows L2
variable [Tabs]
section
variable {X : Cx} {W : WX} {a b : Expr} {fa fb : FE} {pos : Pos}
/-- two lists, one beside the other, each locked while it is walked -/
def iZipL (f g : FE) : FI := fun m Q Qx => f m (fun r m1 => bindO (keep m1 r) fun p => g p.2 (fun r' m2 => bindO (keep m2 r') fun p' => iLstOf p'.2 p.1 fun ds lk1 _ => iLstOf p'.2 p'.1 fun es lk2 _ => Q (zipD ds es) (fun m' => lk1 m' ∧ lk2 m') p'.2) Qx) Qx
theorem vi_zipL {elts : List Expr} {kk : Nat} {p tpos : Pos} (hg : Gl X "zip") (hm : X.mg "zip" = none) (ha : VE X W a fa) (hb : VE X W b fb) (hs : starEach [a, b] X.env = (false, eval a X.env) :: starEach [b] X.env := by rfl) (hs2 : starEach [b] X.env = [(false, eval b X.env)] := by rfl) (hpl : (backTo pos (starEach [b] X.env)).any (·.1) = false := by rfl) :
    VI X W (.Tuple elts kk tpos) (.Call (.Name "zip" p) [a, b] [] pos) (iZipL fa fb) := by
  obtain ⟨ta, pa, sa⟩ := ha.ex
  obtain ⟨tb, pb, sb⟩ := hb.ex
  refine ⟨⟨_, pi_zip hg hm (pa_cons pa (pa_cons pb pa_nil hs2) hs) hs hpl, fun w m Q Qx R s h k kx => ?_⟩⟩
  refine sa w m _ _ _ s h (fun r m1 w1 v e1 a1 r1 q => ?_) kx
  obtain ⟨⟨d, m2⟩, hk, q⟩ := bindO_elim q
  obtain ⟨w2, e2, eH, a2, r2⟩ := keep_ok a1 r1 hk
  rw [← eH, ← e1, ← e2]
  have e21 := e2.trans e1
  refine sb w2 m2 _ _ _ a2.ok q (fun r' m3 w3 u e3 a3 r3 q => ?_) (kx.aft a2 e21)
  obtain ⟨⟨d', m4⟩, hk', q⟩ := bindO_elim q
  obtain ⟨w4, e4, eH4, a4, r4⟩ := keep_ok a3 r3 hk'
  obtain ⟨p1, ds, lk1, rfl, q, l1, stA⟩ := lst_stands a4.ok (r2.mono a4.st.gp a4.st.gg) q
  obtain ⟨p2, es, lk2, rfl, q, l2, stB⟩ := lst_stands a4.ok r4 q
  obtain ⟨xs0, g1, _⟩ := stA w4 m4 (.refl a4.ok) l1
  obtain ⟨ys0, g2, _⟩ := stB w4 m4 (.refl a4.ok) l2
  refine ⟨p1, p2, xs0, ys0, rfl, by rw [← eH4]; exact g1, by rw [← eH4]; exact g2, ?_⟩
  rw [← eH4]
  refine k _ _ m4 w4 _ (e4.trans (e3.trans e21)) (a2.trans a4) ⟨fun w' m' a' l => ?_, fun i w' m' a' l hi => ?_, fun i w' m' d x H' a' l hd y => ?_⟩ q
  · obtain ⟨xs, z1, rx⟩ := stA w' m' a' l.1
    obtain ⟨ys, z2, ry⟩ := stB w' m' a' l.2
    refine ⟨xs, ys, z1, z2, ?_⟩
    rw [zipD, List.length_zipWith, rx.length, ry.length]
    omega
  · obtain ⟨xs, z1, rx⟩ := stA w' m' a' l.1
    obtain ⟨ys, z2, ry⟩ := stB w' m' a' l.2
    rw [zipD, List.length_zipWith] at hi
    obtain ⟨x, hx, _⟩ := rx.get (List.getElem?_eq_getElem (show i < ds.length by omega))
    obtain ⟨y, hy, _⟩ := ry.get (List.getElem?_eq_getElem (show i < es.length by omega))
    exact ⟨xs, ys, x, y, z1, z2, hx, hy⟩
  · obtain ⟨xs, z1, rx⟩ := stA w' m' a' l.1
    obtain ⟨ys, z2, ry⟩ := stB w' m' a' l.2
    obtain ⟨T, x, y', rfl, hT, rfl, y1, y2⟩ := y
    rw [zipD, List.getElem?_zipWith] at hd
    cases f1 : ds[i]? with
    | none => rw [f1] at hd; simp at hd
    | some d1 =>
      cases f2 : es[i]? with
      | none => rw [f1, f2] at hd; simp at hd
      | some d2 =>
        rw [f1, f2] at hd
        simp at hd
        subst hd
        obtain ⟨x', hx, rx'⟩ := rx.get f1
        obtain ⟨y'', hy, ry'⟩ := ry.get f2
        have z := y1 xs z1
        rw [hx] at z
        cases z
        have z := y2 ys z2
        rw [hy] at z
        cases z
        obtain ⟨s4, st4⟩ := a'.ok.lay (o := .tup [x, y']) hT
        exact ⟨w'.lay T (.tup [x, y']), rfl, rfl, ⟨s4, st4⟩, .tup upd_same (.cons (rx'.mono (Pre.refl _) st4.gg) (.cons (ry'.mono (Pre.refl _) st4.gg) .nil))⟩
end
end VL

set_option maxHeartbeats 4000000
/-! The value layer: a < b < c. -/
namespace VL
open PySem PySem.Spec PyProof.Rows L2
variable [Tabs]
section
variable {X : Cx} {W : WX} {a b c : Expr} {fa fb fc : FE} {pos : Pos}
def fChain (g g' : G2) (fa fb fc : FE) : FE := fun m Q Qx => fa m (fun ra m1 => fb m1 (fun rb m2 => bindO (view m2 ra) fun d => bindO (view m2 rb) fun e => g d e fun r => bindO (asB r) fun k => iteP k (fc m2 (fun rc m3 => bindO (view m3 rb) fun e' => bindO (view m3 rc) fun f => g' e' f fun r' => Q r' m3) Qx) (Q (.fz (.bl false)) m2)) Qx) Qx
abbrev EV (X : Cx) (W : WX) (t : TE) (f : FE) : Prop := ∀ (w : Wd) (m : M) (Q : Ret → M → Prop) (Qx : PX) (Q' : VK), SOk X.K w m → f m Q Qx → (∀ r m' w' v, w'.σ = w.σ → Aft X.K w m w' m' → RetOk X.K w.H w' m' v r → Q r m' → Q' v w'.H) → ExOk X.K W w m Qx → t w.σ w.H Q'
theorem chain_core {r2 r2' : R2} {g g' : G2} (hv : OpV X.K r2 g) (hv' : OpV X.K r2' g') {ta tb tc : TE} (sa : EV X W ta fa) (sb : EV X W tb fb) (sc : EV X W tc fc) : EV X W (tChain r2 r2' ta tb tc) (fChain g g' fa fb fc) := by
  intro w m Q Qx Q' s h k kx
  refine sa w m _ Qx _ s h (fun ra m1 w1 x e1 a1 r1 q => ?_) kx
  rw [← e1]
  refine sb w1 m1 _ Qx _ a1.ok q (fun rb m2 w2 y e2 a2 r2' q2 => ?_) (kx.aft a1 e1)
  obtain ⟨d, hd, q2⟩ := bindO_elim q2
  obtain ⟨e, he, q2⟩ := bindO_elim q2
  have a12 := a1.trans a2
  have ra' := r1.step a2.st e2
  refine hv w2 m2 x y d e _ _ a2.ok (a2.ok.view ra' hd) (a2.ok.view r2' he) q2 fun r w3 v' e3 a3 r3 k3 => ?_
  obtain ⟨c0, hc0, k3⟩ := bindO_elim k3
  refine ⟨c0, asB_ok r3 hc0, ?_⟩
  have a13 := a12.trans a3
  have e13 := e3.trans (e2.trans e1)
  by_cases hc : c0 = true
  · have k3 := k3.1 hc
    rw [if_pos hc, ← e2, ← e3]
    refine sc w3 m2 _ Qx _ a3.ok k3 (fun rc m4 w4 z e4 a4 r4 q4 => ?_) (kx.aft a13 e13)
    obtain ⟨d', hd', q4⟩ := bindO_elim q4
    obtain ⟨f, hf, q4⟩ := bindO_elim q4
    have rb' := (r2'.step a3.st e3).step a4.st e4
    refine hv' w4 m4 y z d' f _ Q' a4.ok (a4.ok.view rb' hd') (a4.ok.view r4 hf) q4 fun r' w5 v5 e5 a5 r5 k5 => ?_
    have a14 := a13.trans a4
    exact k r' m4 w5 v5 (e5.trans (e4.trans e13)) (a14.trans a5) (r5.from fun _ z => a14.st.back z) k5
  · have k3 := k3.2 (Bool.eq_false_iff.mpr hc)
    rw [if_neg hc]
    exact k (.fz (.bl false)) m2 w3 _ e13 a13 (retFz (.bl _)) k3
theorem ve_chain {op op' : CmpOp} {r2 r2' : R2} {g g' : G2} (ho : OpR X (compareOp op) r2) (hv : OpV X.K r2 g) (ho' : OpR X (compareOp op') r2') (hv' : OpV X.K r2' g') (ha : VE X W a fa) (hb : VE X W b fb) (hc : VE X W c fc)
    (hm : lastMarks [op, op'] [b, c] = false := by with_unfolding_all rfl) : VE X W (.Compare a [op, op'] [b, c] pos) (fChain g g' fa fb fc) := by
  obtain ⟨ta, pa, sa⟩ := ha.ex
  obtain ⟨tb, pb, sb⟩ := hb.ex
  obtain ⟨tc, pc, sc⟩ := hc.ex
  exact ⟨⟨_, pe_chain ho ho' pa pb pc hm, chain_core hv hv' sa sb sc⟩⟩
theorem vt_chain {op op' : CmpOp} {r2 r2' : R2} {g g' : G2} (ho : OpR X (compareOp op) r2) (hv : OpV X.K r2 g) (ho' : OpR X (compareOp op') r2') (hv' : OpV X.K r2' g') (ha : VE X W a fa) (hb : VE X W b fb) (hc : VE X W c fc)
    (hm : lastMarks [op, op'] [b, c] = false := by with_unfolding_all rfl) : VT X W (.Compare a [op, op'] [b, c] pos) (fTest (fChain g g' fa fb fc)) := by
  obtain ⟨ta, pa, sa⟩ := ha.ex
  obtain ⟨tb, pb, sb⟩ := hb.ex
  obtain ⟨tc, pc, sc⟩ := hc.ex
  refine ⟨⟨_, pt_chain ho ho' pa pb pc hm, fun w m Q Qx Q' s h k kx => ?_⟩⟩
  refine chain_core hv hv' sa sb sc w m _ Qx _ s h (fun r m' w' v e a1 r1 q => ?_) kx
  obtain ⟨c, hc, q⟩ := bindO_elim q
  exact ⟨c, asB_ok r1 hc, k c m' w' e a1 q⟩
end
end VL
namespace VL
open PySem PySem.Spec PyProof.Rows L2
variable [Tabs]
section
variable {X : Cx} {W : WX} {pos : Pos}
/-- a call without arguments -/
theorem pe_callS0 {k : Nat} {f : Addr} {fd : FuncData} {ps : List Str} {sp : Sp} {x : Str} {p : Pos} {E : L2.St → XK} (F : FnOk X.prog X.w X.K X.mg X.base (L2.CX X.prog X.w) k f fd ps sp) (hr : Room k X.A) (hg : Gl X x) (hm : X.mg x = some (.ref f)) (hk : PySem.W.keepIn X.K (.ref f) = true) (hb : Binds X.K fd ps []) (hx : ∀ σ, PassesAt (L2.CX X.prog X.w) X σ (E σ))
    (hdb : (x == ("__debug__" : Str)) = false := by decide) : PE X (.Call (.Name x p) [] [] pos) (tCallS sp E tNil) := by
  refine ⟨fun pins s σ H Q I h => ?_⟩
  refine wpAny_Call_Name_kw (ld_glob I hg hm ?_ hdb)
  exact PySem.W.callWith_K0 I.kIn hk (run_fnS F hr hb (hx σ) I .nil h)
theorem ve_call0 {k n : Nat} {f : Addr} {fd : FuncData} {ps : List Str} {g : FV} {x : Str} {p : Pos} (F : FnOk X.prog X.w X.K X.mg X.base (L2.CX X.prog X.w) k f fd ps (spV X.K n g)) (hr : Room k X.A) (hg : Gl X x) (hm : X.mg x = some (.ref f)) (hk : PySem.W.keepIn X.K (.ref f) = true) (hb : Binds X.K fd ps [])
    (tk : Takes X W) (hdb : (x == ("__debug__" : Str)) = false := by decide) : VE X W (.Call (.Name x p) [] [] pos) (fCall n g aNil) := by
  refine ⟨⟨_, pe_callS0 F hr hg hm hk hb (fun σ => passAt tk σ) hdb, fun w m Q Qx Q' s h k kx => ?_⟩⟩
  exact call_core rfl (.refl s) .nil h k kx
end
end VL
namespace VL
open PySem PySem.Spec PyProof.Rows L2
variable [Tabs]
/-- str(..) of a whole number -/
def gStrI : G1 := fun d k => match d with
  | .int i => (-(2 ^ 62) ≤ i ∧ i < 2 ^ 62) ∧ k (.fz (.str (toString i)))
  | _ => False
theorem strIV {K : PySem.W.Frag} : UnV K (fun v H Q => (fun xs H Q => ∃ i : Int, xs = [V.int i] ∧ i.natAbs.log2 < 1920 ∧ Q (.str (toString i)) H : List V → Hp → VK → Prop) [v] H Q) gStrI := by
  intro w m v d k Q' s hv h q
  unfold gStrI at h
  split at h
  · rename_i i
    cases hv
    obtain ⟨⟨h1, h2⟩, h⟩ := h
    refine ⟨i, rfl, ?_, outFz s q (.str _) h⟩
    by_cases c : i.natAbs = 0
    · rw [c]; decide
    · have : i.natAbs < 2 ^ 63 := by omega
      have := (Nat.log2_lt c).mpr this
      omega
  · exact h.elim
theorem bt_str : bootBuiltins "str" = some (.type "str") := by with_unfolding_all rfl
end VL
namespace VL
open PySem PySem.Spec PyProof.Rows L2
variable [Tabs]
/-- ord(..) of one sign -/
def gOrd : G1 := fun d k => match d with
  | .str x => x.length = 1 ∧ k (.fz (.int (x.cps.getD 0 0 : Nat)))
  | _ => False
theorem ordV {K : PySem.W.Frag} : UnV K (fun v H Q => (fun xs H Q => ∃ x : Str, xs = [V.str x] ∧ x.length = 1 ∧ Q (.int (x.cps.getD 0 0 : Nat)) H : List V → Hp → VK → Prop) [v] H Q) gOrd := by
  intro w m v d k Q' s hv h q
  unfold gOrd at h
  split at h
  · rename_i x
    cases hv
    exact ⟨x, rfl, h.1, outFz s q (.int _) h.2⟩
  · exact h.elim
end VL

set_option maxHeartbeats 4000000
/-! The value layer: lambdas with parameters, handed on as closures. -/
namespace VL
open PySem PySem.Spec PyProof.Rows L2 NdefX LamX
variable [Tabs]
/-- a function object that was just laid is tracked -/
theorem fn_known {X : Cx} {pins : List (Addr × Obj)} {σ : L2.St} {H : Hp} {s : Shared} {F : FW} {name qual : Str} {cl : List (Str × Addr)} {c : Addr} {doc pm ctv : Value} {tk : Nat} {ob : Obj} (J : Inv X pins σ H s)
    (eo : ob = { cls := .type "function", data := .func { name, qualname := qual, params := F.1, body := F.2.1, scope := F.2.2, globals := mainGlobals, closure := cl, defaults := .none, kwdefaults := .none, doc, pyModule := pm, annotations := none, code := .ref c, closureTuple := ctv, builtins := builtinsNs } }) :
    Inv X pins σ (upd H s.heap.objs.size (FnG s.heap.objs.size F name qual cl c)) { s with heap := s.heap.push ob, toks := tk } := by
  refine J.laid (fun _ _ z => Heap.get?_push_of_some _ z) (Nat.le_refl _) ?_
  have g : (s.heap.push ob).get? s.heap.objs.size = some ob := Heap.get?_push_size _ (by rw [eo]; rfl)
  rw [eo] at g ⊢
  exact ⟨⟨none, #[], doc, pm, ctv, g⟩, ⟨_, g⟩, fun _ _ ⟨od, sl, x, y, z, q⟩ st => ⟨od, sl, x, y, z, st _ q⟩⟩
theorem two_upd {H : Hp} {P c : Addr} {o u : HO} {qs : Array Value} (hP : H P = some (.tbl qs)) (hc : H c = none) : ExtN H (upd (upd H P o) c u) := fun b v e n => by
  have h1 : b ≠ c := ne_of_none e hc
  have h2 : b ≠ P := fun z => by rw [z, hP] at e; cases e; exact n _ rfl
  rw [upd_ne h1, upd_ne h2]
  exact e
/-- a table that tells one code object more -/
theorem tabs_more {H : Hp} {P c : Addr} {nm : Nat → Nat → Str} {q : Str} {qs : Array Value} {pos : Pos} (hT : TabsN Tabs.T H) (hu : ∀ p ∈ (Tabs.T : List NTab), p.1 = P → p.2 = nm) (hP : H P = some (.tbl qs)) (h3 : TriplesOk qs.toList)
    (ha : ∀ (p' : Pos) (cv : Value), codeAmong p' qs.toList = some cv → ∃ d, cv = .ref d ∧ H d = some (CodeO d (nm p'.line p'.col))) (hn : nm pos.line pos.col = q) (hc : H c = none) :
    TabsN Tabs.T (upd (upd H P (.tbl (qs ++ #[rawInt pos.line, rawInt pos.col, .ref c]))) c (CodeO c q)) := by
  have ex := two_upd (o := .tbl (qs ++ #[rawInt pos.line, rawInt pos.col, .ref c])) (u := CodeO c q) hP hc
  have nPc : P ≠ c := ne_of_none hP hc
  have el : (qs ++ #[rawInt pos.line, rawInt pos.col, Value.ref c]).toList = qs.toList ++ [rawInt pos.line, rawInt pos.col, .ref c] := by simp
  intro p hp
  by_cases hb : p.1 = P
  · refine ⟨qs ++ #[rawInt pos.line, rawInt pos.col, .ref c], ?_, ?_, fun p' cv hcv => ?_⟩
    · rw [hb, upd_ne nPc, upd_same]
    · rw [el]; exact PySem.TriplesOk_snoc _ _ _ _ h3
    · rw [el] at hcv
      rw [hu p hp hb]
      rcases among_app2 _ h3 hcv with z | ⟨z, z1, z2⟩
      · obtain ⟨d, e1, e2⟩ := ha p' cv z
        exact ⟨d, e1, ex _ _ e2 codeO_ne⟩
      · exact ⟨c, z, by rw [← z1, ← z2, hn]; exact upd_same⟩
  · obtain ⟨rs, a1, a2, a3⟩ := hT p hp
    refine ⟨rs, ?_, a2, fun p' cv hcv => ?_⟩
    · rw [upd_ne (ne_of_none a1 hc), upd_ne hb]; exact a1
    · obtain ⟨d, e1, e2⟩ := a3 p' cv hcv
      exact ⟨d, e1, ex _ _ e2 codeO_ne⟩
section
variable {X : Cx} {W : WX}
abbrev lamN : Str := "<lambda>"
theorem lam_made {nm : Nat → Nat → Str} {c P : Addr} {pa : Arguments} {body : Expr} {sc : Scope} {pos : Pos} {pins : List (Addr × Obj)} {σ : L2.St} {H : Hp} {s : Shared} {E Q : Value → Shared → Prop} (J : Inv X pins σ H s) (TB : LamX.TabB X.base X.mg c P) (hcode : X.env.code = .ref c)
    (hm : (P, nm) ∈ (Tabs.T : List NTab)) (hn : nm pos.line pos.col = X.env.qual ++ lamN) (hu : ∀ p ∈ (Tabs.T : List NTab), p.1 = P → p.2 = nm) (hT : TabsN Tabs.T H) (hd : defaultsOf pa X.env = ([], [])) (hf : ∀ y ∈ sc.names, y.2 = .free → ∃ d, X.env.cells.lookup y.1 = some d)
    (k : ∀ (f c' : Addr) (H1 : Hp) (s' : Shared), Inv X pins σ H1 s' → ExtN H H1 → (∀ b, H1 b = none → H b = none) → TabsN Tabs.T H1 → H f = none → H1 f = some (FnG f (pa, .expr body, sc) lamN (X.env.qual ++ lamN) (cloFrom X.env.cells sc.names []) c') → H1 c' = some (CodeO c' (X.env.qual ++ lamN)) → Q (.ref f) s') :
    wpAny (model X.prog X.w) X.A (eval (.Lambda pa body sc pos) X.env) Q E s := by
  have hTP : TabN H P nm := hT _ hm
  obtain ⟨qs, hP, h3, ha⟩ := hTP
  have gP : s.heap.get? P = some { cls := .none, data := .fields qs } := J.hok P _ hP
  have bP : s.heap.BuiltinsAt X.mg P := TB.bm.keeps J.bk
  have cd : PySem.W.CodeHd s.heap c P := TB.code.keeps J.bk
  refine PySem.W.kla_eval hd ?_
  rcases none_or (codeAmong pos qs.toList) with hc | ⟨cv, hc⟩
  · refine PySem.W.kla_makeFunction (mg := X.mg) (P := P) (closure_ok hf) J.ok.glob (J.mod.glob.keeps J.bk) hcode cd gP h3 hc TB.gP bP fun c' ctv h' tk hx hge hlt hrec htb => ?_
    obtain ⟨c2, oc, vs, tt, e2, hoc, hdt, hv⟩ := hrec
    cases e2
    have nC : H c' = none := J.hok.fresh hge
    have J1 := inv_table (t' := tk) (more := #[rawInt pos.line, rawInt pos.col, .ref c']) J hP (fun b o hb e => hx b o hb e) htb hge ⟨oc, vs, tt, hoc, hdt, hv⟩
    have nF := J1.hok.fresh (Nat.le_refl _)
    have J2 := fn_known (F := (pa, .expr body, sc)) (name := lamN) (qual := X.env.qual ++ lamN) (cl := cloFrom X.env.cells sc.names []) (c := c') (doc := .none) (pm := (X.mg "__name__").getD .none) (ctv := ctv) (tk := tk) J1 rfl
    have T1 := tabs_more (c := c') (pos := pos) hT hu hP h3 ha hn nC
    have ex := two_upd (o := .tbl (qs ++ #[rawInt pos.line, rawInt pos.col, .ref c'])) (u := CodeO c' (X.env.qual ++ lamN)) hP nC
    refine k h'.objs.size c' _ _ J2 (fun b o e n => ?_) (fun b e => upd_none (upd_none (upd_none e))) (T1.ext fun b o e => ?_) (J.hok.fresh (Nat.le_trans hge (Nat.le_of_lt hlt))) upd_same ?_
    · have y := ex b o e n
      exact (upd_ne (ne_of_none y nF)).trans y
    · exact (upd_ne (ne_of_none e nF)).trans e
    · exact (upd_ne (Nat.ne_of_lt hlt)).trans upd_same
  · obtain ⟨c', e, hco⟩ := ha pos cv hc
    subst e
    rw [hn] at hco
    refine PySem.W.kla_makeFunctionHit (mg := X.mg) (P := P) (closure_ok hf) J.ok.glob (J.mod.glob.keeps J.bk) hcode cd gP h3 hc bP fun ctv h' tk hx hsz => ?_
    have J1 : Inv X pins σ H { s with heap := h', toks := tk } := J.kept hx
    have nF : H h'.objs.size = none := J1.hok.fresh (Nat.le_refl _)
    have J2 := fn_known (F := (pa, .expr body, sc)) (name := lamN) (qual := X.env.qual ++ lamN) (cl := cloFrom X.env.cells sc.names []) (c := c') (doc := .none) (pm := (X.mg "__name__").getD .none) (ctv := ctv) (tk := tk) J1 rfl
    refine k h'.objs.size c' _ _ J2 (fun b o e n => ?_) (fun b e => upd_none e) (hT.ext fun b o e => ?_) nF upd_same ?_
    · exact (upd_ne (ne_of_none e nF)).trans e
    · exact (upd_ne (ne_of_none e nF)).trans e
    · exact (upd_ne (ne_of_none hco nF)).trans hco
/-- lambda ..: .. as a value: it knows the frame's cells cs -/
def fLam (q : Str) (n : Nat) (cs : List (Str × Addr)) : FE := fun m Q _ => Q (.fz (.fn q n cs)) m
def tLamG (q : Str) (pa : Arguments) (body : Expr) (sc : Scope) (cl : List (Str × Addr)) : TE := fun _ H Q => TabsN Tabs.T H ∧ ∀ (f c' : Addr) (H1 : Hp), ExtN H H1 → (∀ b, H1 b = none → H b = none) → TabsN Tabs.T H1 → H f = none → H1 f = some (FnG f (pa, .expr body, sc) lamN q cl c') → H1 c' = some (CodeO c' q) → Q (.ref f) H1
theorem ve_lam {q : Str} {n : Nat} {nm : Nat → Nat → Str} {c P : Addr} {pa : Arguments} {body : Expr} {sc : Scope} {pos : Pos} (nth : NthFn X.K q n (pa, .expr body, sc)) (TB : LamX.TabB X.base X.mg c P) (hm : (P, nm) ∈ (Tabs.T : List NTab)) (hu : ∀ p ∈ (Tabs.T : List NTab), p.1 = P → p.2 = nm)
    (hcode : X.env.code = .ref c) (hn : nm pos.line pos.col = X.env.qual ++ lamN) (hf : ∀ y ∈ sc.names, y.2 = .free → X.env.scope.names.lookup y.1 = some .cell ∨ X.env.scope.names.lookup y.1 = some .free) (hd : defaultsOf pa X.env = ([], [])) :
    VE X W (.Lambda pa body sc pos) (fLam q n X.env.cells) := by
  refine ⟨⟨tLamG (X.env.qual ++ lamN) pa body sc (cloFrom X.env.cells sc.names []), ⟨fun pins s σ H Q J h => ?_⟩, fun w m Q Qx Q' s h k kx => ⟨s.tb.1, fun f c' H1 eN nn T1 f0 f1 c1 => ?_⟩⟩⟩
  · refine lam_made J TB hcode hm hn hu h.1 hd (fun y hy e => (hf y hy e).elim (fun z => J.ok.has _ (.inl z)) fun z => J.ok.has _ (.inr z)) fun f c' H1 s' J1 eN nn T1 f0 f1 c1 => ?_
    exact ⟨.ref f, H1, J1, rfl, h.2 f c' H1 eN nn T1 f0 f1 c1⟩
  · obtain ⟨w1, e1, e2, a1, r⟩ := made_ok (cs := X.env.cells) s nth eN nn T1 f0 f1 c1
    rw [← e2]
    exact k _ m w1 _ e1 a1 (retFz r) h
end
/-- a lambda's promise by its expression -/
theorem lok_ok {P : Program} {w : World} {K : PySem.W.Frag} {mg : Str → Option Value} {base : Heap} {pa : Arguments} {body : Expr} {sc : Scope} {name qual : Str} {cl : List (Str × Addr)} {f c : Addr} {N ps fr : List Str} {k : Nat} {fe : FE} (S : NScope N ps fr sc)
    (hb : ∀ (doc pm ctv : Value) (us : List Value), us.length = ps.length → bindArgs ({ name, qualname := qual, params := pa, body := .expr body, scope := sc, globals := mainGlobals, closure := cl, defaults := .none, kwdefaults := .none, doc, pyModule := pm, annotations := none, code := .ref c, closureTuple := ctv, builtins := builtinsNs }) ⟨us, []⟩ = pure (ps.zip us))
    (hbody : ∀ (A : Around) (outer : List Env) (s : Shared) (H : Hp) (E : XK), Room k (A.deeper (envF ⟨name, qual, pa, [], sc, cl, c⟩ f s.heap.objs.size)) → VE (ncx (L2.CX P w) P w K mg base N ⟨name, qual, pa, [], sc, cl, c⟩ f A outer s H E) (fun cls d _ H => E cls d H) body fe) :
    GOk P w K mg base (k + 1) f (pa, .expr body, sc) name qual cl c ps fr (spN K ps.length fun caps ds => bodyV N.length (sRet fe) (ds ++ caps)) := by
  refine ⟨fun A outer s H us vs ws Q E hr e0 hf hc C r h => ?_⟩
  obtain ⟨G, γ, cvs, caps, ds, gs, Qr, rfl, rc, s0, rv, hn, q, k1⟩ := h
  have hl : vs.length = ps.length := by rw [rv.length]; exact hn
  have lim : s.heap.NoLimit := e0.mod.nolimit.keeps fun b o e => (e0.bs b o e).1
  obtain ⟨od, sl, doc, pm, ctv, ho⟩ := fnG_get e0.hok hf
  refine PySem.W.kla_callFunE hr.depth ho rfl S.co S.gen rfl (codeO_at e0.hok hc) ?_
  rw [hb doc pm ctv us (by rw [← r.length]; exact hl)]
  refine wpAny_pure (wpAny_newFunctionEnv S.nocell (fun ⟨x, _⟩ hy => S.par x (List.of_mem_zip hy).1) (fun h1 hns hsb => ⟨lim.fresh _ hsb, ?_⟩) S.kind)
  have kp : ∀ b o, s.heap.get? b = some o → h1.get? b = some o := fun b o e => hsb.extBut b o (Nat.ne_of_lt (Heap.lt_size e)) (Heap.get?_push_of_some _ e)
  obtain ⟨t, pt, st⟩ := (hbody A outer s H E (hr.deeper _)).ex
  have J : Inv (ncx (L2.CX P w) P w K mg base N ⟨name, qual, pa, [], sc, cl, c⟩ f A outer s H E) [] (startF N vs (cvs.map some)) H { s with heap := h1, toks := s.toks + (ps.zip us).length } := inv_startN (F := ⟨name, qual, pa, [], sc, cl, c⟩) S hr.hd e0 hl r C hns kp
  have e : startF N vs (cvs.map some) = L2.start N (vs ++ cvs) := by
    unfold startF L2.start
    rw [List.map_append, List.append_assoc, List.length_append, List.length_map, Nat.sub_sub]
  rw [e] at J
  have hgs : gs.length = γ.length := s0.gl
  refine PySem.W.kla_codeExpr (wpAny_mono (pt.run [] _ _ H Q J ?_) (fun v s' z => ?_) fun e s' z => z)
  · refine st ⟨G, H, γ, L2.start N (vs ++ cvs)⟩ (padM N.length (ds ++ caps) gs) _ _ _ (padM_ok s0 (rv.append rc)) q (fun r' m' w' v e' a' rr q' => ?_) fun xc m' w' d _ _ _ q' => q'.2.elim
    obtain ⟨r2, e2, c2, q2⟩ := bindO_elim q'
    exact k1 r2 _ w'.G w'.H v (body_end hgs a' c2) (body_ret hgs a' rr e2 c2) q2
  · obtain ⟨x, H', J', rx, q'⟩ := z
    exact ⟨x, H', J'.os, J'.bare, J'.base, J'.hok, rx, q'⟩
/-! ### ways into a text -/
def dS0 : Stmt := .Pass ⟨0, 0, 0, 0⟩
def dE0 : Expr := .Name "" ⟨0, 0, 0, 0⟩
def eKids : Expr → List Expr
  | .BoolOp _ es _ => es
  | .BinOp a _ b _ => [a, b]
  | .UnaryOp _ a _ => [a]
  | .IfExp a b c _ => [a, b, c]
  | .Compare a _ bs _ => a :: bs
  | .Call f es _ _ => f :: es
  | .Tuple es _ _ => es
  | .List es _ => es
  | .Subscript a b _ => [a, b]
  | .Attribute a _ _ => [a]
  | .ListComp e _ _ _ => [e]
  | _ => []
def sKids : Stmt → List Expr
  | .Return (some e) _ => [e]
  | .Assign _ e _ => [e]
  | .AugAssign _ _ e _ => [e]
  | .If e _ _ _ => [e]
  | .While e _ _ _ => [e]
  | .For _ e _ _ _ => [e]
  | .Expr e _ => [e]
  | _ => []
def sBody : Stmt → List Stmt
  | .If _ b _ _ => b
  | .While _ b _ _ => b
  | .For _ _ b _ _ => b
  | .Try b _ _ _ _ => b
  | _ => []
def sElse : Stmt → List Stmt
  | .If _ _ b _ => b
  | _ => []
def lamA : Expr → Arguments
  | .Lambda a _ _ _ => a
  | _ => C8.fnArgs dS0
def lamB : Expr → Expr
  | .Lambda _ b _ _ => b
  | e => e
def lamS : Expr → Scope
  | .Lambda _ _ s _ => s
  | _ => C8.fnScope dS0
end VL

set_option maxHeartbeats 4000000
/-! The value layer: list(range(a, b)). -/
namespace VL
open PySem PySem.Spec PyProof.Rows L2
variable [Tabs]
section
variable {X : Cx} {W : WX} {a b : Expr} {fa fb : FE} {pos : Pos}
theorem rgV_rep2 {K : PySem.W.Frag} {γ : List Addr} {G : Hp} (i j : Int) : RepL K γ G (rgV i j) (rangeD i (j - i).toNat) := by
  unfold rgV rangeD
  generalize List.range (j - i).toNat = l
  induction l with
  | nil => exact .nil
  | cons i l ih => exact .cons (.int _) ih
def fLstRg2 (f g : FE) : FE := fun m Q Qx => f m (fun r m1 => g m1 (fun r' m2 => bindO (asI r) fun i => bindO (asI r') fun j => (-16777216 ≤ i ∧ i ≤ 16777216 ∧ -16777216 ≤ j ∧ j ≤ 16777216 ∧ j - i ≤ 16777216) ∧ Q (.tmp (.lst (rangeD i (j - i).toNat))) m2) Qx) Qx
theorem ve_lstRg2 {p p2 q : Pos} (hc : X.calm = true) (hgl : Gl X "list") (hml : X.mg "list" = none) (hg : Gl X "range") (hm : X.mg "range" = none) (ha : VE X W a fa) (hb : VE X W b fb)
    (na : starEach [a, b] X.env = (false, eval a X.env) :: starEach [b] X.env := by rfl)
    (n1 : starEach [b] X.env = (false, eval b X.env) :: starEach [] X.env := by rfl)
    (hp : (backTo q (starEach [b] X.env)).any (·.1) = false := by rfl)
    (nb : starEach [.Call (.Name "range" p2) [a, b] [] q] X.env = (false, eval (.Call (.Name "range" p2) [a, b] [] q) X.env) :: starEach [] X.env := by rfl) :
    VE X W (.Call (.Name "list" p) [.Call (.Name "range" p2) [a, b] [] q] [] pos) (fLstRg2 fa fb) := by
  obtain ⟨ta, pa, sa⟩ := ha.ex
  obtain ⟨tb, pb, sb⟩ := hb.ex
  refine ⟨⟨_, pe_listRg hc hgl hml (prg_2 hg hm pa pb na n1 hp) nb, fun w m Q Qx Q' s h k kx => ?_⟩⟩
  refine sa w m _ Qx _ s h (fun r m1 w1 v e1 a1 r1 qq => ?_) kx
  rw [← e1]
  refine sb w1 m1 _ _ _ a1.ok qq (fun r' m2 w2 u e2 a2 r2 qq => ?_) (kx.aft a1 e1)
  obtain ⟨i, hi, qq⟩ := bindO_elim qq
  obtain ⟨j, hj, ⟨q1, q2, q3, q4, q5⟩, qq⟩ := bindO_elim qq
  refine ⟨i, j, asI_ok r1 hi, asI_ok r2 hj, ⟨by omega, by omega, by omega, by omega, by omega⟩, fun l hl => ?_⟩
  obtain ⟨s2, st2⟩ := a2.ok.put (o := .lst (rgV i j)) hl
  exact k (.tmp (.lst (rangeD i (j - i).toNat))) m2 (w2.put l (.lst (rgV i j))) (.ref l) (e2.trans e1) ((a1.trans a2).trans ⟨s2, st2⟩) ((a2.ok.putRet hl (.lst (rgV_rep2 i j))).from fun _ z => a1.st.back (a2.st.back z)) qq
end
end VL

set_option maxHeartbeats 4000000
/-! The value layer: exceptions raised, caught, kept. -/
namespace VL
open PySem PySem.Spec PyProof.Rows L2

/-! ### a caught exception as a tracked object -/
theorem xco_ok {P : Program} {w : World} {H : Hp} {h : Heap} {a C : Addr} {d : Option Addr} {oe : Obj} {vs : Array Value} (e : h.get? a = some oe) (z : Zc (.ref C) d oe) (hd : oe.data = .fields vs) : ObjOk P w H h a (XcO a C d) :=
  ⟨⟨oe, e, z.1, z.2, vs, hd⟩, ⟨oe, e⟩, fun _ _ ⟨o, q, r⟩ k => ⟨o, k o q, r⟩⟩
section
variable {X : Cx} {pins : List (Addr × Obj)} {σ : L2.St} {H : Hp} {s : Shared}
/-- in the suite of a clause: the exception at a is tracked -/
theorem inv_held (I : Inv X pins σ H s) {a C : Addr} {d : Option Addr} {oe : Obj} {vs : Array Value} (ha : s.heap.get? a = some oe) (hd : oe.data = .fields vs) (z : Zc (.ref C) d oe) (na : H a = none) (nL : a ≠ X.env.locals)
    (n0 : X.s_0.heap.get? a = none) (np : ∀ p ∈ X.pn ++ pins, p.1 ≠ a) : Inv (X.suite a (X.pn ++ pins)) [] σ (upd H a (XcO a C d)) s where
  ok := I.ok.suite _ _
  os := I.os
  bare := I.bare
  base := ⟨I.base.keep, I.base.slot, fun b o e n x => (upd_ne (fun q => by rw [q, n0] at e; cases e)).trans (I.base.free b o e n x), I.base.there, fun b xs q => (upd_ne (ne_of_none (I.base.tups b xs q) na)).trans (I.base.tups b xs q),
    fun b o u q => (upd_ne (ne_of_none (I.base.frzs b o u q) na)).trans (I.base.frzs b o u q), fun b ps q => let ⟨m, e⟩ := I.base.tbls b ps q; ⟨m, (upd_ne (ne_of_none e na)).trans e⟩⟩
  loc := I.loc
  cell := I.cell
  free := (upd_ne (Ne.symm nL)).trans I.free
  freeC := fun x c e => by
    obtain ⟨v, o, h1, h2⟩ := I.cell x c e
    refine (upd_ne fun q => ?_).trans (I.freeC x c e)
    rw [q, ha] at h1
    cases h1
    rw [hd] at h2
    cases h2
  pin := fun p hp => by
    have hp : p ∈ (X.pn ++ pins) ++ [] := hp
    rw [List.append_nil] at hp
    obtain ⟨h1, h2, h3⟩ := I.pin p hp
    exact ⟨h1, (upd_ne (np p hp)).trans h2, h3⟩
  hok := fun b o q => by
    by_cases e : b = a
    · subst e
      rw [upd_same] at q
      cases q
      exact xco_ok ha z hd
    · rw [upd_ne e] at q
      exact (I.hok b o q).stay (fun _ _ _ r => r) (fun c r => (upd_ne (ne_of_none r na)).trans r) (fun c xs r => (upd_ne (ne_of_none r na)).trans r)
  len := I.len
/-- behind the suite -/
theorem inv_let {a : Addr} {pn' : List (Addr × Obj)} (I : Inv (X.suite a (X.pn ++ pins)) pn' σ H s) (ok : X.Ok) : Inv X pins σ H s where
  ok := ok
  os := I.os
  bare := I.bare
  base := I.base
  loc := I.loc
  cell := I.cell
  free := I.free
  freeC := I.freeC
  pin := fun p hp => I.pin p (List.mem_append_left _ hp)
  hok := I.hok
  len := I.len
end
/-- what a clause 'except x as n' wishes of an exception of the body, which is tracked in the suite: slot i is n's -/
def wKept (K : PySem.W.Frag) (c : Value) (i : Nat) (ts : TS) (Wout : WX) (D : Ends) : WX := fun cls d σ H =>
  ∃ (b : Bool) (C : Addr), cls = .ref C ∧ PySem.W.exmOne K cls c = some b ∧
    (b = true → ∀ a, H a = none → ts ⟨fun σ' H' => D.nx (σ'.set i none) H', D.rt, fun σ' H' => D.bk (σ'.set i none) H', fun σ' H' => D.ct (σ'.set i none) H'⟩ (σ.set i (some (.ref a))) (upd H a (XcO a C d))) ∧ (b = false → Wout cls d σ H)
section
variable {X : Cx} {x n : Str} {c : Value} {i : Nat} {body suite : List Stmt} {b₀ : Stmt} {np pos pos' : Pos} {tb : WX → TS} {ts : TS} {Wout : WX}
theorem ps_try_kept (hs : X.stack = X.env :: X.outer) (hf : X.env.frame = some X.env.locals) (hex : X.ex = []) (hN : X.N.Nodup) (hi : X.N[i]? = some n) (hln : X.env.kindOf n = some .local) (hc : Names X x c) (tk : Takes X Wout)
    (hb : ∀ (W : WX) (pn : List (Addr × Obj)) (xe : Value → Shared → Prop), Takes (X.tr pn xe) W → PassesOwn (model X.prog X.w) X.A X.env xe → PSs (X.tr pn xe) body (tb W))
    (hsu : ∀ (a : Addr) (pn : List (Addr × Obj)), PSs (X.suite a pn) (b₀ :: suite) ts) :
    PS X (.Try body [.ExceptHandler (some (.Name x np)) (some n) (b₀ :: suite) pos'] [] [] pos) (fun D σ H => tb (wKept X.K c i ts Wout D) D σ H) := by
  constructor
  intro pins s σ H D I h
  have ok := I.ok
  have hfr := ok.frames.trans (congrArg some hs)
  refine wpAny_Try_except ?_
  have run := (hb (wKept X.K c i ts Wout D) (X.pn ++ pins) (fun e s₁ => wpAny (model X.prog X.w) X.A (noteFrame e X.env) (fun _ s₂ => wpAny (model X.prog X.w) X.A (setFlight e none)
    (fun _ s₃ => wpAny (model X.prog X.w) X.A (handleBy e X.env [.ExceptHandler (some (.Name x np)) (some n) (b₀ :: suite) pos']) (SP X pins D) X.xe s₃) X.xe s₂) X.xe s₁) ?_ PassesOwn.looking).run [] s σ H D (I.toTry _) h
  · refine wpAny_mono run (fun f s1 q => ?_) fun _ _ q => q
    cases f with
    | next => obtain ⟨σ', H', J, q⟩ := q; exact wpAny_execs_nil ⟨σ', H', J.ofTry ok, q⟩
    | brk => obtain ⟨σ', H', J, q⟩ := q; exact ⟨σ', H', J.ofTry ok, q⟩
    | cont => obtain ⟨σ', H', J, q⟩ := q; exact ⟨σ', H', J.ofTry ok, q⟩
    | ret u => obtain ⟨v, σ', H', J, r, q⟩ := q; exact ⟨v, σ', H', J.ofTry ok, r, q⟩
  · rintro u s' ⟨a, B, sI, pins', σ', H', cls, d, rfl, J', nb, up, sky, na, os, ag, b, C, rfl, hb1, yes, no⟩
    have J : Inv X pins σ' H' sI := J'.ofTry ok
    rw [show (X.tr (X.pn ++ pins) _).stack = X.env :: X.outer from hs] at sky
    show wpAny (model X.prog X.w) X.A (noteFrame (.ref a) X.env) _ _ _
    refine Sky.land Zc.steady hfr hf sky fun h3 fl3 up3 => ?_
    have upA := up.trans up3
    have J3 : Inv X pins σ' H' { s' with heap := h3 } := J.landed nb fl3.1 upA os ag
    obtain ⟨oe3, vs3, he3, hz3, hd3⟩ := fl3.there
    -- the exception's object is no frame, and it is new
    have nfr : a ∉ frs (X.env :: X.outer) := fun m => by
      obtain ⟨_, o, e, g⟩ := fl3.2.2.1.mem m
      rw [he3] at e
      cases e
      exact g _ hd3
    have nL : a ≠ X.env.locals := fun q => nfr (List.mem_filterMap.mpr ⟨X.env, List.mem_cons_self, by rw [hf, q]⟩)
    have fresh : ∀ o, sI.heap.get? a ≠ some o := fun o e => by
      have z := nb a o e (by rw [show (X.tr (X.pn ++ pins) _).stack = X.env :: X.outer from hs]; exact nfr)
      rw [fl3.2.1] at z
      cases z
    have n0 : X.s_0.heap.get? a = none := by
      cases e : X.s_0.heap.get? a with
      | none => rfl
      | some o =>
        obtain ⟨o', e'⟩ := J.base.there a o e (by rw [hex]; simp)
        exact absurd e' (fresh o')
    have npn : ∀ p ∈ X.pn ++ pins, p.1 ≠ a := fun p hp q => by
      have z := (J.pin p hp).1
      rw [q] at z
      exact fresh _ z
    refine wpAny_handleBy_cons (codeAny_handlers_test ?_) (by intro q; cases q)
    have ty : PySem.W.Looks (model X.prog X.w) h3 (typeOf (.ref a)) (.ref C) := fun A Q E s k q => wpAny_typeOf_ref (k _ _ he3) (by rw [hz3.1]; exact q)
    have hit := PySem.W.exm_one (M := model X.prog X.w) J3.kIn ty hb1
    have JC := inv_held J3 he3 hd3 hz3 na nL n0 npn
    have name_ : ∀ {Q : Value → Shared → Prop} {E : Value → Shared → Prop}, Q c { s' with heap := h3 } → wpAny (model X.prog X.w) (X.A.mark (some (.ref a))) (eval (.Name x np) X.env) Q E { s' with heap := h3 } := fun {Q E} q => by
      obtain ⟨g1, g2, g3 | ⟨g3, g4, g5⟩⟩ := hc
      · exact ld_glob JC g1 g3 q g2
      · exact ld_blt JC g1 g3 g4 q g5 g2
    refine name_ (hit.here ?_)
    cases b with
    | false =>
      show wpAny _ X.A (handleBy (.ref a) X.env []) _ _ _
      refine wpAny_handleBy_nil ?_
      obtain ⟨_, _, _, oe, vs, T, oT, ts', he, hz, hd, h1, hr⟩ := id fl3
      unfold PySem.passOn
      refine wpAny_bind (wpAny_field he hd h1 ?_)
      rw [if_neg (show ¬ ((Value.ref T == Value.none) = true) from by simp)]
      have go_on : wpAny (model X.prog X.w) X.A (setFlight (.ref a) X.env.frame) (fun _ s4 => wpAny (model X.prog X.w) X.A (throw (.ref a) : Sem Flow) (SP X pins D) X.xe s4) X.xe { s' with heap := h3 } := by
        rw [hf]
        refine HandSPX.setFlight_upZ fl3 fun h4 hh4 up4 => wpAny_throw (tk _ _ ⟨a, B, sI, pins, σ', H', .ref C, d, rfl, J, ?_, upA.trans up4, .inr (.inr (by rw [hs]; exact hh4)), na, os, ag, no rfl⟩)
        exact nb
      first
        | exact wpAny_bind (wpAny_pure (wpAny_bind go_on))
        | exact wpAny_bind go_on
    | true =>
      refine codeAny_handlers_suite_as (HandSPX.lands_againZ fl3 fun h4 fl4 up4 => ?_)
      have J4 : Inv X pins σ' H' { s' with heap := h4 } := J.landed nb fl4.1 (upA.trans up4) os ag
      obtain ⟨oe4, vs4, he4, hz4, hd4⟩ := fl4.there
      refine store_ok (X := X.suite a (X.pn ++ pins)) (v := .ref a) (inv_held J4 he4 hd4 hz4 na nL n0 npn) hN hi (.inl hln) rfl (fun s5 S5 => ?_) (.inr hln)
      have behind : ∀ {s6 : Shared} {σ6 : L2.St} {H6 : Hp} {Q : Shared → Prop}, Inv (X.suite a (X.pn ++ pins)) [] σ6 H6 s6 → (∀ s7, Inv X pins (σ6.set i none) H6 s7 → Q s7) →
          wpAny (model X.prog X.w) X.A (do bindName X.env n .none; unbindBehindTheSuite X.env n pos') (fun _ s7 => Q s7) X.xe s6 := fun {s6 σ6 H6 Q} S6 hq => gone_ok (inv_let S6 ok) hN hi hln hq
      refine wpAny_mono ((hsu a (X.pn ++ pins)).run [] s5 _ _ _ S5 (yes rfl a na)) (fun f s6 q => ?_) fun _ _ z => z.elim
      cases f with
      | next => obtain ⟨σ6, H6, S6, q6⟩ := q; exact behind S6 fun s7 J7 => ⟨_, _, J7, q6⟩
      | brk => obtain ⟨σ6, H6, S6, q6⟩ := q; exact behind S6 fun s7 J7 => ⟨_, _, J7, q6⟩
      | cont => obtain ⟨σ6, H6, S6, q6⟩ := q; exact behind S6 fun s7 J7 => ⟨_, _, J7, q6⟩
      | ret w6 => obtain ⟨v6, σ6, H6, S6, r6, q6⟩ := q; exact behind S6 fun s7 J7 => ⟨_, _, _, J7, r6, q6⟩
end

/-! ### the class of an exception's object, with or without a dict -/
section
open PySem.W PySem.Calls
variable {prog : Program} {w : World} {A : Around} {E : Value → Shared → Prop} {s : Shared} {K : Frag} {x D : Addr} {ox : Obj}
theorem find_data {C : Addr} {od : Option Obj} {name : Str} {a g : Value} (hc : (clsIn K C).isSome = true) (ha : findIn K (.ref C) name = some (some a)) (hg : specialIn K a "__get__" = some (some g)) (ht : takesIn K a = some true) : findObj K C od name = some (.bind g a) := by
  cases h : clsIn K C with
  | none => rw [h] at hc; cases hc
  | some cd => simp [findObj, h, ha, hg, ht]
theorem exc_class {od : Option Obj} {Q : Option Value → Shared → Prop} (T : ExcC K D) (X : K.In s.heap) (I : InstAt s.heap x ox D od) (h : Q (some (.ref D)) { s with toks := s.toks + 1 }) : wpAny (model prog w) A (getAttr? (.ref x) "__class__") Q E s := by
  have hcl : (clsIn K D).isSome = true := by
    obtain ⟨cd, e, _⟩ := any_some T.hd
    rw [e]
    rfl
  have ff := find_data (od := od) hcl T.ha T.hn T.ht
  obtain ⟨hp, g, dr, tk, os⟩ := s
  have lT := I.type (M := model prog w)
  have lF := looks_find (M := model prog w) X I ff
  have lS : Looks (model prog w) hp (isInstance (.ref x) (.type "BaseException")) true := lT.andThen (looks_subIn X T.hs)
  have q2 : (Value.builtin "BaseException.__getattribute__" == Value.builtin "object.__getattribute__") = false := by decide +kernel
  unfold getAttr? getAttrBy? getAttrBy
  refine wpAny_bind (wpAny_mkText (wpAny_bind (wpAny_attempt (wpAny_holding (wpAny_bind (lT.at (wpAny_bind ((looks_findIn (M := model prog w) X T.hg).at ?_))))))))
  show wpAny _ _ (if (onTheHeap (Value.ref D) && Value.builtin "BaseException.__getattribute__" == Value.builtin "object.__getattribute__") = true then _ else _) _ _ _
  rw [show (onTheHeap (Value.ref D) && Value.builtin "BaseException.__getattribute__" == Value.builtin "object.__getattribute__") = false by rw [q2] <;> rfl, if_neg Bool.false_ne_true]
  unfold getAttrByItsOwn hookBefore
  refine wpAny_bind ?_
  rw [if_pos (show onTheHeap (Value.ref D) = true from rfl)]
  refine (looks_findIn (M := model prog w) X T.hk).at (wpAny_bind (wpAny_attempt (wpAny_holding ?_)))
  unfold callGetattribute
  rw [show (false && onTheHeap (Value.builtin "BaseException.__getattribute__")) = false from rfl, if_neg Bool.false_ne_true]
  unfold boundAndCalled
  rw [PySem.F.excAttr_ValueError.ga.bind (.ref x)]
  refine wpAny_bind (wpAny_pure ?_)
  show wpAny _ _ (call (.builtin "BaseException.__getattribute__") [.ref x, .str "__class__" tk]) _ _ _
  refine wpAny_call (codeAny_call_builtin PySem.F.excAttr_ValueError.ga.plain PySem.F.entry_bexc_ga ?_)
  refine @check_slot (model prog w) _ _ ⟨hp, g, dr, tk + 1, os⟩ "BaseException.__getattribute__" "BaseException" "__getattribute__" (.ref x) [.str "__class__" tk] [] _ (by decide +kernel) (by decide +kernel) lS (PySem.F.args_bexc_ga (.ref x) (.str "__class__" tk)) ?_
  unfold Builtin.«object.__getattribute__»
  refine wpAny_bind (wpAny_of_eq (a := ((Value.ref x : Value), [Value.str "__class__" tk])) (by first | rfl | (simp only [slotArgs]; rfl)) ?_)
  refine wpAny_bind (wpAny_pure (wpAny_bind (lT.at (wpAny_bind (lF.at ?_)))))
  show wpAny _ _ (holding [Value.builtin "object.__class__"] (call (.builtin "getset_descriptor.__get__") [.builtin "object.__class__", .ref x, .ref D]) >>= ret) _ _ _
  refine wpAny_bind (wpAny_holding (wpAny_call (class_get (s := ⟨hp, g, dr, tk + 1, os⟩) (ox := ox) (od := od) X I T.hm (wpAny_pure ?_))))
  show wpAny _ _ (handedOut (.ref D)) _ _ _
  rw [handedOut_of (v := .ref D) rfl]
  first
    | exact wpAny_pure (wpAny_pure h)
    | exact wpAny_pure h
    | exact wpAny_pure (wpAny_bind (wpAny_pure (wpAny_pure h)))
theorem exc_kit {od : Option Obj} (T : ExcC K D) : KitX K (.ref x) (.ref D) (fun h => InstAt h x ox D od) where
  ty := fun _ _ _ I => I.type
  it := fun M h X _ => fun {A' Q' E' s'} k q => by
    have hcl : (clsIn K D).isSome = true := by
      obtain ⟨cd, e, _⟩ := any_some T.hd
      rw [e]
      rfl
    unfold clsIn at hcl
    split at hcl
    · rename_i ho
      unfold isType loadHead
      exact wpAny_bind (wpAny_loadPart (k _ _ (X _ _ ho)) (wpAny_pure q))
    · cases hcl
  ne := fun h tp dd its n sl X htp => (PySem.W.handS_kitx_exc (x := x) (ox := ox) T.hg T.hk T.hs T.hd T.ha T.hn T.ht T.hm).ne h tp dd its n sl X htp
  ca := fun X I k => exc_class T X I k
end

variable [Tabs]
/-! ### the classes by their numbers: 0 is ValueError -/
def subN (par : List Nat) : Nat → Nat → Nat → Bool
  | 0, x, y => decide (x = y)
  | n + 1, x, y => decide (x = y) || (decide (0 < x) && subN par n (par.getD x 0) y)
def clsV : Nat → V
  | 0 => .ty "ValueError"
  | n + 1 => .ref (Tabs.C (n + 1))
def clsU : Nat → Value
  | 0 => .type "ValueError"
  | n + 1 => .ref (Tabs.C (n + 1))
theorem clsVU : ∀ c, ClsV (clsV c) (clsU c)
  | 0 => .ty _
  | _ + 1 => .own _
/-- what the written part must say of the classes -/
structure XcsF (K : PySem.W.Frag) (par : List Nat) : Prop where
  ex : ∀ x, 0 < x → x < par.length → ExcC K (Tabs.C x)
  one : ∀ x y, 0 < x → x < par.length → y < par.length → PySem.W.kitOne K (.ref (Tabs.C x)) (clsU y) = some (subN par 4 x y)
  exm : ∀ x y, 0 < x → x < par.length → y < par.length → PySem.W.exmOne K (.ref (Tabs.C x)) (clsU y) = some (subN par 4 x y)
/-- a class without an own __init__, that is raised -/
structure XcF (K : PySem.W.Frag) (mg : Str → Option Value) (c : Nat) (x : Str) : Prop where
  g : mg x = some (.ref (Tabs.C c))
  k : PySem.W.keepIn K (.ref (Tabs.C c)) = true
  i : PySem.W.excIn K (Tabs.C c) [.type "ValueError", .type "Exception", .type "BaseException", .type "object"] "ValueError.__new__" = true
  s : PySem.W.subIn K (.ref (Tabs.C c)) (.type "BaseException") = some true
  t : PySem.W.typeIn K (.ref (Tabs.C c)) = some (.type "type")

section
variable {K : PySem.W.Frag} {w w' : Wd} {m m' : M}
theorem ext_same {G H : Hp} {p : Addr} {o : HO} (s : Ext G H) (h : H p = some o) : Ext G (upd G p o) := fun a u e => by
  by_cases q : a = p
  · subst q
    rw [s a u e] at h
    cases h
    exact upd_same
  · exact (upd_ne q).trans e
/-- an exception's dict is frozen -/
theorem SOk.frzX (s : SOk K w m) {p : Addr} {fv : List (Str × V)} (h : w.H p = some (.xd fv)) : SOk K (w.frz p (.xd fv)) m ∧ Step w (Own w m) (w.frz p (.xd fv)) (Own (w.frz p (.xd fv)) m) := by
  have e := ext_same s.sub h
  have odd : Odd (.xd fv) := .inr (.inr ⟨fv, rfl⟩)
  have ne : ∀ {b : Addr} {u : HO} {d : D}, w.H b = some u → ORep K w.γ w.G u d → b ≠ p := fun {b u d} q r z => by
    rw [z, h] at q
    cases q
    exact r.odd odd
  refine ⟨⟨fun b u q => ?_, s.len, fun i d q => ?_, fun i d q => ?_, s.inj, s.gl, fun k b d h1 h2 => ?_, s.gnd, s.tb.1, nt_upd s.tb.2 (by intro _ z; cases z)⟩, ⟨e, fun _ _ q _ _ => q, fun b u q => ?_, fun _ q => .inl q, fun b u q => ⟨u, q⟩, Pre.refl _⟩⟩
  · by_cases hb : b = p
    · subst hb
      rw [show (w.frz b (.xd fv)).G b = some (.xd fv) from upd_same] at q
      cases q
      exact h
    · exact s.sub b u ((upd_ne hb).symm.trans q)
  · obtain ⟨v, h1, h2⟩ := s.val i d q
    exact ⟨v, h1, h2.mono (Pre.refl _) e⟩
  · obtain ⟨a, u, h1, h2, h3, h4, h5⟩ := s.own i d q
    exact ⟨a, u, h1, (upd_ne (ne h4 h5)).trans h2, h3, h4, h5.mono (Pre.refl _) e⟩
  · obtain ⟨h3, u, h4, h5⟩ := s.gh k b d h1 h2
    exact ⟨(upd_ne (ne h4 h5)).trans h3, u, h4, h5.mono (Pre.refl _) e⟩
  · by_cases hb : b = p
    · subst hb; exact .inr (.inr (.inr ⟨_, h, odd⟩))
    · exact .inl ((upd_ne hb).symm.trans q)
/-- a caught exception is frozen: its dict, then the object -/
theorem SOk.caught (s : SOk K w m) {xc : Xc} {d : Option Addr} (x : XRep K w xc d) {a : Addr} (na : w.H a = none) :
    ∃ w', w'.σ = w.σ ∧ w'.H = upd w.H a (XcO a (Tabs.C xc.C) d) ∧ Aft K w m w' m ∧ Rep K w'.γ w'.G (.ref a) (.exc xc.C xc.fs) := by
  have nt : ∀ (d : Option Addr) ps, XcO a (Tabs.C xc.C) d ≠ .tbl ps := fun _ _ z => by cases z
  rcases x with ⟨h1, rfl⟩ | ⟨dd, fv, rfl, h1, h2, h3⟩
  · obtain ⟨s1, t1⟩ := s.lay (o := XcO a (Tabs.C xc.C) none) na (nt _)
    refine ⟨w.lay a _, rfl, rfl, ⟨s1, t1⟩, ?_⟩
    rw [h1]
    exact .exc0 upd_same
  · obtain ⟨s0, t0⟩ := s.frzX h1
    obtain ⟨s1, t1⟩ := s0.lay (o := XcO a (Tabs.C xc.C) (some dd)) na (nt _)
    have nd : dd ≠ a := fun z => by rw [z, na] at h1; cases h1
    refine ⟨(w.frz dd (.xd fv)).lay a _, rfl, rfl, ⟨s1, t0.trans t1⟩, .exc1 upd_same ((upd_ne nd).trans upd_same) h2 ?_⟩
    exact h3.mono (Pre.refl _) (t0.gg.trans t1.gg)
end

section
variable {X : Cx} {W : WX} {body suite : List Stmt} {b₀ : Stmt} {fb fs : FS} {f : FE} {e : Expr} {np p p2 p3 pos pos' : Pos}
def sRaise (c : Nat) : FS := fun E m => E.ex ⟨c, []⟩ m
theorem vs_raise {c j : Nat} {x msg : Str} (F : XcF X.K X.mg c x) (hc : X.calm = true) (tk : Takes X W) (hg : Gl X x) (hd : (x == ("__debug__" : Str)) = false := by decide) :
    VS X W (.Raise (some (.Call (.Name x p) [.Constant (.str msg) j p2] [] p3)) none pos) (sRaise c) :=
  ⟨⟨_, ps_raise hc tk (pmk_own PySem.F.excBase_ValueError F.i F.g F.k (raises_own F.s F.t) hg hd), fun w m E D s h k => k.ex ⟨c, []⟩ m w none (.refl s) (.inl ⟨rfl, rfl⟩) h⟩⟩
def canSs (K : PySem.W.Frag) (W : WX) (f : FS) : TS := fun D σ H => ∃ (w : Wd) (m : M) (E : EndsV), w.σ = σ ∧ w.H = H ∧ SOk K w m ∧ f E m ∧ EndsOk K W w m E D
theorem VSs.can (h : VSs X W body fb) : PSs X body (canSs X.K W fb) := by
  obtain ⟨t, p, q⟩ := h.ex
  refine ⟨fun pins s σ H D I hw => ?_⟩
  obtain ⟨w, m, E, rfl, rfl, so, hf, k⟩ := hw
  exact p.run pins s _ _ D I (q w m E D so hf k)
/-- behind a suite: the clause's name is gone -/
def EndsV.gone (E : EndsV) (i : Nat) : EndsV := ⟨fun m => E.nx (m.set i .no), E.rt, fun m => E.bk (m.set i .no), fun m => E.ct (m.set i .no), fun _ _ => False⟩
def sTryAs (par : List Nat) (c i : Nat) (fb fs : FS) : FS := fun E m => fb { E with ex := fun xc m1 => (0 < xc.C ∧ xc.C < par.length) ∧ iteP (subN par 4 xc.C c) (i < m1.env.length ∧ fs (E.gone i) (m1.set i (.val (.exc xc.C xc.fs)))) (E.ex xc m1) } m
theorem aft_gone {K : PySem.W.Frag} {w w' : Wd} {m m' : M} (a : Aft K w m w' m') (i : Nat) : Aft K w m (w'.wip [i]) (m'.set i .no) := a.wip [i]
theorem vs_tryAs {x n : Str} {par : List Nat} {c i : Nat} (F : XcsF X.K par) (hcl : 0 < c ∧ c < par.length) (hgx : X.mg x = some (.ref (Tabs.C c))) (hg : Gl X x) (tk : Takes X W) (hN : X.N.Nodup) 
    (hb : ∀ (W' : WX) (pn : List (Addr × Obj)) (xe : Value → Shared → Prop), Takes (X.tr pn xe) W' → PassesOwn (model X.prog X.w) X.A X.env xe → VSs (X.tr pn xe) W' body fb)
    (hsu : ∀ (a : Addr) (pn : List (Addr × Obj)), VSs (X.suite a pn) (fun _ _ _ _ => False) (b₀ :: suite) fs)
    (hs : X.stack = X.env :: X.outer := by rfl) (hf : X.env.frame = some X.env.locals := by rfl) (hex : X.ex = [] := by rfl) (hi : X.N[i]? = some n := by rfl) (hln : X.env.kindOf n = some .local := by rfl) (hd : (x == ("__debug__" : Str)) = false := by decide) :
    VS X W (.Try body [.ExceptHandler (some (.Name x np)) (some n) (b₀ :: suite) pos'] [] [] pos) (sTryAs par c i fb fs) := by
  refine ⟨⟨_, ps_try_kept (c := .ref (Tabs.C c)) (tb := fun W' => canSs X.K W' fb) (ts := canSs X.K (fun _ _ _ _ => False) fs) hs hf hex hN hi hln ⟨hg, hd, .inl hgx⟩ tk (fun W' pn xe t po => (hb W' pn xe t po).can) (fun a pn => (hsu a pn).can), fun w m E D s h k => ?_⟩⟩
  refine ⟨w, m, _, rfl, rfl, s, h, k.nx, k.rt, k.bk, k.ct, fun xc m1 w1 d a1 x1 q => ?_⟩
  obtain ⟨⟨q0, q1⟩, q2, q3⟩ := q
  have hu : clsU c = .ref (Tabs.C c) := by
    cases c with
    | zero => exact absurd hcl.1 (Nat.lt_irrefl _)
    | succ n => rfl
  refine ⟨subN par 4 xc.C c, Tabs.C xc.C, rfl, by rw [← hu]; exact F.exm _ _ q0 q1 hcl.2, fun hb a na => ?_, fun hb => k.ex xc m1 w1 d a1 x1 (q3 hb)⟩
  obtain ⟨hil, hfs⟩ := q2 hb
  obtain ⟨w2, e2, eH, a2, r2⟩ := a1.ok.caught x1 na
  obtain ⟨s3, t3⟩ := a2.ok.setVal (i := i) (by rw [e2, ← a1.ok.len]; exact hil) r2
  have a13 := (a1.trans a2).trans ⟨s3, t3⟩
  have k3 := k.aft a13
  refine ⟨w2.slot i (.ref a), _, _, by rw [← e2]; rfl, eH, s3, hfs, fun m4 w4 a4 q4 => ?_, fun r m4 w4 v a4 r4 q4 => k3.rt r m4 w4 v a4 r4 q4, fun m4 w4 a4 q4 => ?_, fun m4 w4 a4 q4 => ?_, fun _ _ _ _ _ _ q4 => q4.elim⟩
  · exact k3.nx _ (w4.wip [i]) (aft_gone a4 i) q4
  · exact k3.bk _ (w4.wip [i]) (aft_gone a4 i) q4
  · exact k3.ct _ (w4.wip [i]) (aft_gone a4 i) q4
/-- try .. except X: without a name -/
def sTry (par : List Nat) (c : Nat) (fb fs : FS) : FS := fun E m => fb { E with ex := fun xc m1 => (0 < xc.C ∧ xc.C < par.length) ∧ iteP (subN par 4 xc.C c) (fs { E with ex := fun _ _ => False } m1) (E.ex xc m1) } m
theorem vs_try {x : Str} {par : List Nat} {c : Nat} (F : XcsF X.K par) (hcl : 0 < c ∧ c < par.length) (hgx : X.mg x = some (.ref (Tabs.C c))) (hg : Gl X x) (tk : Takes X W)
    (hb : ∀ (W' : WX) (pn : List (Addr × Obj)) (xe : Value → Shared → Prop), Takes (X.tr pn xe) W' → PassesOwn (model X.prog X.w) X.A X.env xe → VSs (X.tr pn xe) W' body fb)
    (hsu : ∀ (a : Addr) (pn : List (Addr × Obj)), VSs (X.suite a pn) (fun _ _ _ _ => False) (b₀ :: suite) fs)
    (hs : X.stack = X.env :: X.outer := by rfl) (hf : X.env.frame = some X.env.locals := by rfl) (hd : (x == ("__debug__" : Str)) = false := by decide) :
    VS X W (.Try body [.ExceptHandler (some (.Name x np)) none (b₀ :: suite) pos'] [] [] pos) (sTry par c fb fs) := by
  refine ⟨⟨_, ps_try_only (c := .ref (Tabs.C c)) (tb := fun W' => canSs X.K W' fb) (ts := fun _ _ _ => canSs X.K (fun _ _ _ _ => False) fs) hs hf ⟨hg, hd, .inl hgx⟩ tk (fun W' pn xe t po => (hb W' pn xe t po).can) (fun a oe cls d pn _ _ => (hsu a ((a, oe) :: pn)).can), fun w m E D s h k => ?_⟩⟩
  refine ⟨w, m, _, rfl, rfl, s, h, k.nx, k.rt, k.bk, k.ct, fun xc m1 w1 d a1 x1 q => ?_⟩
  obtain ⟨⟨q0, q1⟩, q2, q3⟩ := q
  have hu : clsU c = .ref (Tabs.C c) := by
    cases c with
    | zero => exact absurd hcl.1 (Nat.lt_irrefl _)
    | succ n => rfl
  refine ⟨subN par 4 xc.C c, by rw [← hu]; exact F.exm _ _ q0 q1 hcl.2, fun hb a na => ?_, fun hb => k.ex xc m1 w1 d a1 x1 (q3 hb)⟩
  have k1 := k.aft a1
  exact ⟨w1, m1, _, rfl, rfl, a1.ok, q2 hb, k1.nx, k1.rt, k1.bk, k1.ct, fun _ _ _ _ _ _ q4 => q4.elim⟩

/-! ### isinstance of a kept exception -/
def excOf : D → Option (Nat × List (Str × D))
  | .exc x fs => some (x, fs)
  | _ => none
def fCls (c : Nat) : FE := fC (.raw (clsV c))
theorem ve_cls {x : Str} {c : Nat} (hm : X.mg x = some (.ref (Tabs.C (c + 1)))) (hg : Gl X x) (hd : (x == ("__debug__" : Str)) = false := by decide) : VE X W (.Name x p) (fCls (c + 1)) := ve_glob (v := .ref (Tabs.C (c + 1))) hg hm rfl hd
def aCls : List Nat → FA
  | [] => aNil
  | c :: cs => aCons (fCls c) (aCls cs)
theorem raws_eq {K : PySem.W.Frag} {γ : List Addr} {G : Hp} : ∀ {cs : List Nat} {xs : List V}, RepL K γ G xs (cs.map fun c => .raw (clsV c)) → xs = cs.map clsV
  | [], _, .nil => rfl
  | _ :: _, _, .cons h r => by
    cases h
    rw [raws_eq r]
    rfl
theorem aCls_eq : ∀ (cs : List Nat) (m : M) (Q : List D → M → Prop) (Qx : PX), aCls cs m Q Qx = Q (cs.map fun c => .raw (clsV c)) m
  | [], _, _, _ => rfl
  | c :: cs, m, Q, Qx => aCls_eq cs m (fun ds m2 => Q (.raw (clsV c) :: ds) m2) Qx
/-- an exception's dict stands, where there is one -/
def XdAt (H : Hp) (o : Option Addr) : Prop := ∀ dd, o = some dd → ∃ fv, H dd = some (.xd fv)
def rIsX (K : PySem.W.Frag) : List V → Hp → VK → Prop := fun xs H Q => ∃ (a C : Addr) (o : Option Addr) (c : V) (u : Value) (b : Bool), xs = [.ref a, c] ∧ H a = some (XcO a C o) ∧ XdAt H o ∧ ExcC K C ∧ ClsV c u ∧ PySem.W.kitOne K (.ref C) u = some b ∧ Q (.bl b) H
def rIsXT (K : PySem.W.Frag) : List V → Hp → VK → Prop := fun xs H Q => ∃ (a C tp : Addr) (o : Option Addr) (cs : List V) (us : List Value) (b : Bool), xs = [.ref a, .ref tp] ∧ H a = some (XcO a C o) ∧ XdAt H o ∧ H tp = some (.tup cs) ∧ ExcC K C ∧ Paired ClsV cs us ∧ PySem.W.kitAny K (.ref C) us = some b ∧ Q (.bl b) H
theorem xco_inst {pins : List (Addr × Obj)} {σ : L2.St} {H : Hp} {s : Shared} {a C : Addr} {o : Option Addr} (I : Inv X pins σ H s) (h : H a = some (XcO a C o)) (hx : XdAt H o) : ∃ oe od, PySem.W.InstAt s.heap a oe C od ∧ (o = none → od = none) ∧ ∀ dd, o = some dd → ∃ ob, od = some ob ∧ s.heap.get? dd = some ob := by
  obtain ⟨⟨oe, h1, h2, h3, vs, h4⟩, _⟩ := (show ObjOk X.prog X.w H s.heap a (XcO a C o) from I.hok a _ h)
  have n : PySem.W.notCls oe = true := by unfold PySem.W.notCls; rw [h4] <;> rfl
  cases o with
  | none => exact ⟨oe, none, ⟨h1, h2, n, by rw [h3]; trivial⟩, fun _ => rfl, (fun _ z => by cases z)⟩
  | some dd =>
    obtain ⟨fv, q⟩ := hx dd rfl
    obtain ⟨u, hu⟩ := objOk_get (I.hok dd _ q)
    exact ⟨oe, some u, ⟨h1, h2, n, by rw [h3]; exact hu⟩, (fun z => by cases z), (fun d z => by cases z; exact ⟨u, rfl, hu⟩)⟩
theorem call_isX : CallR X (.builtin "isinstance") (rIsX X.K) := by
  intro pins s σ H xs us Q I r h
  obtain ⟨a, C, o, c, u, b, rfl, ha, hx, T, k, e, q⟩ := h
  obtain ⟨u1, u2, rfl, r1, r2⟩ := vals2 r
  cases (show u1 = Value.ref a from r1)
  have e2 := k.eq r2
  subst e2
  obtain ⟨oe, od, J, _⟩ := xco_inst I ha hx
  exact PySem.W.kia_one (exc_kit T) I.kIn J e (fun z => nomatch z) fun tk => ⟨.bl b, H, I.tok tk, rfl, q⟩
theorem call_isXT : CallR X (.builtin "isinstance") (rIsXT X.K) := by
  intro pins s σ H xs us Q I r h
  obtain ⟨a, C, tp, o, cs, ws, b, rfl, ha, hx, hT, T, k, e, q⟩ := h
  obtain ⟨u1, u2, rfl, r1, r2⟩ := vals2 r
  cases (show u1 = Value.ref a from r1)
  cases (show u2 = Value.ref tp from r2)
  obtain ⟨oe, od, J, _⟩ := xco_inst I ha hx
  obtain ⟨_, its, rv, o, h1, h2, n, h3⟩ := (show ObjOk X.prog X.w H s.heap tp (.tup cs) from I.hok tp _ hT)
  have e3 := ClsV.all k rv
  subst e3
  obtain ⟨oc, od, dt, sl⟩ := o
  simp only at h2 h3
  subst h2 h3
  exact PySem.W.kia_tup (exc_kit T) I.kIn J h1 e (fun z => nomatch z) fun tk => ⟨.bl b, H, I.tok tk, rfl, q⟩
theorem exc_at {K : PySem.W.Frag} {w : Wd} {m : M} {v : V} {d : D} {x : Nat × List (Str × D)} (s : SOk K w m) (hv : Vw K w v d) (he : excOf d = some x) : ∃ (a : Addr) (o : Option Addr), v = .ref a ∧ w.H a = some (XcO a (Tabs.C x.1) o) ∧ XdAt w.H o ∧
    (x.2 = [] ∨ ∃ dd fv, o = some dd ∧ w.H dd = some (.xd fv) ∧ fv.map (·.1) = x.2.map (·.1) ∧ RepL K w.γ w.G (fv.map (·.2)) (x.2.map (·.2))) := by
  cases d <;> simp [excOf] at he
  subst he
  cases hv with
  | exc0 h => exact ⟨_, _, rfl, s.sub _ _ h, (fun _ z => by cases z), .inl rfl⟩
  | exc1 h h2 k r => exact ⟨_, _, rfl, s.sub _ _ h, (fun _ z => by cases z; exact ⟨_, s.sub _ _ h2⟩), .inr ⟨_, _, rfl, s.sub _ _ h2, k, r⟩⟩
def fIsE (par cs : List Nat) (f : FE) : FE := fun m Q Qx => f m (fun r m1 => bindO (view m1 r) fun d => bindO (excOf d) fun x => (0 < x.1 ∧ x.1 < par.length) ∧ Q (.fz (.bl (cs.any (subN par 4 x.1)))) m1) Qx
theorem kitAny_ok {K : PySem.W.Frag} {par : List Nat} (F : XcsF K par) {x : Nat} (h0 : 0 < x) (h1 : x < par.length) : ∀ cs : List Nat, (∀ c ∈ cs, c < par.length) → PySem.W.kitAny K (.ref (Tabs.C x)) (cs.map clsU) = some (cs.any (subN par 4 x))
  | [], _ => rfl
  | c :: cs, h => kitAny_cons (F.one x c h0 h1 (h c (by simp))) (fun e => by rw [List.any_cons, e, Bool.false_or]; exact kitAny_ok F h0 h1 cs fun c hc => h c (by simp [hc])) fun e => by rw [List.any_cons, e, Bool.true_or]
theorem clsVUs : ∀ cs : List Nat, Paired ClsV (cs.map clsV) (cs.map clsU)
  | [] => .nil
  | c :: cs => .cons (clsVU c) (clsVUs cs)
variable {fa : FE} {a b : Expr}
theorem ve_isE {par : List Nat} {c : Nat} (F : XcsF X.K par) (hcs : c < par.length) (hg : Gl X "isinstance") (hm : X.mg "isinstance" = none) (ha : VE X W a fa) (hb : VE X W b (fCls c))
    (he : starEach (a :: b :: []) X.env = (false, eval a X.env) :: starEach (b :: []) X.env := by rfl) (he2 : starEach (b :: []) X.env = (false, eval b X.env) :: starEach [] X.env := by rfl)
    (hpl : (backTo pos (starEach [b] X.env)).any (·.1) = false := by rfl) : VE X W (.Call (.Name "isinstance" p) [a, b] [] pos) (fIsE par [c] fa) := by
  obtain ⟨ta, pa, sa⟩ := ha.ex
  obtain ⟨tb, pb, sb⟩ := hb.ex
  refine ⟨⟨_, pe_callB call_isX hg hm (show bootBuiltins "isinstance" = some (.builtin "isinstance") by decide +kernel) (pa_cons pa (pa_cons pb pa_nil he2) he) (by decide) (by decide) he hpl, fun w m Q Qx Q' s h k kx => ?_⟩⟩
  refine sa w m _ Qx _ s h (fun r m1 w1 v e1 a1 r1 q => ?_) kx
  rw [← e1]
  refine sb w1 m1 (fun r' m2 => r' = .fz (.raw (clsV c)) ∧ m2 = m1) (fun _ _ => False) _ a1.ok ⟨rfl, rfl⟩ (fun r' m2 w2 v2 e2 a2 r2 q2 => ?_) (fun _ _ _ _ _ _ _ z => z.elim)
  obtain ⟨rfl, rfl⟩ := q2
  obtain ⟨d, hd, q⟩ := bindO_elim q
  obtain ⟨x, hx, ⟨x0, x1⟩, q⟩ := bindO_elim q
  have r1' := r1.step a2.st e2
  obtain ⟨ad, o, rfl, h1, h2, _⟩ := exc_at a2.ok (a2.ok.view r1' hd) hx
  have hv2 : v2 = clsV c := by cases r2; rfl
  subst hv2
  refine ⟨ad, _, o, clsV c, clsU c, _, rfl, h1, h2, F.ex _ x0 x1, clsVU c, F.one _ _ x0 x1 hcs, ?_⟩
  exact k (.fz (.bl _)) m2 w2 _ (e2.trans e1) (a1.trans a2) (retFz (by simp; exact .bl _)) q
theorem ve_isEs {par cs : List Nat} {es : List Expr} {p5 : Pos} {kk : Nat} (F : XcsF X.K par) (hcs : ∀ c ∈ cs, c < par.length) (hl : cs.length ≤ 100) (hg : Gl X "isinstance") (hm : X.mg "isinstance" = none) (ha : VE X W a fa) (hb : VA X W es (aCls cs))
    (he : starEach (a :: .Tuple es kk p5 :: []) X.env = (false, eval a X.env) :: starEach (.Tuple es kk p5 :: []) X.env := by rfl) (he2 : starEach (.Tuple es kk p5 :: []) X.env = (false, eval (.Tuple es kk p5) X.env) :: starEach [] X.env := by rfl)
    (hpl : (backTo pos (starEach [.Tuple es kk p5] X.env)).any (·.1) = false := by rfl) : VE X W (.Call (.Name "isinstance" p) [a, .Tuple es kk p5] [] pos) (fIsE par cs fa) := by
  obtain ⟨ta, pa, sa⟩ := ha.ex
  obtain ⟨tb, pb, sb⟩ := (ve_tup (x1 := kk) (pos := p5) hb).ex
  refine ⟨⟨_, pe_callB call_isXT hg hm (show bootBuiltins "isinstance" = some (.builtin "isinstance") by decide +kernel) (pa_cons pa (pa_cons pb pa_nil he2) he) (by decide) (by decide) he hpl, fun w m Q Qx Q' s h k kx => ?_⟩⟩
  refine sa w m _ Qx _ s h (fun r m1 w1 v e1 a1 r1 q => ?_) kx
  rw [← e1]
  refine sb w1 m1 (fun r' m2 => r' = .fz (.tup (cs.map fun c => .raw (clsV c))) ∧ m2 = m1) (fun _ _ => False) _ a1.ok ?_ (fun r' m2 w2 v2 e2 a2 r2 q2 => ?_) (fun _ _ _ _ _ _ _ z => z.elim)
  · show aCls cs m1 _ _
    rw [aCls_eq]
    refine ⟨?_, rfl, rfl⟩
    rw [List.length_map, szl]
    omega
  obtain ⟨rfl, rfl⟩ := q2
  obtain ⟨d, hd, q⟩ := bindO_elim q
  obtain ⟨x, hx, ⟨x0, x1⟩, q⟩ := bindO_elim q
  have r1' := r1.step a2.st e2
  obtain ⟨ad, o, rfl, h1, h2, _⟩ := exc_at a2.ok (a2.ok.view r1' hd) hx
  cases r2 with
  | tup ht rl =>
    rename_i tp xs
    have hxs : xs = cs.map clsV := raws_eq rl
    subst hxs
    refine ⟨ad, _, tp, o, _, cs.map clsU, _, rfl, h1, h2, a2.ok.sub _ _ ht, F.ex _ x0 x1, clsVUs cs, kitAny_ok F x0 x1 cs hcs, ?_⟩
    exact k (.fz (.bl _)) m2 w2 _ (e2.trans e1) (a1.trans a2) (retFz (.bl _)) q
end

/-! ### the classes' facts, from the written part -/
def clsAt (K : PySem.W.Frag) (x : Str) : Addr := match PySem.W.nsIn K mainGlobals x with
  | some (some (.ref a)) => a
  | _ => 0
def clsIs (K : PySem.W.Frag) (x : Str) : Bool := match PySem.W.nsIn K mainGlobals x with
  | some (some (.ref _)) => true
  | _ => false
theorem clsAt_eq {K : PySem.W.Frag} {x : Str} (h : clsIs K x = true) : PySem.W.nsIn K mainGlobals x = some (some (.ref (clsAt K x))) := by
  unfold clsIs at h
  unfold clsAt
  split at h
  · rename_i e; rw [e]
  · cases h
def clsOf (K : PySem.W.Frag) (ns : List Str) : Nat → Addr := fun c => clsAt K (ns.getD c "")
def cuOf (K : PySem.W.Frag) (ns : List Str) : Nat → Value
  | 0 => .type "ValueError"
  | n + 1 => .ref (clsOf K ns (n + 1))
def excCB (K : PySem.W.Frag) (D : Addr) : Bool :=
  decide (PySem.W.findIn K (.ref D) "__getattribute__" = some (some (.builtin "BaseException.__getattribute__"))) && decide (PySem.W.findIn K (.ref D) "__getattr__" = some none) && decide (PySem.W.subIn K (.ref D) (.type "BaseException") = some true) && PySem.W.hasDictIn K D &&
    decide (PySem.W.findIn K (.ref D) "__class__" = some (some (.builtin "object.__class__"))) && decide (PySem.W.specialIn K (.builtin "object.__class__") "__get__" = some (some (.builtin "getset_descriptor.__get__"))) && decide (PySem.W.takesIn K (.builtin "object.__class__") = some true) && decide (PySem.W.mroIn K D (.type "object") = some true)
theorem excCB_ok {K : PySem.W.Frag} {D : Addr} (h : excCB K D = true) : ExcC K D := by
  unfold excCB at h
  simp only [Bool.and_eq_true, decide_eq_true_eq] at h
  obtain ⟨⟨⟨⟨⟨⟨⟨h1, h2⟩, h3⟩, h4⟩, h5⟩, h6⟩, h7⟩, h8⟩ := h
  exact ⟨h1, h2, h3, h4, h5, h6, h7, h8⟩
def pairB (K : PySem.W.Frag) (ns : List Str) (par : List Nat) (x y : Nat) : Bool := decide (PySem.W.kitOne K (.ref (clsOf K ns x)) (cuOf K ns y) = some (subN par 4 x y)) && decide (PySem.W.exmOne K (.ref (clsOf K ns x)) (cuOf K ns y) = some (subN par 4 x y))
def clsChk (K : PySem.W.Frag) (ns : List Str) (par : List Nat) : Bool := (List.range par.length).all fun x => decide (x = 0) || (clsIs K (ns.getD x "") && excCB K (clsOf K ns x) && (List.range par.length).all fun y => pairB K ns par x y)
theorem clsChk_at {K : PySem.W.Frag} {ns : List Str} {par : List Nat} (h : clsChk K ns par = true) {x : Nat} (h0 : 0 < x) (h1 : x < par.length) : clsIs K (ns.getD x "") = true ∧ excCB K (clsOf K ns x) = true ∧ ∀ y, y < par.length → pairB K ns par x y = true := by
  have z := List.all_eq_true.mp h x (List.mem_range.mpr h1)
  have n0 : decide (x = 0) = false := by simp; omega
  rw [n0, Bool.false_or] at z
  simp only [Bool.and_eq_true] at z
  exact ⟨z.1.1, z.1.2, fun y hy => List.all_eq_true.mp z.2 y (List.mem_range.mpr hy)⟩
theorem xcs_of {K : PySem.W.Frag} {ns : List Str} {par : List Nat} {T : List NdefX.NTab} {L : Str → Nat → Option (Arguments × Expr × Scope)} {w : World} (h : clsChk K ns par = true) : @XcsF ⟨T, L, w, clsOf K ns⟩ K par := by
  letI : VL.Tabs := ⟨T, L, w, clsOf K ns⟩
  have cu : ∀ y, clsU y = cuOf K ns y := fun y => by cases y <;> rfl
  refine ⟨fun x h0 h1 => excCB_ok (clsChk_at h h0 h1).2.1, fun x y h0 h1 h2 => ?_, fun x y h0 h1 h2 => ?_⟩
  · have z := (clsChk_at h h0 h1).2.2 y h2
    unfold pairB at z
    simp only [Bool.and_eq_true, decide_eq_true_eq] at z
    rw [cu]
    exact z.1
  · have z := (clsChk_at h h0 h1).2.2 y h2
    unfold pairB at z
    simp only [Bool.and_eq_true, decide_eq_true_eq] at z
    rw [cu]
    exact z.2
theorem xg_of {K : PySem.W.Frag} {ns : List Str} {par : List Nat} {h : Heap} {mg : Str → Option Value} (X : K.In h) (G : h.Ns mainGlobals mg) (hc : clsChk K ns par = true) (c : Nat) (x : Str) (h0 : 0 < c) (h1 : c < par.length) (hx : ns.getD c "" = x) : mg x = some (.ref (clsOf K ns c)) := by
  have z := clsAt_eq (clsChk_at hc h0 h1).1
  rw [hx] at z
  unfold clsOf
  rw [hx]
  exact PySem.W.mg_of X G z
def plainB (K : PySem.W.Frag) (C : Addr) : Bool := PySem.W.keepIn K (.ref C) && PySem.W.excIn K C [.type "ValueError", .type "Exception", .type "BaseException", .type "object"] "ValueError.__new__" && decide (PySem.W.subIn K (.ref C) (.type "BaseException") = some true) && decide (PySem.W.typeIn K (.ref C) = some (.type "type"))
theorem xc_of {K : PySem.W.Frag} {ns : List Str} {par : List Nat} {T : List NdefX.NTab} {L : Str → Nat → Option (Arguments × Expr × Scope)} {w : World} {h : Heap} {mg : Str → Option Value} (X : K.In h) (G : h.Ns mainGlobals mg) (hc : clsChk K ns par = true) (c : Nat) (x : Str) (h0 : 0 < c) (h1 : c < par.length)
    (hx : ns.getD c "" = x) (hp : plainB K (clsOf K ns c) = true) : @XcF ⟨T, L, w, clsOf K ns⟩ K mg c x := by
  letI : VL.Tabs := ⟨T, L, w, clsOf K ns⟩
  unfold plainB at hp
  simp only [Bool.and_eq_true, decide_eq_true_eq] at hp
  obtain ⟨⟨⟨p1, p2⟩, p3⟩, p4⟩ := hp
  exact ⟨xg_of X G hc c x h0 h1 hx, p1, p2, p3, p4⟩
/-- a list of what is handed on: no pointers -/
theorem ghBL_mapD {α : Type} {n : Nat} {f : α → D} (h : ∀ x, ghB n (f x) = true) : ∀ xs : List α, ghBL n (xs.map f) = true
  | [] => by simp [ghBL]
  | x :: xs => by rw [List.map_cons]; simp only [ghBL, Bool.and_eq_true]; exact ⟨h x, ghBL_mapD h xs⟩
/-- the end of a body that raises -/
theorem fin0x {gs : List D} {r : Ret} {xc : Xc} {Q : Xc → List D → Prop} {m : M} (e : m.gs = gs) (h : Q xc gs) : Clean gs.length m r ∧ Q xc (m.gs.take gs.length) := by
  subst e
  exact ⟨.inl rfl, by rw [List.take_length]; exact h⟩
section
variable {X : Cx} {W : WX}
/-- a slot's own container is frozen from here on -/
def sFrzAt (j : Nat) (f : FS) : FS := fun E m => match m.env[j]? with
  | some (.own d) => f E (m.set j (.val d))
  | _ => f E m
theorem vs_frzAt (j : Nat) {st : Stmt} {f : FS} (h : VS X W st f) : VS X W st (sFrzAt j f) := by
  obtain ⟨t, pt, ht⟩ := h.ex
  refine ⟨⟨t, pt, fun w m E D s hh k => ?_⟩⟩
  unfold sFrzAt at hh
  split at hh
  · rename_i d hd
    obtain ⟨a, o, e1, e2, e3, e4, e5⟩ := s.own j d hd
    obtain ⟨x, y⟩ := s.slotFrz hd e1 e4 e2 e3 e5
    exact ht (w.frz a o) _ E D x hh (k.aft ⟨x, y⟩)
  · exact ht w m E D s hh k
end
end VL

set_option maxHeartbeats 4000000
/-! The value layer: sorted(set(a list of ints)); min(a list of ints, default=..). -/
namespace VL
open PySem PySem.Spec PyProof.Rows L2
abbrev bareSet (w : World) : Obj := { cls := .type "set", dict := none, data := .set #[] 0 (.fresh 0 0 (!w.params.followText "set-order")) }
section
variable {P : Program} {w : World} {A : Around} {E : Value → Shared → Prop} {s : Shared}
/-- set(xs), a list of ints: what its walk later asks of it is told too -/
theorem set_of_list {l : Addr} {items : Array Value} (ns : List Int) {Q : Value → Shared → Prop} (hh : A.handled = none) (hl : s.heap.IsList l items) (hit : IntsAre items.toList ns) (hb : ns.length + 1 < scanBound)
    (h : ∀ (h' : Heap) (tk c : Nat), SetR w h' s.heap.objs.size (fun j => decide (j ∈ ns)) c → c ≤ ns.length → (∀ b o, s.heap.get? b = some o → h'.get? b = some o) → Q (.ref s.heap.objs.size) { s with heap := h', toks := tk }) :
    wpAny (model P w) A (call (.type "set") [.ref l]) Q E s := by
  have len : items.size = ns.length := by
    have q := IntsAre.length hit
    rwa [Array.length_toList] at q
  obtain ⟨c, tl, hmro⟩ := F.called_set.mro
  have hmade := F.called_set.made
  have hsub := F.called_set.sub
  refine wpAny_call (codeAny_of_tree ?_)
  show wpAny _ _ (callAny (.type "set") _) _ _ _
  refine wpAny_pure ⟨Code.quiet_builtin _ (by decide +kernel), codeAny_builtin F.entry_type_call ?_⟩
  rw [Around.under_plain (weight_type_call_type "set" [.ref l] []) rfl]
  have h1 := F.called_set.notType
  have h2 := F.called_set.canCreate
  have hct := F.typeCall_set_1 (.ref l)
  repeat (any_goals (first | assumption | wp_step))
  refine codeAny_mono (code_set_led1 (.ref l) (E := E) (Q₁ := fun obj s₁ => obj = .ref s.heap.objs.size ∧ s₁ = { s with heap := s.heap.push (bareSet w) }) ⟨rfl, rfl⟩) fun r s₁ hr => ?_
  cases r with
  | error e => exact hr
  | ok fl =>
    cases fl with
    | ret obj =>
      obtain ⟨rfl, rfl⟩ := hr
      have atS : (s.heap.push (bareSet w)).get? s.heap.objs.size = some (bareSet w) := Heap.get?_push_size _ rfl
      have tyS : Shared.TypeIs { s with heap := s.heap.push (bareSet w) } (.ref s.heap.objs.size) "set" := ⟨_, atS, rfl⟩
      have hli := F.called_set.init.lookup
      have hbi := F.called_set.init.bind (.ref s.heap.objs.size)
      repeat (any_goals (first | assumption | wp_step))
      refine codeAny_mono (codeAny_call_builtin (R := wants (fun r s₂ => r = .none ∧ ∃ h' tk c, s₂ = { s with heap := h', toks := tk } ∧ SetR w h' s.heap.objs.size (fun j => decide (j ∈ ns)) c ∧ c ≤ ns.length ∧
          (∀ b o, s.heap.get? b = some o → h'.get? b = some o)) E) F.called_set.init.plain F.entry_set_init (check_set_init_1 tyS ?_)) fun r₂ s₂ hr₂ => ?_
      · obtain ⟨⟨ocls, odict, odata, oslots⟩, hol, hcl, nl, hdl⟩ := hl
        simp only at hcl hdl
        subst hcl hdl
        have lt0 : l < s.heap.objs.size := Heap.lt_size hol
        have hol' : (s.heap.push (bareSet w)).get? l = some { cls := .type "list", dict := odict, data := .seq items nl, slots := oslots } := Heap.get?_push_of_some _ hol
        have hsls := F.sub_list_set
        have hslf := F.sub_list_frozenset
        have hne : (Value.type "list" == Value.type "dict") = false := by decide
        have hl1 : (s.heap.push (bareSet w)).IsList l items := ⟨_, hol', rfl, nl, rfl⟩
        have szS : (s.heap.push (bareSet w)).objs.size = s.heap.objs.size + 1 := Heap.size_push ..
        unfold Builtin.«set.__init__» noKeywords Builtin.Frozenset.updateFrom
        generalize hPI : pyIter = PI
        wp_walk
        subst hPI
        refine wpAny_pyIter_list hl1 (wpAny_bind (wpAny_runValue ?_))
        have hh3 : A.in1.in1.in1.handled = none := by simp [hh]
        have neI : l ≠ (s.heap.push (bareSet w)).objs.size := by rw [szS]; exact Nat.ne_of_lt (Nat.lt_succ_of_lt lt0)
        have out : s.heap.objs.size ∉ [(s.heap.push (bareSet w)).objs.size, l] := by
          rw [szS]
          simp only [List.mem_cons, List.not_mem_nil, or_false, not_or]
          exact ⟨Nat.ne_of_lt (Nat.lt_succ_self _), Nat.ne_of_gt lt0⟩
        have vals : ∀ (i : Nat) (v : Value), items[i]? = some v → ∃ k t, ns[i]? = some k ∧ v = .int k t := fun i v hv => by
          have hi : i < ns.length := by rw [← len]; exact (Array.getElem?_eq_some_iff.mp hv).1
          obtain ⟨t, e⟩ := PyProof.Rows.IntsAre.int_at hit i v (by rw [Array.getElem?_toList]; exact hv)
          exact ⟨ns[i], t, List.getElem?_eq_getElem hi, by rw [e]; simp [List.getD, hi]⟩
        refine set_update_ints ((Walks.list hh3 _ l neI items).toS) s.heap.objs.size out ns len hb vals (items.size - 0) 0 _ (by omega) (Nat.zero_le _) ⟨⟨_, Heap.get?_push_size _ rfl, rfl, rfl⟩, (hl1.push _)⟩ ?start ?fin
        case start => exact ⟨0, Nat.le_refl 0, setR_new_at (Heap.get?_push_of_some _ atS)⟩
        case fin =>
          rintro ⟨h', g2, d', tk', os'⟩ c' hm hc' hS'
          obtain rfl : g2 = s.gens := hm.gens
          obtain rfl : d' = s.drawn := hm.drawn
          obtain rfl : os' = s.os := hm.os
          rw [len] at hc'
          show wpAny _ _ _ _ _ _
          refine wpAny_pure ?_
          show wpAny _ _ (ret Value.none) _ _ _
          refine wpAny_pure ⟨rfl, h', tk', c', rfl, hS', hc', fun b o e => ?_⟩
          have hb0 : b < s.heap.objs.size := Heap.lt_size e
          refine hm.heap b o ?_ (Heap.get?_push_of_some _ (Heap.get?_push_of_some _ e))
          rw [szS]
          simp only [List.mem_cons, List.not_mem_nil, or_false, not_or]
          exact ⟨Nat.ne_of_lt hb0, Nat.ne_of_lt (Nat.lt_succ_of_lt hb0)⟩
      · cases r₂ with
        | error e => exact hr₂
        | ok fl₂ =>
          cases fl₂ with
          | ret r =>
            obtain ⟨rfl, h', tk, c', rfl, hS', hc', hk'⟩ := hr₂
            repeat (any_goals (first | assumption | wp_step))
            exact h _ _ _ hS' hc' hk'
          | _ => exact hr₂.elim
    | _ => exact hr.elim
end

/-- rising, each once: what sorted(set(..)) gives -/
def insU (x : Int) : List Int → List Int
  | [] => [x]
  | y :: ys => if x < y then x :: y :: ys else if x = y then y :: ys else y :: insU x ys
def ssort : List Int → List Int
  | [] => []
  | x :: xs => insU x (ssort xs)
theorem insU_mem (x k : Int) : ∀ ys : List Int, k ∈ insU x ys ↔ k = x ∨ k ∈ ys
  | [] => by simp [insU]
  | y :: ys => by
    unfold insU
    split
    · simp
    · split
      · rename_i e
        subst e
        simp
      · simp only [List.mem_cons, insU_mem x k ys]
        constructor
        · rintro (h | h | h)
          · exact .inr (.inl h)
          · exact .inl h
          · exact .inr (.inr h)
        · rintro (h | h | h)
          · exact .inr (.inl h)
          · exact .inl h
          · exact .inr (.inr h)
theorem insU_lt (x : Int) : ∀ ys : List Int, ys.Pairwise (· < ·) → (insU x ys).Pairwise (· < ·)
  | [], _ => by simp [insU]
  | y :: ys, h => by
    obtain ⟨h1, h2⟩ := List.pairwise_cons.mp h
    unfold insU
    split
    · rename_i c
      refine List.pairwise_cons.mpr ⟨fun z hz => ?_, h⟩
      rcases List.mem_cons.mp hz with e | e
      · omega
      · have := h1 z e; omega
    · split
      · exact h
      · refine List.pairwise_cons.mpr ⟨fun z hz => ?_, insU_lt x ys h2⟩
        rcases (insU_mem x z ys).mp hz with e | e
        · omega
        · exact h1 z e
theorem ssort_mem (k : Int) : ∀ ns : List Int, k ∈ ssort ns ↔ k ∈ ns
  | [] => by simp [ssort]
  | x :: xs => by unfold ssort; rw [insU_mem, ssort_mem k xs, List.mem_cons]
theorem ssort_lt : ∀ ns : List Int, (ssort ns).Pairwise (· < ·)
  | [] => List.Pairwise.nil
  | x :: xs => insU_lt x _ (ssort_lt xs)
theorem insU_len (x : Int) : ∀ ys : List Int, (insU x ys).length ≤ ys.length + 1
  | [] => Nat.le_refl _
  | y :: ys => by
    unfold insU
    split
    · simp
    · split
      · simp
      · have := insU_len x ys
        simp
        omega
theorem ssort_len : ∀ ns : List Int, (ssort ns).length ≤ ns.length
  | [] => Nat.le_refl _
  | x :: xs => by
    have h1 := insU_len x (ssort xs)
    have h2 := ssort_len xs
    unfold ssort
    rw [List.length_cons]
    omega
theorem rising_eq : ∀ (xs ys : List Int), xs.Pairwise (· < ·) → ys.Pairwise (· < ·) → (∀ k, k ∈ xs ↔ k ∈ ys) → xs = ys
  | [], [], _, _, _ => rfl
  | [], y :: ys, _, _, h => absurd ((h y).mpr (by simp)) (by simp)
  | x :: xs, [], _, _, h => absurd ((h x).mp (by simp)) (by simp)
  | x :: xs, y :: ys, hx, hy, h => by
    obtain ⟨a1, a2⟩ := List.pairwise_cons.mp hx
    obtain ⟨b1, b2⟩ := List.pairwise_cons.mp hy
    have e : x = y := by
      have p := (h x).mp (by simp)
      have q := (h y).mpr (by simp)
      rcases List.mem_cons.mp p with p | p
      · exact p
      · rcases List.mem_cons.mp q with q | q
        · exact q.symm
        · have := a1 y q; have := b1 x p; omega
    subst e
    rw [rising_eq xs ys a2 b2 fun k => ?_]
    constructor
    · intro hk
      rcases List.mem_cons.mp ((h k).mp (by simp [hk])) with q | q
      · have := a1 k hk; omega
      · exact q
    · intro hk
      rcases List.mem_cons.mp ((h k).mpr (by simp [hk])) with q | q
      · have := b1 k hk; omega
      · exact q
section
variable {X : Cx} {W : WX} [Tabs]
def tSrtS (K : PySem.W.Frag) (ta : TE) : TE := fun σ H Q => ta σ H fun x H1 => ∃ (l : Addr) (ns : List Int), x = .ref l ∧ ns.length < 64 ∧ SqL K H1 l (ns.map V.int) ∧ ∀ p, H1 p = none → Q (.ref p) (upd H1 p (.lst ((ssort ns).map V.int)))
theorem pe_srtS {a : Expr} {ta : TE} {p p2 q pos : Pos} (hc : X.calm = true) (hg : Gl X "sorted") (hm : X.mg "sorted" = none) (hg2 : Gl X "set") (hm2 : X.mg "set" = none) (ha : PE X a ta)
    (na : starEach [a] X.env = (false, eval a X.env) :: starEach [] X.env := by rfl) : PE X (.Call (.Name "sorted" p) [.Call (.Name "set" p2) [a] [] q] [] pos) (tSrtS X.K ta) := by
  refine ⟨fun pins s σ H Q I hh => Call_ (ld_blt I hg hm (show bootBuiltins "sorted" = some (.builtin "sorted") by decide +kernel) (PyProof.Rows.callWith_builtin1 (PyProof.Rows.args_cons ?_ rfl) rfl rfl))⟩
  refine Call_ (ld_blt I hg2 hm2 boot_set (PyProof.Rows.callWith_type1 (PyProof.Rows.args_cons (thn (ha.run pins s σ H _ I hh) ?_) na) na rfl))
  rintro u s1 ⟨x, H1, J, rx, l, ns, rfl, hl, hq, q1⟩
  obtain rfl : u = Value.ref l := rx
  obtain ⟨its, r, pl, _⟩ := J.list hq
  refine PyProof.Rows.args_nil (set_of_list ns (J.ok.hd hc) pl.isList (by simpa using RZ.intsAre_vals r) (by unfold scanBound; omega) fun h' tk c hS hcl hk => PyProof.Rows.args_nil ?_)
  have J2 : Inv X pins σ H1 { s1 with heap := h', toks := tk } := J.kept hk
  have hS2 : SetR X.w ({ s1 with heap := h', toks := tk } : Shared).heap s1.heap.objs.size (fun j => decide (j ∈ ns)) c := hS
  generalize ({ s1 with heap := h', toks := tk } : Shared) = s2 at J2 hS2 ⊢
  refine sorted_set (s := s2) hS2 (J2.ok.hd hc) (by omega) fun s' p out cc ms k g o hp hget hi hlt hmem hlen => ?_
  have e : ms = ssort ns := rising_eq _ _ hlt (ssort_lt ns) fun k => by rw [hmem, ssort_mem]; simp
  subst e
  have hsz : ((ssort ns).map V.int).length ≤ sizeLine := by rw [List.length_map, szl]; have := ssort_len ns; omega
  have hn : H1 p = none := J2.hok.fresh hp
  have J3 : Inv X pins σ (upd H1 p (.lst ((ssort ns).map V.int))) { s2 with heap := s'.heap, gens := s'.gens, drawn := s'.drawn, toks := s'.toks } :=
    J2.call (ch := []) (Un.laid k hp hn) (J2.hok.laid k hp ⟨hsz, out.toList, cc, vals_of_ints hi, hget⟩) (by rw [g]; exact J2.bare) (fun _ z => nomatch z)
  have es : s' = { s2 with heap := s'.heap, gens := s'.gens, drawn := s'.drawn, toks := s'.toks } := by
    cases s'
    cases s2
    cases o
    rfl
  rw [es]
  exact ⟨.ref p, _, J3, rfl, q1 p hn⟩
def fSrtS (fa : FE) : FE := fun m Q Qx => fa m (fun r m1 => bindO (view m1 r) fun d => bindO (lstOf d) fun ds => bindO (toInts ds) fun ns => ns.length < 64 ∧ Q (.tmp (.lst ((ssort ns).map .int))) m1) Qx
theorem ve_srtS {a : Expr} {fa : FE} {p p2 q pos : Pos} (hc : X.calm = true) (hg : Gl X "sorted") (hm : X.mg "sorted" = none) (hg2 : Gl X "set") (hm2 : X.mg "set" = none) (ha : VE X W a fa)
    (na : starEach [a] X.env = (false, eval a X.env) :: starEach [] X.env := by rfl) : VE X W (.Call (.Name "sorted" p) [.Call (.Name "set" p2) [a] [] q] [] pos) (fSrtS fa) := by
  obtain ⟨t, pt, st⟩ := ha.ex
  refine ⟨⟨_, pe_srtS hc hg hm hg2 hm2 pt na, fun w m Q Qx Q' s h k kx => ?_⟩⟩
  refine st w m _ Qx _ s h (fun r m1 w1 v e1 a1 r1 qq => ?_) kx
  obtain ⟨d, hd, qq⟩ := bindO_elim qq
  obtain ⟨ds, hds, qq⟩ := bindO_elim qq
  obtain ⟨ns, hns, hl, qq⟩ := bindO_elim qq
  obtain ⟨a, xs, rfl, hq, rr⟩ := lst_at a1.ok (a1.ok.view r1 hd) hds
  rw [toInts_of hns] at rr
  rw [rep_ints rr] at hq
  refine ⟨a, ns, rfl, hl, hq, fun l hl => ?_⟩
  obtain ⟨s2, st2⟩ := a1.ok.put (o := .lst ((ssort ns).map V.int)) hl
  exact k _ m1 (w1.put l _) _ e1 (a1.trans ⟨s2, st2⟩) ((a1.ok.putRet hl (.lst (reps_ints _))).from fun _ z => a1.st.back z) qq
end
end VL

set_option maxHeartbeats 4000000
/-! The value layer: min(a list of ints, default=d). -/
namespace VL
open PySem PySem.Spec PyProof.Rows L2
variable [Tabs]
def minOr (d : Int) : List Int → Int
  | [] => d
  | y :: ys => ys.foldl min y
theorem minOr_mem (d : Int) : ∀ ns : List Int, ns ≠ [] → minOr d ns ∈ ns ∧ ∀ k ∈ ns, minOr d ns ≤ k
  | [], h => absurd rfl h
  | y :: ys, _ => by
    have key : ∀ (ys : List Int) (y : Int), (ys.foldl min y = y ∨ ys.foldl min y ∈ ys) ∧ ys.foldl min y ≤ y ∧ ∀ k ∈ ys, ys.foldl min y ≤ k := by
      intro ys
      induction ys with
      | nil => intro y; exact ⟨.inl rfl, Int.le_refl _, fun k hk => by cases hk⟩
      | cons z zs ih =>
        intro y
        obtain ⟨h1, h2, h3⟩ := ih (min y z)
        rw [List.foldl_cons]
        refine ⟨?_, Int.le_trans h2 (Int.min_le_left _ _), fun k hk => ?_⟩
        · rcases h1 with h1 | h1
          · rw [h1]
            rcases Int.le_total y z with q | q
            · exact .inl (Int.min_eq_left q)
            · rw [Int.min_eq_right q]; exact .inr (by simp)
          · exact .inr (by simp [h1])
        · rcases List.mem_cons.mp hk with e | e
          · rw [e]; exact Int.le_trans h2 (Int.min_le_right _ _)
          · exact h3 k e
    obtain ⟨h1, h2, h3⟩ := key ys y
    refine ⟨?_, fun k hk => ?_⟩
    · show ys.foldl min y ∈ _
      rcases h1 with h1 | h1
      · rw [h1]; simp
      · simp [h1]
    · rcases List.mem_cons.mp hk with e | e
      · rw [e]; exact h2
      · exact h3 k e
theorem reads_ints {h : Heap} : ∀ {ns : List Int} {its : List Value}, Vals (ns.map V.int) its → ReadsAll h its (ns.map PyData.int) []
  | [], _, .nil => .nil
  | n :: ns, _, .cons r rs => by
    obtain ⟨t, rfl⟩ := r
    exact .cons (.int n t) (reads_ints rs)
theorem alike_ints (ns : List Int) : PySem.W.AlikeAll (ns.map PyData.int) := by
  refine ⟨fun x hx y hy => ?_, fun x hx => ?_⟩
  · obtain ⟨a, _, rfl⟩ := List.mem_map.mp hx
    obtain ⟨b, _, rfl⟩ := List.mem_map.mp hy
    simp [PySem.W.alike]
  · obtain ⟨a, _, rfl⟩ := List.mem_map.mp hx
    intro z
    cases z
theorem depth_ints : ∀ ns : List Int, PyData.depthAll (ns.map PyData.int) = 0
  | [] => by simp [PyData.depthAll]
  | n :: ns => by simp [PyData.depthAll, depth_ints ns, PyData.depth]
section
variable {X : Cx} {W : WX}
def rMinD (K : PySem.W.Frag) : List V → List V → Hp → VK → Prop := fun vs zs H Q => ∃ (a : Addr) (ns : List Int) (d : Int), vs = [.ref a] ∧ zs = [.int d] ∧ SqL K H a (ns.map V.int) ∧ Q (.int (minOr d ns)) H
theorem cr_minD (hc : X.calm = true) (hu : X.A.units + 64 < cLine) : CallRK X (.builtin "min") [Str.ofString "default"] (rMinD X.K) := by
  intro pins s σ H xs zs us ws Q I r1 r2 h
  obtain ⟨a, ns, d, rfl, rfl, hq, q⟩ := h
  rw [Vals.ref1 r1]
  obtain ⟨its, r, pl, _⟩ := I.list hq
  cases r2 with
  | cons rd rn =>
    cases rn
    obtain ⟨t, rfl⟩ := rd
    show wpAny _ _ (call (.builtin "min") [.ref a] [(Str.ofString "default", .int d t)]) _ _ _
    refine PySem.W.min_list_default (xs := ns.map PyData.int) (as := []) (I.ok.hd hc) pl.isList (by simpa using reads_ints r) (alike_ints ns) (by rw [depth_ints]; omega) (fun e h' tk k => ?_) fun y ys i v h' tk bs e hi hr k => ?_
    · have e : ns = [] := List.map_eq_nil_iff.mp e
      subst e
      exact ⟨.int d, H, I.kept (t' := tk) k, ⟨t, rfl⟩, q⟩
    · cases ns with
      | nil => cases e
      | cons n ns =>
        obtain ⟨rfl, rfl⟩ := List.cons.inj e
        rw [PySem.W.minD_ints] at hr
        cases hr with
        | int k' t' => exact ⟨.int (ns.foldl min n), H, I.kept (t' := tk) k, ⟨t', rfl⟩, q⟩
def fMinD (fa fd : FE) : FE := fun m Q Qx => fa m (fun r m1 => fd m1 (fun rd m2 => bindO (view m2 r) fun d => bindO (lstOf d) fun ds => bindO (toInts ds) fun ns => bindO (asI rd) fun i => Q (.fz (.int (minOr i ns))) m2) Qx) Qx
theorem ve_minD {a b : Expr} {fa fd : FE} {p kp pos : Pos} (hc : X.calm = true) (hu : X.A.units + 64 < cLine) (hg : Gl X "min") (hm : X.mg "min" = none) (ha : VE X W a fa) (hb : VE X W b fd)
    (hs : starEach [a] X.env = (false, eval a X.env) :: starEach [] X.env := by rfl) (he : backTo pos (starEach [a] X.env) = (false, eval a X.env) :: backTo pos (starEach [] X.env) := by rfl) (hpl : (backTo pos (starEach [a] X.env)).any (·.1) = false := by rfl)
    (hall : (backToKw pos (keywordEach [⟨some "default", b, kp⟩] X.env)).all (·.1.isSome) = true := by rfl) (hnone : (backToKw pos (keywordEach [⟨some "default", b, kp⟩] X.env)).any (·.1.isNone) = false := by rfl)
    (hks : (backToKw pos (keywordEach [⟨some "default", b, kp⟩] X.env)).filterMap (·.1) = [Str.ofString "default"] := by rfl) :
    VE X W (.Call (.Name "min" p) [a] [⟨some "default", b, kp⟩] pos) (fMinD fa fd) := by
  obtain ⟨ta, pa, sa⟩ := ha.ex
  obtain ⟨tb, pb, sb⟩ := hb.ex
  refine ⟨⟨_, pe_callBK (cr_minD hc hu) hg hm (show bootBuiltins "min" = some (.builtin "min") by decide +kernel) (pa_cons pa pa_nil hs) (pk_cons pb pk_nil) (by decide) (by decide) he hpl hall hnone hks, fun w m Q Qx Q' s h k kx => ?_⟩⟩
  refine sa w m _ Qx _ s h (fun r m1 w1 v e1 a1 r1 q => ?_) kx
  rw [← e1]
  refine sb w1 m1 _ Qx _ a1.ok q (fun rd m2 w2 v2 e2 a2 r2 q => ?_) (kx.aft a1 e1)
  obtain ⟨d, hd, q⟩ := bindO_elim q
  obtain ⟨ds, hds, q⟩ := bindO_elim q
  obtain ⟨ns, hns, q⟩ := bindO_elim q
  obtain ⟨i, hi, q⟩ := bindO_elim q
  obtain ⟨a, xs, rfl, hq, rr⟩ := lst_at a2.ok (a2.ok.view (r1.step a2.st e2) hd) hds
  rw [toInts_of hns] at rr
  rw [rep_ints rr] at hq
  have hi := asI_ok r2 hi
  subst hi
  exact ⟨a, ns, i, rfl, rfl, hq, k _ m2 w2 _ (e2.trans e1) (a1.trans a2) (retFz (.int _)) q⟩
end
end VL

set_option maxHeartbeats 4000000
/-! The value layer: range(i, j, -1). -/
namespace VL
open PySem PySem.Spec PyProof.Rows L2
variable [Tabs]
variable {X : Cx} {W : WX} {a b c : Expr} {fa fb fc : FE} {pos : Pos}
def downD (lo : Int) (n : Nat) : List D := (List.range n).map fun (i : Nat) => .int (lo - i)
theorem downD_len (lo : Int) (n : Nat) : (downD lo n).length = n := by simp [downD]
theorem downD_at {lo : Int} {n i : Nat} {d : D} (h : (downD lo n)[i]? = some d) : d = .int (lo - i) := by
  unfold downD at h
  rw [List.getElem?_map] at h
  cases e : (List.range n)[i]? with
  | none => rw [e] at h; cases h
  | some j =>
    rw [e] at h
    obtain ⟨hl, e⟩ := List.getElem?_eq_some_iff.mp e
    rw [List.getElem_range] at e
    subst e
    exact (Option.some.inj h).symm
theorem itc_ok {K : PySem.W.Frag} {w0 : Wd} {m0 : M} {lo : Int} {n : Nat} : ItOk K w0 m0 (Itc lo (-1) n) (downD lo n) (fun _ => True) := by
  refine ⟨fun w' m' a' l => ?_, fun i w' m' a' l hi => ?_, fun i w' m' d x H' a' l hd y => ?_⟩
  · show n ≤ _
    rw [downD_len]; exact Nat.le_refl _
  · show i < n
    rwa [downD_len] at hi
  · obtain ⟨rfl, rfl⟩ := y
    rw [downD_at hd, show lo + (i : Int) * (-1) = lo - i by omega]
    exact ⟨w', rfl, rfl, .refl a'.ok, .int _⟩
def iRangeDn (f g h : FE) : FI := fun m Q Qx => f m (fun r m1 => g m1 (fun r' m2 => h m2 (fun r'' m3 => bindO (asI r) fun i => bindO (asI r') fun j => bindO (asI r'') fun k => (k = -1 ∧ -(2 ^ 62) ≤ i ∧ i < 2 ^ 62 ∧ -(2 ^ 62) ≤ j ∧ j < 2 ^ 62) ∧ Q (downD i (i - j).toNat) (fun _ => True) m3) Qx) Qx) Qx
theorem vi_rangeDn {tg : Expr} {p : Pos} (hg : Gl X "range") (hm : X.mg "range" = none) (ha : VE X W a fa) (hb : VE X W b fb) (hc : VE X W c fc)
    (hs : starEach [a, b, c] X.env = (false, eval a X.env) :: starEach [b, c] X.env := by rfl) (hs2 : starEach [b, c] X.env = (false, eval b X.env) :: starEach [c] X.env := by rfl) (hs3 : starEach [c] X.env = [(false, eval c X.env)] := by rfl) (hpl : (backTo pos (starEach [b, c] X.env)).any (·.1) = false := by rfl) :
    VI X W tg (.Call (.Name "range" p) [a, b, c] [] pos) (iRangeDn fa fb fc) := by
  obtain ⟨ta, pa, sa⟩ := ha.ex
  obtain ⟨tb, pb, sb⟩ := hb.ex
  obtain ⟨tc, pc, sc⟩ := hc.ex
  refine ⟨⟨_, pi_range3 hg hm (pa_cons pa (pa_cons pb (pa_cons pc pa_nil hs3) (by rw [hs2, hs3])) (by rw [hs, hs2, hs3])) hs hpl, fun w m Q Qx R s h k kx => ?_⟩⟩
  refine sa w m _ _ _ s h (fun r m1 w1 v e1 a1 r1 q => ?_) kx
  rw [← e1]
  refine sb w1 m1 _ _ _ a1.ok q (fun r' m2 w2 u e2 a2 r2 q => ?_) (kx.aft a1 e1)
  rw [← e2]
  refine sc w2 m2 _ _ _ a2.ok q (fun r'' m3 w3 x e3 a3 r3 q => ?_) ((kx.aft a1 e1).aft a2 e2)
  obtain ⟨i, hi, q⟩ := bindO_elim q
  obtain ⟨j, hj, q⟩ := bindO_elim q
  obtain ⟨l, hl, ⟨q0, q1, q2, q3, q4⟩, q⟩ := bindO_elim q
  subst q0
  exact ⟨i, j, -1, _, by rw [asI_ok r1 hi, asI_ok r2 hj, asI_ok r3 hl], RgC.neg q1 q2 q3 q4, k _ _ m3 w3 _ (e3.trans (e2.trans e1)) ((a1.trans a2).trans a3) itc_ok q⟩
theorem forR_down {lo : Int} {n : Nat} {g : FG} {fb : FS} {E : EndsV} {lk : M → Prop} (I : Nat → M → Prop) (hnil : ∀ m, I n m → lk m ∧ E.nx m)
    (hcons : ∀ i m, i < n → I i m → lk m ∧ ∀ k : M → Prop, (∀ m', I (i + 1) m' → k m') → g m (.int (lo - i)) fun m1 => fb (E.wl k) m1) {m : M} (h0 : I 0 m) : forQ g fb E lk (downD lo n) m := by
  rw [forQ_eq]
  have h : ∀ (j i : Nat) m, i + j = n → I i m → forR g fb E lk ((List.range' i j).map fun (i : Nat) => .int (lo - i)) m := by
    intro j
    induction j with
    | zero => intro i m e hi; rw [Nat.add_zero] at e; subst e; rw [List.range'_zero, List.map_nil, forR_nil]; exact hnil m hi
    | succ j ih =>
      intro i m e hi
      rw [List.range'_succ, List.map_cons, forR_cons]
      obtain ⟨h1, h2⟩ := hcons i m (by omega) hi
      exact ⟨h1, h2 _ fun m' h' => ih (i + 1) m' (by omega) h'⟩
  unfold downD
  rw [List.range_eq_range']
  exact h n 0 m (by omega) h0
end VL

set_option maxHeartbeats 4000000
/-! The value layer: a list comprehension whose element may raise (the kit's road for it has none: CompFree's error case forgets the frame). -/
namespace VL
open PySem PySem.Spec PyProof.Rows L2
variable [Tabs]
/-- a note asks the environment for its frame alone -/
theorem note_frame (e : Value) {a b : Env} (h : a.frame = b.frame) : noteFrame e a = noteFrame e b := by unfold noteFrame PySem.frameOf; rw [h]
def postX (M : Model) (A : Around) (E : Value → Shared → Prop) (use : Option (Value → Sem Unit)) (Q : Value → Shared → Prop) (acc : Value) (C : Addr) (fr : Option Addr) (r : Result) (s' : Shared) : Prop :=
  match r, use with
  | .ok _, none => ∃ m, s'.heap.Ns C m ∧ ∀ h', Heap.SameBut C s'.heap h' → Q acc { s' with heap := h' }
  | .ok _, some u => wpAny M A (u acc) (fun _ s'' => ∃ m, s''.heap.Ns C m ∧ ∀ h', Heap.SameBut C s''.heap h' → Q .none { s'' with heap := h' }) E s'
  | .error x, _ => ∃ m, s'.heap.Ns C m ∧ ∀ h', Heap.SameBut C s'.heap h' → ∀ cenv : Env, cenv.locals = C → cenv.frame = fr → wpAny M A (passOn "comprehension.variables-let-go" x cenv : Sem Value) (fun _ _ => False) E { s' with heap := h' }
section
variable {M : Model} {A : Around} {E : Value → Shared → Prop} {s : Shared} {env : Env}
/-- PyProof/CompFree.lean's comprehension, with the frame of what passes on -/
theorem comp_freeX {e : Expr} {scope : Scope} {pos : Pos} {newAcc first : Sem Value} {g : Comprehension} {gs : List Comprehension} {cl : List (Str × Addr)} {use : Option (Value → Sem Unit)}
    {Q : Value → Shared → Prop}
    (hcl : clausesOf e = g :: gs) (hs : ∀ x, foldedSetIterable g.iter env x = pure x) (hclos : closureFor scope env = pure cl)
    (hkind : scope.kind = .function) (hnames : ∀ x ∈ scope.names, x.2 = .local → scope.names.lookup x.1 = some .local)
    (h : wpAny M A first (fun x s₁ => wpAny M A (pyIter x) (fun it s₂ => wpAny M A newAcc (fun acc s₃ =>
      wpAny M A (newFunctionEnv scope env.globals cl [] env.qual none .none (some env)) (fun cenv s₄ =>
        codeAny M A (.compStart e 0 it acc { cenv with scope := relabel scope env }) (postX M A E use Q acc cenv.locals cenv.frame) s₄) E s₃) E s₂) E s₁) E s) :
    wpAny M A (comprehension e scope env pos newAcc false first use) Q E s := by
  unfold comprehension
  rw [hclos, hcl]
  refine wpAny_bind (wpAny_mono h (fun x s₁ h₁ => wpAny_bind (wpAny_standAt (wpAny_bind (wpAny_of_eq (hs x) (wpAny_bind (wpAny_holding (wpAny_mono h₁ (fun it s₂ h₂ =>
    wpAny_standIf (wpAny_bind (wpAny_mono h₂ (fun acc s₃ h₃ => wpAny_bind (wpAny_pure (wpAny_bind (wpAny_mono h₃ (fun cenv s₄ h₄ => ?_) fun _ _ h' => h')))) fun _ _ h' => h')))
      fun _ _ h' => h'))))))) fun _ _ h' => h')
  dsimp only
  have hv : ∀ x ∈ (scope.names.filter fun x => (x.2 == .local || x.2 == .cell) && x.1 != (".0" : Str)).reverse, x.2 = .local →
      Env.kindOf { cenv with scope := relabel scope env } x.1 = some .local := fun x hx hl => lookup_relabel_local (hnames x (List.mem_filter.mp (List.mem_reverse.mp hx)).1 hl)
  have hv' : ∀ x ∈ (scope.names.filter fun x => (x.2 == .local || x.2 == .cell) && x.1 != (".0" : Str)).reverse.drop 1 ++ (scope.names.filter fun x => (x.2 == .local || x.2 == .cell) && x.1 != (".0" : Str)).reverse.take 1,
      x.2 = .local → Env.kindOf { cenv with scope := relabel scope env } x.1 = some .local := fun x hx hl => by
    rcases List.mem_append.mp hx with h1 | h1
    · exact hv x (List.mem_of_mem_drop h1) hl
    · exact hv x (List.mem_of_mem_take h1) hl
  refine wpAny_holding (wpAny_bind (wpAny_attempt (wpAny_holding (wpAny_run (codeAny_mono h₄ fun r s' hr => ?_)))))
  cases r with
  | ok f =>
    cases use with
    | none =>
      obtain ⟨m, hn, hr⟩ := hr
      exact wpAny_bind (wpAny_holding (wpAny_comp_letGo (cenv := { cenv with scope := relabel scope env }) hkind _ s' m hv hn fun h' m' _ hs' => wpAny_pure (hr h' hs')))
    | some u =>
      refine wpAny_bind (wpAny_rule (wpAny_bind (wpAny_holding (wpAny_mono hr (fun _ s'' hr' => ?_) fun _ _ h' => h'))))
      obtain ⟨m, hn, hr'⟩ := hr'
      exact wpAny_bind (wpAny_comp_letGo (cenv := { cenv with scope := relabel scope env }) hkind _ s'' m hv' hn fun h' m' _ hs' => wpAny_pure (hr' h' hs'))
  | error x =>
    have hr' : ∃ m, s'.heap.Ns cenv.locals m ∧ ∀ h', Heap.SameBut cenv.locals s'.heap h' → ∀ cenv' : Env, cenv'.locals = cenv.locals → cenv'.frame = cenv.frame → wpAny M A (passOn "comprehension.variables-let-go" x cenv' : Sem Value) (fun _ _ => False) E { s' with heap := h' } := by cases use <;> exact hr
    obtain ⟨m, hn, hr⟩ := hr'
    exact wpAny_bind (wpAny_holding (wpAny_comp_letGo (cenv := { cenv with scope := relabel scope env }) hkind _ s' m hv hn fun h' m' _ hs' => wpAny_mono (hr h' hs' _ rfl rfl) (fun _ _ f => f.elim) fun _ _ y => y))
end
/-- a further frame notes it, where its flight is told of another one -/
theorem looks_off {M : Model} {A : Around} {E : Value → Shared → Prop} {env : Env} {outer : List Env} {base : Heap} {L a : Addr} {Z : Obj → Prop} {fl : Value} {s : Shared} {Q : Unit → Shared → Prop} (hZ : HandSPX.Steady Z) (hfr : A.frames = some (env :: outer)) (hf : env.frame = some L)
    (hkb : base.StaysIn s.heap) (hen : base.get? a = none) (hl : s.heap.FunFrames base (env :: outer)) (ht : HandSPX.TracedZ s.heap base a Z fl) (hne : (fl == rawInt L) = false)
    (hQ : ∀ h', HandSPX.HeldZ base (env :: outer) a Z L h' → s.heap.UpToSlots h' → Q () { s with heap := h' }) : wpAny M A (noteFrame (.ref a) env) Q E s := by
  obtain ⟨oe, vs, T, oT, ts, he, hz, hd, h1, hnT, hTe, hT, hdT, h3⟩ := ht
  unfold noteFrame
  simp only [hf]
  refine wpAny_bind (wpAny_field he hd h1 ?_)
  rw [if_pos (show (Value.ref T != Value.none) = true from by simp)]
  refine wpAny_bind (wpAny_field hT hdT h3 ?_)
  rw [if_neg (show ¬ ((fl == rawInt L) = true) from by rw [hne]; decide)]
  refine wpAny_bind (wpAny_setField hT hdT (Array.getElem?_eq_some_iff.mp h3).1 ?_)
  have other : ∀ b, b ≠ T → (s.heap.update T (Obj.mapFields (·.setIfInBounds 3 Value.none))).get? b = s.heap.get? b := fun b hb => Heap.get?_update_other _ _ (Ne.symm hb)
  have noRecord : ∀ b o, s.heap.get? b = some o → (∀ vs, o.data ≠ .fields vs) → b ≠ T := fun b o hb hnf q => by
    rw [q, hT] at hb; injection hb with hb; subst hb; exact hnf ts hdT
  refine HandSPX.wpAny_entryZ hZ hfr (hl.of_keeps fun b o hb hnf => ⟨o, (other b (noRecord b o hb hnf)).trans hb, rfl⟩) hf ((other a (Ne.symm hTe)).trans he)
    (fun b o hbo => (other b fun q => by rw [q, hnT] at hbo; cases hbo).trans (hkb b o hbo)) hen hd (Array.getElem?_eq_some_iff.mp h1).1 hz fun h' hN => ?_
  obtain ⟨x1, x2, x3, x4⟩ := hN
  exact hQ h' ⟨x1, hen, x2, x3⟩ fun b o hb hnf => x4 b o ((other b (noRecord b o hb hnf)).trans hb) hnf
theorem frames_keep {base B2 h h' : Heap} : ∀ {l : List Env}, h.FunFrames base l → (∀ L ∈ frs l, ∀ o, h.get? L = some o → h'.get? L = some o) → (∀ L ∈ frs l, B2.get? L = none) → h'.FunFrames B2 l
  | [], _, _, _ => trivial
  | env :: l, x, hk, hn => by
    obtain ⟨hk0, ⟨L, o, hf, _, ho, hd⟩, hr⟩ := x
    have mem : L ∈ frs (env :: l) := List.mem_filterMap.mpr ⟨env, List.mem_cons_self, hf⟩
    exact ⟨hk0, ⟨L, o, hf, hn L mem, hk L mem o ho, hd⟩, frames_keep hr (fun b hb => hk b (by
      obtain ⟨e, he, q⟩ := List.mem_filterMap.mp hb
      exact List.mem_filterMap.mpr ⟨e, List.mem_cons_of_mem _ he, q⟩)) fun b hb => hn b (by
      obtain ⟨e, he, q⟩ := List.mem_filterMap.mp hb
      exact List.mem_filterMap.mpr ⟨e, List.mem_cons_of_mem _ he, q⟩)⟩
section
variable {X : Cx} {W : WX}
/-- what a block's element may let out is taken by the def around it -/
theorem takes_blk {pins : List (Addr × Obj)} {σ : L2.St} {s3 : Shared} {H3 : Hp} {scope : Scope} {ce : Env} {fp : List Addr} {use : Option (Value → Sem Unit)} {Qf : Value → Shared → Prop} {acc : Value} (tk : Takes X W) (hs0 : X.stack = X.env :: X.outer) (hf : X.env.frame = some X.env.locals)
    (I3 : Inv X pins σ H3 s3) (f3 : ∀ b ∈ fp, FpOk X pins H3 b ∧ b < s3.heap.objs.size) (cL : ce.locals = s3.heap.objs.size) (cF : ce.frame = X.env.frame) :
    Takes ((X.blk s3 H3 scope ce fp).wish (notedBy (model X.prog X.w) X.A ce fun e s' => postX (model X.prog X.w) X.A X.xe use Qf acc s3.heap.objs.size X.env.frame (.error e) s')) (fun cls d _ H' => W cls d σ H') := by
  rintro u s' ⟨a, B, sI, pins', σ', H', cls, d, rfl, J, nb, up, sky, na, os, ag, w⟩
  have J : Inv (X.blk s3 H3 scope ce fp) pins' σ' H' sI := J.unwish
  have nb : ∀ b o, sI.heap.get? b = some o → b ∉ frs X.stack → B.get? b = some o := nb
  have sky : Sky B X.stack a (Zc cls d) ce.locals s'.heap := sky
  have hfr : X.A.frames = some (X.env :: X.outer) := I3.ok.frames.trans (congrArg some hs0)
  have nCf : s3.heap.objs.size ∉ frs X.stack := fun m => by
    obtain ⟨_, o, e, _⟩ := I3.stack.mem m
    exact Nat.lt_irrefl _ (Heap.lt_size e)
  have I7 : Inv X pins σ H' sI := I3.call' (ch := fp) J.os J.base J.hok J.bare fun b hb => ⟨(f3 b hb).1.2.2.2.1, (f3 b hb).1.2.1, (f3 b hb).1.2.2.2.2.1, (f3 b hb).1.2.2.2.2.2⟩
  have hCn : H' s3.heap.objs.size = none := by
    have z : H' ce.locals = none := J.free
    rw [cL] at z
    exact z
  obtain ⟨f0, f1, f2, f3', f4, f5⟩ := I3.fpOk (Nat.le_refl _) hCn
  obtain ⟨mC, hnC0, _⟩ := J.loc
  have hnC : sI.heap.Ns ce.locals mC := hnC0
  rw [cL] at hnC
  generalize hCe : s3.heap.objs.size = C at *
  show wpAny (model X.prog X.w) X.A (noteFrame (.ref a) ce) _ _ _
  rw [note_frame (.ref a) cF]
  have main : ∀ h1, HandSPX.HeldZ B (X.env :: X.outer) a (Zc cls d) X.env.locals h1 → s'.heap.UpToSlots h1 → postX (model X.prog X.w) X.A X.xe use Qf acc C X.env.frame (.error (.ref a)) { s' with heap := h1 } := by
    intro h1 hh up1
    obtain ⟨k1, k2, k3, oe, vs, T, oT, ts, he, hz, hd, hv1, hnT, hTe, hT, hdT, hv3⟩ := hh
    have hn1 : h1.Ns C mC := hnC.at fun o e => k1 C o (nb C o e nCf)
    obtain ⟨oC, _, _, hoC, _⟩ := id hnC
    have hBC : B.get? C = some oC := nb C oC hoC nCf
    have aC : a ≠ C := fun e => by rw [e, hBC] at k2; cases k2
    have tC : T ≠ C := fun e => by rw [e, hBC] at hnT; cases hnT
    suffices h : ∀ h2, Heap.SameBut C h1 h2 → ∀ cenv : Env, cenv.locals = C → cenv.frame = X.env.frame → wpAny (model X.prog X.w) X.A (passOn "comprehension.variables-let-go" (.ref a) cenv : Sem Value) (fun _ _ => False) X.xe { s' with heap := h2 } from by
      cases use <;> exact ⟨mC, hn1, h⟩
    intro h2 sb cenv _ hcf
    have g0 : ∀ b o, (PySem.W.hideAll B [C]).get? b = some o → b ≠ C ∧ B.get? b = some o := fun b o e => ⟨(fun z => by
      rw [z, PySem.W.hideAll_none _ (by simp)] at e
      cases e), PySem.W.of_hideAll _ e⟩
    have nhide : ∀ b, B.get? b = none → (PySem.W.hideAll B [C]).get? b = none := fun b e => by
      cases q : (PySem.W.hideAll B [C]).get? b with
      | none => rfl
      | some o =>
        rw [(g0 b o q).2] at e
        cases e
    have at2 : ∀ b o, b ≠ C → h1.get? b = some o → h2.get? b = some o := fun b o hb e => (sb.2 b hb).trans e
    have frC : ∀ L ∈ frs (X.env :: X.outer), L ≠ C := fun L hL z => nCf (by rw [hs0, ← z]; exact hL)
    have hh2 : HandSPX.HeldZ (PySem.W.hideAll B [C]) (X.env :: X.outer) a (Zc cls d) X.env.locals h2 :=
      ⟨fun b o e => at2 b o (g0 b o e).1 (k1 b o (g0 b o e).2), nhide a k2, frames_keep k3 (fun L hL o e => at2 L o (frC L hL) e) (fun L hL => nhide L (k3.mem hL).1),
        oe, vs, T, oT, ts, at2 a oe aC he, hz, hd, hv1, nhide T hnT, hTe, at2 T oT tC hT, hdT, hv3⟩
    unfold PySem.passOn
    refine wpAny_bind (wpAny_field (at2 a oe aC he) hd hv1 ?_)
    rw [if_neg (show ¬ ((Value.ref T == Value.none) = true) from by simp)]
    have up2 : Heap.UpToSlots (PySem.W.hideAll sI.heap [C]) h2 := fun b o e hnf => by
      have bC : b ≠ C := fun z => by
        rw [z, PySem.W.hideAll_none _ (by simp)] at e
        cases e
      obtain ⟨sl, e2⟩ := (up.trans up1) b o (PySem.W.of_hideAll _ e) hnf
      exact ⟨sl, at2 b _ bC e2⟩
    have fin : wpAny (model X.prog X.w) X.A (setFlight (.ref a) cenv.frame) (fun _ s4 => wpAny (model X.prog X.w) X.A (throw (.ref a) : Sem Value) (fun _ _ => False) X.xe s4) X.xe { s' with heap := h2 } := by
      rw [hcf, hf]
      refine HandSPX.setFlight_onZ hh2 fun h4 hh4 up4 => wpAny_throw (tk _ _ ?_)
      refine ⟨a, PySem.W.hideAll B [C], { sI with heap := PySem.W.hideAll sI.heap [C] }, pins, σ, H', cls, d, rfl, ?_, fun b o e hb => ?_, up2.trans up4, .inr (.inr (by rw [hs0]; exact hh4)), na, os, ag, w⟩
      · exact I7.turned (t' := sI.toks) (fun b o hb e => PySem.W.hideAll_get _ e (by simpa using hb)) f0 f1 f3' f4 f5
      · have bC : b ≠ C := fun z => by
          rw [z, PySem.W.hideAll_none _ (by simp)] at e
          cases e
        exact PySem.W.hideAll_get _ (nb b o (PySem.W.of_hideAll _ e) hb) (by simpa using bC)
    first
      | exact wpAny_bind (wpAny_pure (wpAny_bind fin))
      | exact wpAny_bind fin
  rw [hs0] at sky
  rcases sky with ⟨hB, hn, hl, oe, vs, he, hz, hd, h1⟩ | fl | hh
  · exact HandSPX.look_newZ Zc.steady hfr hl hf he hB hn hd h1 hz main
  · exact HandSPX.looks_onZ Zc.steady hfr hf fl main
  · obtain ⟨k1, k2, k3, k4⟩ := hh
    refine looks_off Zc.steady hfr hf k1 k2 k3 k4 ?_ main
    rw [cL]
    have : C ≠ X.env.locals := f1
    simp [rawInt]
    omega
end
section
variable {X : Cx} {W : WX}
/-- HandS.Comp's lc_core with that road -/
theorem lcx_core {pins : List (Addr × Obj)} {s : Shared} {σ : L2.St} {H : Hp} {Q : VK} {elt tg iter : Expr} {ifs : List Expr} {scope : Scope} {own : List (Str × Nat)} {pos pos' : Pos} {wi : TI} {g : TG} {tt : TT} {te : TE} {use : Option (Value → Sem Unit)} {Qf : Value → Shared → Prop}
    (tk : Takes X W) (hs0 : X.stack = X.env :: X.outer) (hf : X.env.frame = some X.env.locals)
    (hc : X.calm = true) (hN : X.N.Nodup) (I : Inv X pins σ H s) (hi : PI X tg iter wi) (ok : BlkOk X.N X.env.scope scope own)
    (hg : ∀ (s : Shared) (H : Hp) (C : Addr) (cl : List (Str × Addr)) (fp : List Addr), PG (X.blk s H scope (compEnvC scope cl C X.env) fp) tg g) (ht : ∀ (s : Shared) (H : Hp) (C : Addr) (cl : List (Str × Addr)) (fp : List Addr), PTs (X.blk s H scope (compEnvC scope cl C X.env) fp) ifs tt)
    (he : ∀ (s : Shared) (H : Hp) (C : Addr) (cl : List (Str × Addr)) (fp : List Addr) (xe : Value → Shared → Prop), Takes ((X.blk s H scope (compEnvC scope cl C X.env) fp).wish xe) (fun cls d _ H' => W cls d σ H') → PE ((X.blk s H scope (compEnvC scope cl C X.env) fp).wish xe) elt te) (hs : ∀ x, foldedSetIterable iter X.env x = pure x)
    (h : tLc wi g tt te (own.map (·.2)) σ H Q)
    (hRR : ∀ D C s' m H', Inv X pins σ H' s' → Q (.ref D) H' → s'.heap.Ns C m → FpOk X pins H' C → postX (model X.prog X.w) X.A X.xe use Qf (.ref D) C X.env.frame (.ok .next) s') :
    wpAny (model X.prog X.w) X.A (comprehension (.ListComp elt [⟨tg, iter, ifs, 0⟩] scope pos) scope X.env pos' (newList []) false (eval iter X.env) use) Qf X.xe s := by
  have hfree : ∀ y ∈ scope.names, y.2 = .free → ∃ c, X.env.cells.lookup y.1 = some c := fun y hy e => by
    rcases ok.free y hy e with k | k
    · exact I.ok.has _ (.inl k)
    · exact I.ok.has _ (.inr k)
  refine comp_freeX (use := use) rfl hs (closure_ok hfree) ok.kind (fun y hy e => by rw [ok.uniq y hy, e])
    (thn (hi.run pins s σ H _ I h) fun xv s1 hx => thn hx fun itv s2 h2 => ?_)
  obtain ⟨it, fp, tn, J, H2, e, I2, T, st2, f2, q⟩ := h2
  subst e
  refine wpAny_newObj_type (newEnv_comp ?_) (by show 0 ≤ sizeLine; decide)
  generalize hD : s2.heap.objs.size = D
  have hDn : H2 D = none := I2.hok.fresh (Nat.le_of_eq hD)
  obtain ⟨W', ⟨m0, w0⟩, turn⟩ := q D hDn
  generalize hs3 : ({ s2 with heap := s2.heap.push { cls := .type "list", data := .seq ([] : List Value).toArray } } : Shared) = s3
  have I3 : Inv X pins σ (upd H2 D (.lst [])) s3 := by
    rw [← hs3]
    refine I2.laid (t' := s2.toks) (fun b o e => Heap.get?_push_of_some _ e) (Nat.le_of_eq hD) ⟨Nat.zero_le _, [], 0, .nil, ?_⟩
    rw [← hD]
    exact Heap.get?_push_size _ rfl
  have h3 : s3.heap = s2.heap.push { cls := .type "list", data := .seq ([] : List Value).toArray } := by rw [← hs3]
  have sz : ∀ b ∈ fp, b < s2.heap.objs.size := fun b hb => by
    obtain ⟨o, e, _⟩ := T.obj _ _ st2 b hb
    exact Heap.lt_size e
  have f3 : ∀ b ∈ fp, FpOk X pins (upd H2 D (.lst [])) b ∧ b < s3.heap.objs.size := fun b hb => by
    have hlt := sz b hb
    refine ⟨⟨?_, (f2 b hb).2⟩, by rw [h3, Heap.size_push]; exact Nat.lt_succ_of_lt hlt⟩
    rw [upd_ne (by rw [← hD]; exact Nat.ne_of_lt hlt)]
    exact (f2 b hb).1
  have st3 : tn 0 s3.heap := T.keep _ _ _ st2 fun b _ o e => by rw [h3]; exact Heap.get?_push_of_some _ e
  have I4 := block_start I3 ok hN f3
  have pg := hg s3 (upd H2 D (.lst [])) s3.heap.objs.size (cellsFrom (s3.heap.objs.size + 1) scope.names (cloFrom X.env.cells scope.names [])) fp
  have pt := ht s3 (upd H2 D (.lst [])) s3.heap.objs.size (cellsFrom (s3.heap.objs.size + 1) scope.names (cloFrom X.env.cells scope.names [])) fp
  have pe := he s3 (upd H2 D (.lst [])) s3.heap.objs.size (cellsFrom (s3.heap.objs.size + 1) scope.names (cloFrom X.env.cells scope.names [])) fp _ (takes_blk (use := use) (Qf := Qf) (acc := .ref D) tk hs0 hf I3 f3 (ce := compEnvC scope (cellsFrom (s3.heap.objs.size + 1) scope.names (cloFrom X.env.cells scope.names [])) s3.heap.objs.size X.env) rfl rfl)
  show codeAny _ _ (.compStart (.ListComp elt [⟨tg, iter, ifs, 0⟩] scope pos) 0 (.ref it) (.ref D) (compEnvC scope (cellsFrom (s3.heap.objs.size + 1) scope.names (cloFrom X.env.cells scope.names [])) s3.heap.objs.size X.env)) (postX (model X.prog X.w) X.A X.xe use Qf (.ref D) s3.heap.objs.size X.env.frame) { s3 with heap := pushCells (s3.heap.push { cls := .type "dict", data := .dict #[] }) scope.names }
  have nfp : ∀ b ∈ fp, (upd H2 D (.lst [])) b = none := fun b hb => (f3 b hb).1.1
  generalize hce : compEnvC scope (cellsFrom (s3.heap.objs.size + 1) scope.names (cloFrom X.env.cells scope.names [])) s3.heap.objs.size X.env = ce at I4 pg pt pe ⊢
  have cL : ce.locals = s3.heap.objs.size := by subst hce; rfl
  generalize hH3 : upd H2 D (.lst []) = H3 at I3 I4 pg pt pe w0 nfp f3
  generalize hs4 : ({ s3 with heap := pushCells (s3.heap.push { cls := .type "dict", data := .dict #[] }) scope.names } : Shared) = s4 at I4 ⊢
  have st4 : tn 0 s4.heap := T.keep _ _ _ st3 fun b _ o e => by rw [← hs4]; exact pushCells_keeps _ _ _ _ (Heap.get?_push_of_some _ e)
  have stat : ∀ {σ' : L2.St} {H' : Hp} {s' : Shared}, Inv (X.blk s3 H3 scope ce fp) [] σ' H' s' → (∀ b ∈ fp, H' b = none) → ∀ b ∈ fp, FpOk (X.blk s3 H3 scope ce fp) [] H' b := fun {σ' H' s'} I' hn b hb =>
    ⟨hn b hb, (I'.ok.exf b hb).1, I'.ok.exfs b hb, .inl hb, fun x c e => (I'.ok.exf b hb).2 x c e, fun p hp => absurd (show p ∈ ([] : List (Addr × Obj)) ++ [] from hp) (by simp)⟩
  have loop : codeAny (model X.prog X.w) X.A (.compLoop (.ListComp elt [⟨tg, iter, ifs, 0⟩] scope pos) 0 (.ref it) (.ref D) ce) (postX (model X.prog X.w) X.A X.xe use Qf (.ref D) s3.heap.objs.size X.env.frame) s4 := by
    refine compLoop_any (fun n s' => ∃ i H', Inv (X.blk s3 H3 scope ce fp) [] (wipe σ (own.map (·.2))) H' s' ∧ tn i s'.heap ∧ (∀ b ∈ fp, H' b = none) ∧ W' i n H') ?_ m0 ⟨0, H3, I4, st4, nfp, w0⟩
    rintro n s5 ⟨i, H5, I5, st5, n5, w5⟩
    rcases turn i n H5 w5 with ⟨stop, qq⟩ | ⟨go, Nx, hNx, step⟩
    · have td := T.done (X.blk s3 H3 scope ce fp) rfl rfl rfl hc i [] s5 _ H5 (fun _ _ => False) I5 (stat I5 n5) st5 stop
      refine thnF td fun r s6 ⟨hr, I6⟩ => ?_
      subst hr
      have I7 : Inv X pins σ H5 s6 := I3.call' (ch := fp) I6.os I6.base I6.hok I6.bare fun b hb => ⟨(f3 b hb).1.2.2.2.1, (f3 b hb).1.2.1, (f3 b hb).1.2.2.2.2.1, (f3 b hb).1.2.2.2.2.2⟩
      have nC : H5 s3.heap.objs.size = none := by
        have z : H5 ce.locals = none := I6.free
        rw [cL] at z
        exact z
      obtain ⟨m, hn, _⟩ := I6.loc
      have hn : s6.heap.Ns ce.locals m := hn
      rw [cL] at hn
      exact hRR D s3.heap.objs.size s6 m H5 I7 qq hn (I3.fpOk (Nat.le_refl _) nC)
    · have ti := T.item (X.blk s3 H3 scope ce fp) rfl rfl rfl hc i [] s5 _ H5 (fun _ _ => False) I5 (stat I5 n5) st5 go
      refine thnF ti fun r s6 ⟨u, hr, h6⟩ => ?_
      subst hr
      refine thnF h6 fun _ s7 ⟨x, H7, I7, r7, y7, st7, n7⟩ => ?_
      have I7' := I7.pinned (stat I7 n7) (T.obj _ _ st7)
      refine thnF (pg.run _ s7 _ H7 x u _ I7' r7 (step x H7 y7)) fun _ s8 ⟨σ8, H8, I8, hw8, q8⟩ => ?_
      refine thnF (pt.run _ s8 σ8 H8 _ I8 q8) fun b s9 ⟨H9, I9, q9⟩ => ?_
      have fin : ∀ {s' : Shared} {H' : Hp}, Inv (X.blk s3 H3 scope ce fp) ([] ++ pinsAt fp s7.heap) σ8 H' s' → Nx H' → ∃ m, m < n ∧ ∃ i H', Inv (X.blk s3 H3 scope ce fp) [] (wipe σ (own.map (·.2))) H' s' ∧ tn i s'.heap ∧ (∀ b ∈ fp, H' b = none) ∧ W' i m H' := fun {s' H'} I' nx => by
        obtain ⟨m', hm, w'⟩ := hNx H' nx
        have pin' : ∀ b ∈ fp, ∀ o, s7.heap.get? b = some o → s'.heap.get? b = some o ∧ H' b = none := fun b hb o e =>
          let z := I'.pin (b, o) (List.mem_append_right _ (List.mem_append_right _ (mem_pinsAt hb e)))
          ⟨z.1, z.2.1⟩
        have hl : (wipe σ (own.map (·.2))).length = σ8.length := by rw [← hw8, wipe_length]
        refine ⟨m', hm, i + 1, H', (I'.unpinned (pins := [])).weak hl (fun j v e => ?_), T.keep _ _ _ st7 fun b hb o e => (pin' b hb o e).1, fun b hb => ?_, w'⟩
        · rw [← hw8] at e
          exact (wipe_some e).1
        · obtain ⟨o, e, _⟩ := T.obj _ _ st7 b hb
          exact (pin' b hb o e).2
      cases b with
      | false =>
        simp only [Bool.false_eq_true, if_false] at q9 ⊢
        exact fin I9 q9
      | true =>
        simp only [if_true] at q9 ⊢
        refine wpAny_mono (pe.run _ s9 σ8 H9 _ (I9.wish _) q9) (fun z s10 ⟨yv, H10, I10, r10, acc, hD10, hz10, nx⟩ => ?_) fun _ _ z => z
        exact app_ok (X := X.blk s3 H3 scope ce fp) I10.unwish hD10 hz10 r10 fun s11 I11 => fin I11 nx
  exact codeAny_compStart_list loop (T.self X.A 0 _ _ _ st4 loop)
theorem pe_lcX {elt tg iter : Expr} {ifs : List Expr} {scope : Scope} {own : List (Str × Nat)} {pos : Pos} {wi : TI} {g : TG} {tt : TT} {te : L2.St → TE} (tk : Takes X W) (hs0 : X.stack = X.env :: X.outer) (hf : X.env.frame = some X.env.locals) (hc : X.calm = true) (hN : X.N.Nodup) (hi : PI X tg iter wi) (ok : BlkOk X.N X.env.scope scope own)
    (hg : ∀ (s : Shared) (H : Hp) (C : Addr) (cl : List (Str × Addr)) (fp : List Addr), PG (X.blk s H scope (compEnvC scope cl C X.env) fp) tg g) (ht : ∀ (s : Shared) (H : Hp) (C : Addr) (cl : List (Str × Addr)) (fp : List Addr), PTs (X.blk s H scope (compEnvC scope cl C X.env) fp) ifs tt)
    (he : ∀ (σ : L2.St) (s : Shared) (H : Hp) (C : Addr) (cl : List (Str × Addr)) (fp : List Addr) (xe : Value → Shared → Prop), Takes ((X.blk s H scope (compEnvC scope cl C X.env) fp).wish xe) (fun cls d _ H' => W cls d σ H') → PE ((X.blk s H scope (compEnvC scope cl C X.env) fp).wish xe) elt (te σ)) (hs : ∀ x, foldedSetIterable iter X.env x = pure x := by intro _; rfl) :
    PE X (.ListComp elt [⟨tg, iter, ifs, 0⟩] scope pos) (fun σ H Q => tLc wi g tt (te σ) (own.map (·.2)) σ H Q) := by
  refine ⟨fun pins s σ H Q I h => ?_⟩
  rw [eval_ListComp]
  refine lcx_core tk hs0 hf hc hN I hi ok hg ht (he σ) hs h fun D C s' m H' I' q hn f => ⟨m, hn, fun h'' sb => ?_⟩
  obtain ⟨f0, f1, f2, f3, f4, f5⟩ := f
  exact ⟨.ref D, H', I'.turned (t' := s'.toks) (fun b o hb e => (sb.2 b hb).trans e) f0 f1 f3 f4 f5, rfl, q⟩
theorem ps_setLcX {i : Nat} {y : Str} {py : Pos} {elt tg iter : Expr} {ifs : List Expr} {scope : Scope} {own : List (Str × Nat)} {pos spos : Pos} {wi : TI} {g : TG} {tt : TT} {te : L2.St → TE} (tk : Takes X W) (hs0 : X.stack = X.env :: X.outer) (hf : X.env.frame = some X.env.locals) (hc : X.calm = true) (hN : X.N.Nodup) (hy : X.N[i]? = some y) (hyl : X.env.scope.names.lookup y = some .local)
    (hsw : swapsWith (.ListComp elt [⟨tg, iter, ifs, 0⟩] scope pos) (some (.Name y py)) spos.line X.env = pure true) (hi : PI X tg iter wi) (ok : BlkOk X.N X.env.scope scope own)
    (hg : ∀ (s : Shared) (H : Hp) (C : Addr) (cl : List (Str × Addr)) (fp : List Addr), PG (X.blk s H scope (compEnvC scope cl C X.env) fp) tg g) (ht : ∀ (s : Shared) (H : Hp) (C : Addr) (cl : List (Str × Addr)) (fp : List Addr), PTs (X.blk s H scope (compEnvC scope cl C X.env) fp) ifs tt)
    (he : ∀ (σ : L2.St) (s : Shared) (H : Hp) (C : Addr) (cl : List (Str × Addr)) (fp : List Addr) (xe : Value → Shared → Prop), Takes ((X.blk s H scope (compEnvC scope cl C X.env) fp).wish xe) (fun cls d _ H' => W cls d σ H') → PE ((X.blk s H scope (compEnvC scope cl C X.env) fp).wish xe) elt (te σ)) (hs : ∀ x, foldedSetIterable iter X.env x = pure x := by intro _; rfl) :
    PS X (.Assign [.Name y py] (.ListComp elt [⟨tg, iter, ifs, 0⟩] scope pos) spos) (tAsg (fun σ H Q => tLc wi g tt (te σ) (own.map (·.2)) σ H Q) (gName i)) := by
  refine ⟨fun pins s σ H D I h => ?_⟩
  rw [exec_Assign_Name_used _ _ _ _ hsw]
  refine wpAny_bind (wpAny_standAt (wpAny_bind ?_))
  show wpAny _ X.A (do let _ ← comprehension (.ListComp elt [⟨tg, iter, ifs, 0⟩] scope pos) scope X.env (firstIterPos [⟨tg, iter, ifs, 0⟩] pos) (newList []) false (eval iter X.env) (some (assign (.Name y py) X.env))) _ _ s
  have h : tLc wi g tt (te σ) (own.map (·.2)) σ H (fun x H1 => gName i x σ H1 D.nx) := h
  refine wpAny_bind (thn (lcx_core (Qf := fun _ s' => SP X pins D .next s') tk hs0 hf hc hN I hi ok hg ht (he σ) hs h fun L C s' m H' I' q hn f => ?_) fun _ s' hq => wpAny_pure (wpAny_pure hq))
  show wpAny _ _ (assign (.Name y py) X.env (.ref L)) _ _ _
  refine wpAny_assign_Name (store_ok2 (v := V.ref L) I' hN hy (.inl hyl) rfl (fun s2 I2 ⟨a, sb, ha⟩ => ?_) (.inr hyl))
  obtain ⟨f0, f1, f2, f3, f4, f5⟩ := f
  have haC : C ≠ a := by
    rcases ha with z | z
    · rw [z]; exact f1
    · exact fun e => f4 y a z e.symm
  refine ⟨m, hn.sameBut sb haC, fun h3 sb3 => ?_⟩
  exact ⟨_, H', I2.turned (t' := s2.toks) (fun b o hb e => (sb3.2 b hb).trans e) f0 f1 f3 f4 f5, q⟩
end
/-! ### the reading -/
def lcRX (g : FG) (ft : FT) (fe : FE) (vs : List Nat) (lk : M → Prop) (Q : List D → M → Prop) (Qx : PX) : List D → List D → M → Prop
  | [], acc, m => lk m ∧ Q acc m
  | d :: ds, acc, m => lk m ∧ g m d fun m1 => ft m1 (fun c m2 => iteP c (fe m2 (fun r m3 => bindO (keep m3 r) fun p => acc.length < sizeLine ∧ lcRX g ft fe vs lk Q Qx ds (acc ++ [p.1]) (wipeM p.2 vs)) (fun xc m3 => Qx xc (wipeM m3 vs)))
      (lcRX g ft fe vs lk Q Qx ds acc (wipeM m2 vs))) (fun _ _ => False)
section
variable {g : FG} {ft : FT} {fe : FE} {vs : List Nat} {lk : M → Prop} {Q : List D → M → Prop} {Qx : PX} {d : D} {ds acc : List D} {m : M}
theorem lcRX_nil : lcRX g ft fe vs lk Q Qx [] acc m = (lk m ∧ Q acc m) := rfl
theorem lcRX_cons : lcRX g ft fe vs lk Q Qx (d :: ds) acc m = (lk m ∧ g m d fun m1 => ft m1 (fun c m2 => iteP c (fe m2 (fun r m3 => bindO (keep m3 r) fun p => acc.length < sizeLine ∧ lcRX g ft fe vs lk Q Qx ds (acc ++ [p.1]) (wipeM p.2 vs)) (fun xc m3 => Qx xc (wipeM m3 vs)))
      (lcRX g ft fe vs lk Q Qx ds acc (wipeM m2 vs))) (fun _ _ => False)) := rfl
theorem lcRX_lk (h : lcRX g ft fe vs lk Q Qx ds acc m) : lk m := by
  cases ds with
  | nil => rw [lcRX_nil] at h; exact h.1
  | cons d ds => rw [lcRX_cons] at h; exact h.1
end
@[irreducible] def lcQX (g : FG) (ft : FT) (fe : FE) (vs : List Nat) (lk : M → Prop) (Q : List D → M → Prop) (Qx : PX) (ds acc : List D) (m : M) : Prop := lcRX g ft fe vs lk Q Qx ds acc m
theorem lcQX_eq {g : FG} {ft : FT} {fe : FE} {vs : List Nat} {lk : M → Prop} {Q : List D → M → Prop} {Qx : PX} {ds acc : List D} {m : M} : lcQX g ft fe vs lk Q Qx ds acc m = lcRX g ft fe vs lk Q Qx ds acc m := by rw [lcQX]
def fLcX (fi : FI) (g : FG) (ft : FT) (fe : FE) (vs : List Nat) : FE := fun m Q Qx => fi m (fun ds lk m1 => lcQX g ft fe vs lk (fun acc m' => Q (.tmp (.lst acc)) m') Qx ds [] (wipeM m1 vs)) Qx
section
variable {X : Cx} {W : WX}
theorem lcx_core' {ti : TI} {fi : FI} {g : FG} {ft : FT} {fe : FE} {is vs : List Nat} (his : ∀ i ∈ is, i ∈ vs)
    (si : ∀ (w : Wd) (m : M) (Q : List D → (M → Prop) → M → Prop) (Qx : PX) (R : It → Hp → Prop), SOk X.K w m → fi m Q Qx → (∀ ds lk m' w' J, w'.σ = w.σ → Aft X.K w m w' m' → ItOk X.K w' m' J ds lk → Q ds lk m' → R J w'.H) → ExOk X.K W w m Qx → ti w.σ w.H R)
    {w : Wd} {m : M} {Q : Ret → M → Prop} {Qx : PX} {Q' : VK} (s : SOk X.K w m) (h : fLcX fi g ft fe vs m Q Qx) (k : ∀ r m' w' v, w'.σ = w.σ → Aft X.K w m w' m' → RetOk X.K w.H w' m' v r → Q r m' → Q' v w'.H) (kx : ExOk X.K W w m Qx) :
    tLc ti (canG X.K is g) (canT X.K WN ft) (canE X.K (fun cls d _ H' => W cls d w.σ H') fe) vs w.σ w.H Q' := by
  refine si w m _ Qx _ s h (fun ds lk m1 w1 J e1 a1 J1 q => ?_) kx
  rw [lcQX_eq] at q
  intro D hD
  have hD0 : w.H D = none := a1.st.back hD
  refine ⟨fun i n H => n = ds.length - i ∧ i ≤ ds.length ∧ ∃ w2 m2 acc, w2.σ = wipe w.σ vs ∧ w2.H = H ∧ Aft X.K w1 m1 w2 m2 ∧ RetOk X.K w1.H w2 m2 (.ref D) (.tmp (.lst acc)) ∧ lcRX g ft fe vs lk (fun acc m' => Q (.tmp (.lst acc)) m') Qx (ds.drop i) acc m2, ⟨_, rfl, Nat.zero_le _, (w1.put D (.lst [])).wip vs, wipeM m1 vs, [], ?_, rfl, ?_, ?_, q⟩, ?_⟩
  · show wipe w1.σ vs = _
    rw [e1]
  · obtain ⟨s2, st2⟩ := a1.ok.put (o := .lst []) hD
    exact Aft.wip ⟨s2, st2⟩ vs
  · obtain ⟨s2, st2⟩ := a1.ok.put (o := .lst []) hD
    obtain ⟨p, o, ep, f1, f2, f3, f4, f5⟩ := a1.ok.putRet (o := .lst []) (d := .lst []) hD (.lst .nil)
    exact ⟨p, o, ep, f1, f2, fun z => f3 ((s2.wip vs).2 p z), f4, f5⟩
  · rintro i n _ ⟨rfl, hi, w2, m2, acc, e2, rfl, a2, t2, q2⟩
    by_cases hlt : i < ds.length
    · refine .inr ⟨J1.go i w2 m2 a2 (lcRX_lk q2) hlt, fun H' => ∃ w3 m3 acc', w3.σ = wipe w.σ vs ∧ w3.H = H' ∧ Aft X.K w1 m1 w3 m3 ∧ RetOk X.K w1.H w3 m3 (.ref D) (.tmp (.lst acc')) ∧ lcRX g ft fe vs lk (fun acc m' => Q (.tmp (.lst acc)) m') Qx (ds.drop (i + 1)) acc' m3,
        fun H' ⟨w3, m3, acc', z⟩ => ⟨ds.length - (i + 1), by omega, rfl, hlt, w3, m3, acc', z⟩, fun x H' y => ?_⟩
      obtain ⟨w3, e3, eH, a3, r3⟩ := J1.yld i w2 m2 ds[i] x H' a2 (lcRX_lk q2) (List.getElem?_eq_getElem hlt) y
      rw [List.drop_eq_getElem_cons hlt, lcRX_cons] at q2
      have t3 := tmp_step t2 a3.st
      have e32 := e3.trans e2
      refine ⟨w3, m2, ds[i], _, e32, eH, a3.ok, r3, q2.2, fun m4 w4 a4 o4 q4 => ?_⟩
      have hw4 : wipe w4.σ vs = wipe w.σ vs := wipe_only (by rw [← e32]; exact o4) his
      refine ⟨hw4, w4, m4, _, _, rfl, rfl, a4.ok, q4, fun c m5 w5 e5 a5 q5 => ?_, fun _ _ _ _ _ _ _ z => z.elim⟩
      have t4 := tmp_step t3 a4.st
      have t5 := tmp_step t4 a5.st
      have a25 := ((a2.trans a3).trans a4).trans a5
      cases c with
      | false =>
        have q5 := q5.2 rfl
        refine L2.iteF ?_
        obtain ⟨p, o, ep, f1, f2, f3, f4, f5⟩ := t5
        refine ⟨w5.wip vs, wipeM m5 vs, acc, ?_, rfl, a25.wip vs, ⟨p, o, ep, f1, f2, fun z => f3 ((a5.ok.wip vs).2 p z), f4, f5⟩, q5⟩
        show wipe w5.σ vs = _
        rw [e5]; exact hw4
      | true =>
        have q5 := q5.1 rfl
        refine L2.iteT ?_
        refine ⟨w5, m5, _, _, e5, rfl, a5.ok, q5, fun r m6 w6 v e6 a6 r6 q6 => ?_, fun xc m6 w6 d6 e6 a6 x6 q6 => ?_⟩
        · obtain ⟨⟨d, m7⟩, hk, hz, q7⟩ := bindO_elim q6
          obtain ⟨w7, e7, eH7, a7, r7⟩ := keep_ok a6 r6 hk
          obtain ⟨p, o, ep, f1, f2, f3, f4, f5⟩ := tmp_step t5 a7.st
          cases ep
          cases f5 with
          | lst rr =>
            rename_i accV
            refine ⟨accV, by rw [← eH7]; exact f4, by rw [rr.length]; exact hz, ?_⟩
            have a27 := a25.trans a7
            have a8 := (a27.writeTmp (o := .lst (accV ++ [v])) f1 f2 f3 f4 (ORep.lst rr).odd).wip vs
            refine ⟨(w7.put D (.lst (accV ++ [v]))).wip vs, wipeM m7 vs, acc ++ [d], ?_, ?_, a8, ⟨D, _, rfl, f1, f2, fun z => ?_, upd_same, .lst (rr.append (.cons r7 .nil))⟩, q7⟩
            · show wipe w7.σ vs = _
              rw [e7, e6, e5]; exact hw4
            · show upd w7.H D _ = _
              rw [eH7]
            · exact f3 (((a27.writeTmp (o := .lst (accV ++ [v])) f1 f2 f3 f4 (ORep.lst rr).odd).ok.wip vs).2 D z)
        · -- it raises
          have ew : (w6.wip vs).σ = wipe w.σ vs := by
            show wipe w6.σ vs = _
            rw [e6, e5]; exact hw4
          obtain ⟨a9, _⟩ := (((a1.trans a25).trans a6).wip vs).unwip ew
          exact kx xc (wipeM m6 vs) ⟨w6.G, w6.H, w6.γ, w.σ⟩ d6 rfl a9 x6 q6
    · have e : i = ds.length := by omega
      subst e
      refine .inl ⟨J1.stop w2 m2 a2 (lcRX_lk q2), ?_⟩
      rw [List.drop_length, lcRX_nil] at q2
      obtain ⟨a9, ow⟩ := (a1.trans a2).unwip e2
      obtain ⟨p, o, ep, f1, f2, f3, f4, f5⟩ := t2
      cases ep
      exact k (.tmp (.lst acc)) m2 ⟨w2.G, w2.H, w2.γ, w.σ⟩ (.ref D) rfl a9 ⟨D, o, rfl, hD0, f2, fun z => f3 (ow D z), f4, f5⟩ q2.2
theorem ve_lcX {elt tg iter : Expr} {ifs : List Expr} {scope : Scope} {own : List (Str × Nat)} {pos : Pos} {fi : FI} {g : FG} {ft : FT} {fe : FE} {is : List Nat} (tk : Takes X W) (hc : X.calm = true) (hN : X.N.Nodup) (hi : VI X W tg iter fi) (ok : BlkOk X.N X.env.scope scope own)
    (hg : ∀ (s : Shared) (H : Hp) (C : Addr) (cl : List (Str × Addr)) (fp : List Addr), VG (X.blk s H scope (compEnvC scope cl C X.env) fp) is tg g)
    (ht : ∀ (s : Shared) (H : Hp) (C : Addr) (cl : List (Str × Addr)) (fp : List Addr), VTs (X.blk s H scope (compEnvC scope cl C X.env) fp) WN ifs ft)
    (he : ∀ (s : Shared) (H : Hp) (C : Addr) (cl : List (Str × Addr)) (fp : List Addr) (xe : Value → Shared → Prop) (W' : WX), Takes ((X.blk s H scope (compEnvC scope cl C X.env) fp).wish xe) W' → VE ((X.blk s H scope (compEnvC scope cl C X.env) fp).wish xe) W' elt fe) (hs0 : X.stack = X.env :: X.outer := by rfl) (hf : X.env.frame = some X.env.locals := by rfl)
    (his : ∀ i ∈ is, i ∈ own.map (·.2) := by decide) (hs : ∀ x, foldedSetIterable iter X.env x = pure x := by intro _; rfl) :
    VE X W (.ListComp elt [⟨tg, iter, ifs, 0⟩] scope pos) (fLcX fi g ft fe (own.map (·.2))) := by
  obtain ⟨ti, pi, si⟩ := hi.ex
  exact ⟨⟨_, pe_lcX (g := canG X.K is g) (tt := canT X.K WN ft) (te := fun σ => canE X.K (fun cls d _ H' => W cls d σ H') fe) tk hs0 hf hc hN pi ok (fun s H C cl fp => (hg s H C cl fp).can) (fun s H C cl fp => (ht s H C cl fp).run) (fun σ s H C cl fp xe t => (he s H C cl fp xe _ t).can) hs, fun w m Q Qx Q' s h k kx => lcx_core' his si s h k kx⟩⟩
theorem vs_setLcX (i : Nat) {y : Str} {py : Pos} {elt tg iter : Expr} {ifs : List Expr} {scope : Scope} {own : List (Str × Nat)} {pos spos : Pos} {fi : FI} {g : FG} {ft : FT} {fe : FE} {is : List Nat} (tk : Takes X W) (hc : X.calm = true) (hN : X.N.Nodup) (hi : VI X W tg iter fi) (ok : BlkOk X.N X.env.scope scope own)
    (hg : ∀ (s : Shared) (H : Hp) (C : Addr) (cl : List (Str × Addr)) (fp : List Addr), VG (X.blk s H scope (compEnvC scope cl C X.env) fp) is tg g)
    (ht : ∀ (s : Shared) (H : Hp) (C : Addr) (cl : List (Str × Addr)) (fp : List Addr), VTs (X.blk s H scope (compEnvC scope cl C X.env) fp) WN ifs ft)
    (he : ∀ (s : Shared) (H : Hp) (C : Addr) (cl : List (Str × Addr)) (fp : List Addr) (xe : Value → Shared → Prop) (W' : WX), Takes ((X.blk s H scope (compEnvC scope cl C X.env) fp).wish xe) W' → VE ((X.blk s H scope (compEnvC scope cl C X.env) fp).wish xe) W' elt fe) (hs0 : X.stack = X.env :: X.outer := by rfl) (hf : X.env.frame = some X.env.locals := by rfl) (his : ∀ i ∈ is, i ∈ own.map (·.2) := by decide)
    (hsw : swapsWith (.ListComp elt [⟨tg, iter, ifs, 0⟩] scope pos) (some (.Name y py)) spos.line X.env = pure true := by exact sw_true rfl rfl rfl (by decide +kernel))
    (hy : X.N[i]? = some y := by rfl) (hyl : X.env.scope.names.lookup y = some .local := by rfl) (hs : ∀ x, foldedSetIterable iter X.env x = pure x := by intro _; rfl) :
    VS X W (.Assign [.Name y py] (.ListComp elt [⟨tg, iter, ifs, 0⟩] scope pos) spos) (sAsg i (fLcX fi g ft fe (own.map (·.2)))) := by
  obtain ⟨ti, pi, si⟩ := hi.ex
  refine ⟨⟨_, ps_setLcX (g := canG X.K is g) (tt := canT X.K WN ft) (te := fun σ => canE X.K (fun cls d _ H' => W cls d σ H') fe) tk hs0 hf hc hN hy hyl hsw pi ok (fun s H C cl fp => (hg s H C cl fp).can) (fun s H C cl fp => (ht s H C cl fp).run) (fun σ s H C cl fp xe t => (he s H C cl fp xe _ t).can) hs, fun w m E D s h k => ?_⟩⟩
  refine lcx_core' (Q' := fun x H1 => gName i x w.σ H1 D.nx) his si s h (fun r m1 w1 v e1 a1 r1 q => ?_) k.exOk
  obtain ⟨m2, h2, q1, q2⟩ := bindO_elim q
  have hl : i < w1.σ.length := by rw [← a1.ok.len, ← sto_env h2]; exact q1
  obtain ⟨w2, e2, eH, a2⟩ := sto_ok a1 r1 hl h2
  show D.nx (w.σ.set i (some v)) w1.H
  rw [← e1, ← e2, ← eH]
  exact k.nx m2 w2 a2 q2
end
/-! ### its loops -/
theorem lcX_map {α β : Type} (f : α → D) (r : β → D) {g : FG} {ft : FT} {fe : FE} {vs : List Nat} {lk : M → Prop} {Q : List D → M → Prop} {Qx : PX} (I : List α → List β → M → Prop) (hnil : ∀ acc m, I [] acc m → lk m ∧ Q (acc.map r) m)
    (hcons : ∀ x xs acc m, I (x :: xs) acc m → lk m ∧ ∀ k : List D → M → Prop, (∀ acc' m', I xs acc' m' → k (acc'.map r) m') → g m (f x) fun m1 => ft m1 (fun c m2 => iteP c (fe m2 (fun rr m3 => bindO (keep m3 rr) fun p => acc.length < sizeLine ∧ k (acc.map r ++ [p.1]) (wipeM p.2 vs)) (fun xc m3 => Qx xc (wipeM m3 vs))) (k (acc.map r) (wipeM m2 vs))) (fun _ _ => False)) :
    ∀ xs acc m, I xs acc m → lcQX g ft fe vs lk Q Qx (xs.map f) (acc.map r) m := by
  have H : ∀ xs acc m, I xs acc m → lcRX g ft fe vs lk Q Qx (xs.map f) (acc.map r) m := by
    intro xs
    induction xs with
    | nil => intro acc m h; rw [List.map_nil, lcRX_nil]; exact hnil acc m h
    | cons x xs ih =>
      intro acc m h
      obtain ⟨h1, h2⟩ := hcons x xs acc m h
      rw [List.map_cons, lcRX_cons]
      refine ⟨h1, ?_⟩
      simp only [List.length_map]
      exact h2 (fun acc' m' => lcRX g ft fe vs lk Q Qx (xs.map f) acc' m') ih
  intro xs acc m h
  rw [lcQX_eq]
  exact H xs acc m h
theorem lcX_range {β : Type} (r : β → D) {lo : Int} {n : Nat} {g : FG} {ft : FT} {fe : FE} {vs : List Nat} {lk : M → Prop} {Q : List D → M → Prop} {Qx : PX} (I : Nat → List β → M → Prop) (hnil : ∀ acc m, I n acc m → lk m ∧ Q (acc.map r) m)
    (hcons : ∀ i acc m, i < n → I i acc m → lk m ∧ ∀ k : List D → M → Prop, (∀ acc' m', I (i + 1) acc' m' → k (acc'.map r) m') → g m (.int (lo + i)) fun m1 => ft m1 (fun c m2 => iteP c (fe m2 (fun rr m3 => bindO (keep m3 rr) fun p => acc.length < sizeLine ∧ k (acc.map r ++ [p.1]) (wipeM p.2 vs)) (fun xc m3 => Qx xc (wipeM m3 vs))) (k (acc.map r) (wipeM m2 vs))) (fun _ _ => False))
    {m : M} {acc : List β} (h0 : I 0 acc m) : lcQX g ft fe vs lk Q Qx (rangeD lo n) (acc.map r) m := by
  have H : ∀ (j i : Nat) acc m, i + j = n → I i acc m → lcRX g ft fe vs lk Q Qx ((List.range' i j).map fun (i : Nat) => .int (lo + i)) (acc.map r) m := by
    intro j
    induction j with
    | zero => intro i acc m e hi; rw [Nat.add_zero] at e; subst e; rw [List.range'_zero, List.map_nil, lcRX_nil]; exact hnil acc m hi
    | succ j ih =>
      intro i acc m e hi
      rw [List.range'_succ, List.map_cons, lcRX_cons]
      obtain ⟨h1, h2⟩ := hcons i acc m (by omega) hi
      refine ⟨h1, ?_⟩
      simp only [List.length_map]
      exact h2 (fun acc' m' => lcRX g ft fe vs lk Q Qx ((List.range' (i + 1) j).map fun (i : Nat) => .int (lo + i)) acc' m') fun acc' m' h' => ih (i + 1) acc' m' (by omega) h'
  rw [lcQX_eq]
  unfold rangeD
  rw [List.range_eq_range']
  exact H n 0 acc m (by omega) h0
end VL

set_option maxHeartbeats 4000000
/-! The value layer: int(..) of a text. -/
namespace VL
open PySem PySem.Spec PyProof.Rows L2
variable [Tabs]
section
variable {X : Cx}
theorem call_intT : CallR X (.type "int") (fun xs H Q => ∃ x n, xs = [.str x] ∧ PySem.intText? x = some n ∧ x.length ≤ 640 ∧ Q (.int n) H) := by
  intro pins s σ H xs us Q I r h
  obtain ⟨x, n, rfl, hn, hl, q⟩ := h
  obtain ⟨u, rfl, t, rfl⟩ := vals1 r
  exact PySem.W.KIN.call_text hn hl ⟨.int n, H, I.tok _, ⟨_, rfl⟩, q⟩
end
def gIntT : G1 := fun d k => match d with
  | .str x => bindO (PySem.intText? x) fun n => x.length ≤ 640 ∧ k (.fz (.int n))
  | _ => False
theorem intTV {K : PySem.W.Frag} : UnV K (fun v H Q => (fun xs H Q => ∃ x n, xs = [V.str x] ∧ PySem.intText? x = some n ∧ x.length ≤ 640 ∧ Q (.int n) H : List V → Hp → VK → Prop) [v] H Q) gIntT := by
  intro w m v d k Q' s hv h q
  unfold gIntT at h
  split at h
  · rename_i x
    cases hv
    obtain ⟨n, hn, h⟩ := bindO_elim h
    exact ⟨x, n, rfl, hn, h.1, outFz s q (.int _) h.2⟩
  · exact h.elim
/-- int(..) of a text of at most two figures -/
def figs (w : List Nat) : Nat := w.foldl (fun a c => a * 10 + (c - 48)) 0
theorem int_figs2 : ∀ a, a < 10 → ∀ b, b < 10 → PySem.intText? ⟨#[48 + a, 48 + b]⟩ = some ((a * 10 + b : Nat) : Int) := by decide +kernel
theorem int_figs1 : ∀ a, a < 10 → PySem.intText? ⟨#[48 + a]⟩ = some ((a : Nat) : Int) := by decide +kernel
end VL

set_option maxHeartbeats 4000000
/-! The value layer: a def that leaves the containers it has shared to its caller. -/
namespace VL
open PySem PySem.Spec PyProof.Rows L2
variable [Tabs]
/-- what leaves the def, pointers and all -/
def finQ (m : M) : Ret → Option Ret
  | .fz d => some (.fz d)
  | .tmp d => some (.tmp d)
  | .sl i => match m.env[i]? with
    | some (.own d) => some (.tmp d)
    | some (.val d) => some (.fz d)
    | _ => none
def endsG (Q : Ret → List D → Prop) (Qx : Xc → List D → Prop) : EndsV := ⟨fun m => Q (.fz .non) m.gs, fun r m => bindO (finQ m r) fun r' => Q r' m.gs, fun _ => False, fun _ => False, fun xc m => Qx xc m.gs⟩
def bodyG (N : Nat) (fb : FS) : FV := fun ds gs Q Qx => fb (endsG Q Qx) (padM N ds gs)
section
variable {K : PySem.W.Frag} {G H : Hp} {γ : List Addr} {ds gs : List D} {vs : List V} {N : List Str}
theorem body_endG {w' : Wd} {m' : M} (a : Aft K ⟨G, H, γ, L2.start N vs⟩ (padM N.length ds gs) w' m') : Aft K (w0 G H γ) (m0 gs) (w0 w'.G w'.H w'.γ) (m0 m'.gs) := by
  refine ⟨a.ok.bare, ⟨a.st.gg, fun b o h n t => ?_, fun b o h => ?_, fun b h => ?_, a.st.al, a.st.gp⟩⟩
  · exact a.st.fr b o h (fun z => n (own_bare.mpr (start_own.mp z))) t
  · rcases a.st.gn b o h with z | z | z
    · exact .inl z
    · exact .inr (.inl (own_bare.mpr (start_own.mp z)))
    · exact .inr (.inr z)
  · rcases a.st.on b (.inl (own_bare.mp h)) with z | z
    · exact .inl (own_bare.mpr (start_own.mp z))
    · exact .inr z
theorem body_retG {w' : Wd} {m' : M} {v : V} {r r' : Ret} (a : Aft K ⟨G, H, γ, L2.start N vs⟩ (padM N.length ds gs) w' m') (h : RetOk K H w' m' v r) (e : finQ m' r = some r') : RetOk K H (w0 w'.G w'.H w'.γ) (m0 m'.gs) v r' := by
  cases r with
  | fz d => cases e; exact h
  | tmp d =>
    cases e
    obtain ⟨p, o, rfl, h1, h2, h3, h4, h5⟩ := h
    exact ⟨p, o, rfl, h1, h2, fun z => h3 (.inl (own_bare.mp z)), h4, h5⟩
  | sl i =>
    have h : w'.σ[i]? = some (some v) := h
    dsimp only [finQ] at e
    cases hs : m'.env[i]? with
    | none => rw [hs] at e; cases e
    | some s =>
      rw [hs] at e
      cases s with
      | no => cases e
      | own d =>
        cases e
        obtain ⟨b, o, h1, h2, h3, h4, h5⟩ := a.ok.own i d hs
        rw [h] at h1
        cases h1
        have nb : _ ∉ γ := fun z => h3 (a.st.gp.mem z)
        exact ⟨_, o, rfl, fresh_own a (.inr ⟨i, d, hs, h⟩) nb, h2, fun z => h3 (own_bare.mp z), h4, h5⟩
      | val d =>
        obtain ⟨v', h1, h2⟩ := a.ok.val i d hs
        rw [h] at h1
        cases h1
        cases e
        exact h2
end
/-- THE RULE for such a def -/
theorem fn_okG {P : Program} {w : World} {K : PySem.W.Frag} {mg : Str → Option Value} {base : Heap} {x qual : Str} {st : Stmt} {f : Addr} {fd : FuncData} {N ps : List Str} {k : Nat} {fb : FS} (F : L2.Fun K x qual st f fd) (S : FnScope N ps (defScope st))
    (hbody : ∀ (cdv : Value) (A : Around) (outer : List Env) (s : Shared) (H : Hp) (E : XK), Room k (A.deeper (envOfC qual (defScope st) s.heap.objs.size f cdv)) → VSs (cxOf (L2.CX P w) P w K mg base N qual (defScope st) f cdv A outer s H E) (fun cls d _ H => E cls d H) (defBody st) fb) :
    FnOk P w K mg base (L2.CX P w) (k + 1) f fd ps (spV K ps.length (bodyG N.length fb)) := by
  refine F.okX S (fun vs H Q E h => spV_len h) fun cdv A outer s H vs Q E hr h => ?_
  obtain ⟨t, pt, stp⟩ := (hbody cdv A outer s H E hr).ex
  refine ⟨t, pt, ?_⟩
  obtain ⟨G, γ, ds, gs, Qr, Qe, s0, r, hl, q, k1, k2⟩ := h
  refine stp ⟨G, H, γ, L2.start N vs⟩ (padM N.length ds gs) _ _ (padM_ok s0 r) q ⟨fun m' w' a' q' => ?_, fun r' m' w' v a' rr q' => ?_, fun _ _ _ q' => q'.elim, fun _ _ _ q' => q'.elim, fun xc m' w' d a' x' q' => ?_⟩
  · exact k1 (.fz .non) _ w'.G w'.H .non (body_endG a') .non q'
  · obtain ⟨r2, e2, q2⟩ := bindO_elim q'
    exact k1 r2 _ w'.G w'.H v (body_endG a') (body_retG a' rr e2) q2
  · exact k2 xc _ w'.G w'.H d (body_endG a') x' q'
/-- a def of which nothing is told -/
theorem fn_false {P : Program} {w : World} {K : PySem.W.Frag} {mg : Str → Option Value} {base : Heap} {x qual : Str} {st : Stmt} {f : Addr} {fd : FuncData} {N ps : List Str} {k n : Nat} {g : FV} (F : L2.Fun K x qual st f fd) (S : FnScope N ps (defScope st)) (h0 : ∀ ds gs Q Qe, ¬ g ds gs Q Qe) :
    FnOk P w K mg base (L2.CX P w) k f fd ps (spV K n g) := by
  have no : ∀ {vs : List V} {H : Hp} {Q : VK} {E : XK}, spV K n g vs H Q E → False := fun h => by
    obtain ⟨_, _, _, _, _, _, _, _, _, q, _⟩ := h
    exact h0 _ _ _ _ q
  cases k with
  | zero => exact ⟨fun vs H Q E h => (no h).elim, fun A st s H args us vs Q E hr e b r h => (no h).elim⟩
  | succ k => exact F.okX S (fun vs H Q E h => (no h).elim) fun cdv A outer s H vs Q E hr h => (no h).elim
end VL

set_option maxHeartbeats 4000000
/-! The value layer: zip of two lists or of two tuples, whichever they are. -/
namespace VL
open PySem PySem.Spec PyProof.Rows L2
variable [Tabs]
def zipK (m : M) (d e : D) (Q : List D → (M → Prop) → M → Prop) : Prop := match tupOf' d, tupOf' e with
  | some ds, some es => Q (zipD ds es) (fun _ => True) m
  | _, _ => iLstOf m d fun ds lk1 _ => iLstOf m e fun es lk2 _ => Q (zipD ds es) (fun m' => lk1 m' ∧ lk2 m') m
def iZipS (f g : FE) : FI := fun m Q Qx => f m (fun r m1 => bindO (keep m1 r) fun p => g p.2 (fun r' m2 => bindO (keep m2 r') fun p' => zipK p'.2 p.1 p'.1 Q) Qx) Qx
section
variable {X : Cx} {W : WX} {a b c : Expr} {fa fb fc : FE} {pos : Pos}
theorem vi_zipS {elts : List Expr} {kk : Nat} {p tpos : Pos} (hg : Gl X "zip") (hm : X.mg "zip" = none) (ha : VE X W a fa) (hb : VE X W b fb) (hs : starEach [a, b] X.env = (false, eval a X.env) :: starEach [b] X.env := by rfl) (hs2 : starEach [b] X.env = [(false, eval b X.env)] := by rfl) (hpl : (backTo pos (starEach [b] X.env)).any (·.1) = false := by rfl) :
    VI X W (.Tuple elts kk tpos) (.Call (.Name "zip" p) [a, b] [] pos) (iZipS fa fb) := by
  obtain ⟨ta, pa, sa⟩ := ha.ex
  obtain ⟨tb, pb, sb⟩ := hb.ex
  refine ⟨⟨_, RZ.pi_zipA hg hm (pa_cons pa (pa_cons pb pa_nil hs2) hs) hs hpl, fun w m Q Qx R s h k kx => ?_⟩⟩
  refine sa w m _ _ _ s h (fun r m1 w1 v e1 a1 r1 q => ?_) kx
  obtain ⟨⟨d, m2⟩, hk, q⟩ := bindO_elim q
  obtain ⟨w2, e2, eH, a2, r2⟩ := keep_ok a1 r1 hk
  rw [← eH, ← e1, ← e2]
  have e21 := e2.trans e1
  refine sb w2 m2 _ _ _ a2.ok q (fun r' m3 w3 u e3 a3 r3 q => ?_) (kx.aft a2 e21)
  obtain ⟨⟨d', m4⟩, hk', q⟩ := bindO_elim q
  obtain ⟨w4, e4, eH4, a4, r4⟩ := keep_ok a3 r3 hk'
  dsimp only at q
  unfold zipK at q
  split at q
  · rename_i ds es hd he
    obtain ⟨p1, xs, rfl, h1, rx⟩ := tup_fix (r2.mono a4.st.gp a4.st.gg) hd
    obtain ⟨p2, ys, rfl, h2, ry⟩ := tup_fix r4 he
    refine ⟨p1, p2, xs, ys, rfl, .inr ⟨by rw [← eH4]; exact sqT_ext a4.ok.sub h1, by rw [← eH4]; exact sqT_ext a4.ok.sub h2, ?_⟩⟩
    rw [← eH4]
    have st1 : ∀ w' m', Aft X.K w4 m4 w' m' → SqT X.K w'.H p1 xs ∧ SqT X.K w'.H p2 ys := fun w' m' a' => ⟨sqT_ext (a'.st.gg.trans a'.ok.sub) h1, sqT_ext (a'.st.gg.trans a'.ok.sub) h2⟩
    refine k _ _ m4 w4 _ (e4.trans (e3.trans e21)) (a2.trans a4) ⟨fun w' m' a' l => ?_, fun i w' m' a' l hi => ?_, fun i w' m' d x H' a' l hd y => ?_⟩ q
    · obtain ⟨z1, z2⟩ := st1 w' m' a'
      refine ⟨xs, ys, z1, z2, ?_⟩
      rw [zipD, List.length_zipWith, rx.length, ry.length]
      omega
    · obtain ⟨z1, z2⟩ := st1 w' m' a'
      rw [zipD, List.length_zipWith] at hi
      obtain ⟨x, hx, _⟩ := rx.get (List.getElem?_eq_getElem (show i < ds.length by omega))
      obtain ⟨y, hy, _⟩ := ry.get (List.getElem?_eq_getElem (show i < es.length by omega))
      exact ⟨xs, ys, x, y, z1, z2, hx, hy⟩
    · obtain ⟨z1, z2⟩ := st1 w' m' a'
      obtain ⟨T, x, y', rfl, hT, rfl, y1, y2⟩ := y
      rw [zipD, List.getElem?_zipWith] at hd
      cases f1 : ds[i]? with
      | none => rw [f1] at hd; simp at hd
      | some d1 =>
        cases f2 : es[i]? with
        | none => rw [f1, f2] at hd; simp at hd
        | some d2 =>
          rw [f1, f2] at hd
          simp at hd
          subst hd
          obtain ⟨x', hx, rx'⟩ := rx.get f1
          obtain ⟨y'', hy, ry'⟩ := ry.get f2
          have z := y1 xs z1
          rw [hx] at z
          cases z
          have z := y2 ys z2
          rw [hy] at z
          cases z
          obtain ⟨s4, st4⟩ := a'.ok.lay (o := .tup [x, y']) hT
          exact ⟨w'.lay T (.tup [x, y']), rfl, rfl, ⟨s4, st4⟩, .tup upd_same (.cons ((rx'.mono a'.st.gp a'.st.gg).mono (Pre.refl _) st4.gg) (.cons ((ry'.mono a'.st.gp a'.st.gg).mono (Pre.refl _) st4.gg) .nil))⟩
  · obtain ⟨p1, ds, lk1, rfl, q, l1, stA⟩ := lst_stands a4.ok (r2.mono a4.st.gp a4.st.gg) q
    obtain ⟨p2, es, lk2, rfl, q, l2, stB⟩ := lst_stands a4.ok r4 q
    obtain ⟨xs0, g1, _⟩ := stA w4 m4 (.refl a4.ok) l1
    obtain ⟨ys0, g2, _⟩ := stB w4 m4 (.refl a4.ok) l2
    refine ⟨p1, p2, xs0, ys0, rfl, .inl ⟨by rw [← eH4]; exact g1, by rw [← eH4]; exact g2, ?_⟩⟩
    rw [← eH4]
    refine k _ _ m4 w4 _ (e4.trans (e3.trans e21)) (a2.trans a4) ⟨fun w' m' a' l => ?_, fun i w' m' a' l hi => ?_, fun i w' m' d x H' a' l hd y => ?_⟩ q
    · obtain ⟨xs, z1, rx⟩ := stA w' m' a' l.1
      obtain ⟨ys, z2, ry⟩ := stB w' m' a' l.2
      refine ⟨xs, ys, z1, z2, ?_⟩
      rw [zipD, List.length_zipWith, rx.length, ry.length]
      omega
    · obtain ⟨xs, z1, rx⟩ := stA w' m' a' l.1
      obtain ⟨ys, z2, ry⟩ := stB w' m' a' l.2
      rw [zipD, List.length_zipWith] at hi
      obtain ⟨x, hx, _⟩ := rx.get (List.getElem?_eq_getElem (show i < ds.length by omega))
      obtain ⟨y, hy, _⟩ := ry.get (List.getElem?_eq_getElem (show i < es.length by omega))
      exact ⟨xs, ys, x, y, z1, z2, hx, hy⟩
    · obtain ⟨xs, z1, rx⟩ := stA w' m' a' l.1
      obtain ⟨ys, z2, ry⟩ := stB w' m' a' l.2
      obtain ⟨T, x, y', rfl, hT, rfl, y1, y2⟩ := y
      rw [zipD, List.getElem?_zipWith] at hd
      cases f1 : ds[i]? with
      | none => rw [f1] at hd; simp at hd
      | some d1 =>
        cases f2 : es[i]? with
        | none => rw [f1, f2] at hd; simp at hd
        | some d2 =>
          rw [f1, f2] at hd
          simp at hd
          subst hd
          obtain ⟨x', hx, rx'⟩ := rx.get f1
          obtain ⟨y'', hy, ry'⟩ := ry.get f2
          have z := y1 xs z1
          rw [hx] at z
          cases z
          have z := y2 ys z2
          rw [hy] at z
          cases z
          obtain ⟨s4, st4⟩ := a'.ok.lay (o := .tup [x, y']) hT
          exact ⟨w'.lay T (.tup [x, y']), rfl, rfl, ⟨s4, st4⟩, .tup upd_same (.cons (rx'.mono (Pre.refl _) st4.gg) (.cons (ry'.mono (Pre.refl _) st4.gg) .nil))⟩
end
end VL

set_option maxHeartbeats 4000000
/-! The value layer: dicts whose keys are of any kind: whole numbers, texts, tuples of such. -/
namespace VL
open PySem PySem.Spec PyProof.Rows L2
/-- an entry: the key, its value, what is kept -/
abbrev NE := NestedKey × Value × Value
def nEnt (w : World) (x : NE) : DictEntry := ⟨x.1.hash w, x.2.1, x.2.2⟩
def NkAt (h : Heap) (k : NestedKey) (v : Value) : Prop := NestedIs h k v ∧ k.depth ≤ 8
def NEs (w : World) (h : Heap) (es : Array DictEntry) (xs : List NE) : Prop := es.toList = xs.map (nEnt w) ∧ (∀ x ∈ xs, NkAt h x.1 x.2.1) ∧ (xs.map (·.1)).Nodup
section
variable {prog : Program} {w : World} {A : Around} {E : Value → Shared → Prop} {s : Shared} {es : Array DictEntry} {xs : List NE} {k : NestedKey} {key : Value}
theorem NEs.at {h : Heap} (n : NEs w h es xs) (j : Nat) : es[j]? = (xs[j]?).map (nEnt w) := by
  rw [← Array.getElem?_toList, n.1, List.getElem?_map]
theorem NEs.size {h : Heap} (n : NEs w h es xs) : es.size = xs.length := by
  rw [← Array.length_toList, n.1, List.length_map]
theorem NEs.uniq {h : Heap} (n : NEs w h es xs) {i j : Nat} {x y : NE} (hi : xs[i]? = some x) (hj : xs[j]? = some y) (e : x.1 = y.1) : i = j := by
  have a : (xs.map (·.1))[i]? = some x.1 := by rw [List.getElem?_map, hi]; rfl
  have b : (xs.map (·.1))[j]? = some x.1 := by rw [List.getElem?_map, hj, e]; rfl
  exact (List.getElem?_inj (List.getElem?_eq_some_iff.mp a).1 n.2.2).mp (a.trans b.symm)
theorem NEs.mem {h : Heap} (n : NEs w h es xs) {e : DictEntry} (he : e ∈ es) : ∃ x ∈ xs, e = nEnt w x := by
  have : e ∈ xs.map (nEnt w) := n.1 ▸ Array.mem_toList_iff.mpr he
  obtain ⟨x, hx, e⟩ := List.mem_map.mp this
  exact ⟨x, hx, e.symm⟩
theorem nk_eq {a b : Value} {x y : NestedKey} {Q : Bool → Shared → Prop} (hu : A.units + 8 < cLine) (ha : NkAt s.heap x a) (hb : NkAt s.heap y b) (h : Q (decide (x = y)) s) : wpAny (model prog w) A (eqBool a b) Q E s :=
  eqAt_key _ _ _ _ _ _ ha.1 hb.1 (by have := ha.2; omega) _ _ _ _ (by rw [← NestedKey.decide_eq]; exact h)
theorem nk_quiet {a : Value} {x : NestedKey} {Q : Bool → Shared → Prop} (ha : NkAt s.heap x a) (h : Q true s) : wpAny (model prog w) A (eqIsQuiet 8 a) Q E s := quiet_key _ _ _ _ ha.1 ha.2 _ _ _ h
theorem nk_tell {stored : List Value} {Q : Bool → Shared → Prop} (hk : NkAt s.heap k key) (hs : ∀ v ∈ stored, ∃ y, NkAt s.heap y v) (h : Q false s) : wpAny (model prog w) A (tableMayTell key stored) Q E s := by
  unfold tableMayTell
  by_cases e : stored.isEmpty = true
  · rw [if_pos e]; exact wpAny_pure h
  rw [if_neg e]
  refine wpAny_bind (nk_quiet hk ?_)
  rw [if_neg (by decide)]
  refine wpAny_bind (wpAny_forIn_list _ (fun left b s' => s' = s ∧ b = (none, ()) ∧ ∀ v ∈ left, ∃ y, NkAt s.heap y v) _ ?_ ?_ _ _ ⟨rfl, rfl, hs⟩)
  · rintro x left b s' ⟨rfl, rfl, hl⟩
    obtain ⟨y, hy⟩ := hl x List.mem_cons_self
    refine wpAny_bind (nk_quiet hy ?_)
    rw [if_neg (by decide)]
    exact wpAny_pure ⟨rfl, rfl, fun v hv => hl v (List.mem_cons_of_mem _ hv)⟩
  · rintro b s' ⟨rfl, rfl, _⟩
    exact wpAny_pure h
/-- the places of the hash k hold all entries of the key k -/
theorem NEs.places {h : Heap} (n : NEs w h es xs) {j : Nat} {x : NE} (hj : xs[j]? = some x) : j ∈ placesWithHash es.size (fun i => es[i]?.map (·.hash)) (x.1.hash w) := by
  rw [placesWithHash, List.mem_filter, List.mem_range]
  refine ⟨by rw [n.size]; exact (List.getElem?_eq_some_iff.mp hj).1, ?_⟩
  rw [n.at, hj]
  simp [nEnt]
theorem places_nd (m : Nat) (f : Nat → Option Int) (g : Int) : (placesWithHash m f g).Nodup := List.Pairwise.filter _ List.nodup_range
theorem places_lt {m : Nat} {f : Nat → Option Int} {g : Int} {i : Nat} (h : i ∈ placesWithHash m f g) : i < m := by
  rw [placesWithHash, List.mem_filter, List.mem_range] at h
  exact h.1
theorem mx_plain {d : Addr} {o : Obj} {ep : Nat} {Q : Option Nat → Shared → Prop} (hu : A.units + 8 < cLine) (hk : NkAt s.heap k key) (ho : s.heap.get? d = some o) (hd : o.data = .dict es ep) (n : NEs w s.heap es xs)
    (h0 : (∀ x ∈ xs, x.1 ≠ k) → Q none s) (h1 : ∀ j x, xs[j]? = some x → x.1 = k → Q (some j) s) : wpAny (model prog w) A (dictWalkPlain d key (k.hash w) es (placesWithHash es.size (fun i => es[i]?.map (·.hash)) (k.hash w))) Q E s := by
  unfold dictWalkPlain
  refine wpAny_bind (wpAny_forIn_list _ (fun left b s' => s' = s ∧ b = (none, ()) ∧ (∀ i ∈ left, i < es.size) ∧ ∀ j x, xs[j]? = some x → x.1 = k → j ∈ left) _ ?_ ?_ _ _ ⟨rfl, rfl, fun i hi => places_lt hi, fun j x hj e => by rw [← e]; exact n.places hj⟩)
  · rintro i left b s' ⟨rfl, rfl, hl, ha⟩
    have hi := hl i List.mem_cons_self
    obtain ⟨x, hx⟩ : ∃ x, xs[i]? = some x := ⟨_, List.getElem?_eq_getElem (by rw [← n.size]; exact hi)⟩
    have hxk := n.2.1 x (List.mem_of_getElem? hx)
    have hs : ∀ m ∈ left, m < es.size := fun m hm => hl m (List.mem_cons_of_mem _ hm)
    have nx : x.1 ≠ k → ∀ j y, xs[j]? = some y → y.1 = k → j ∈ left := fun ne j y hj e => by
      rcases List.mem_cons.mp (ha j y hj e) with z | z
      · subst z
        rw [hx] at hj
        cases hj
        exact absurd e ne
      · exact z
    rw [n.at, hx]
    show wpAny _ _ (if ((nEnt w x).hash == k.hash w) = true then _ else _) _ _ _
    by_cases hh : ((nEnt w x).hash == k.hash w) = true
    · rw [if_pos hh]
      refine wpAny_bind (wpAny_dictEpoch ho hd (wpAny_bind (nk_eq hu hxk hk (wpAny_bind (wpAny_dictEpoch ho hd ?_)))))
      rw [if_neg (by simp)]
      by_cases e : x.1 = k
      · rw [decide_eq_true e, if_pos rfl]
        exact wpAny_bind (wpAny_rule (wpAny_pure (wpAny_pure (h1 i x hx e))))
      · rw [decide_eq_false e, if_neg (by decide)]
        exact wpAny_bind (wpAny_rule (wpAny_pure ⟨rfl, rfl, hs, nx e⟩))
    · rw [if_neg hh]
      refine wpAny_pure ⟨rfl, rfl, hs, nx fun e => hh ?_⟩
      rw [← e]
      simp [nEnt]
  · rintro b s' ⟨rfl, rfl, _, ha⟩
    refine wpAny_pure (h0 fun x hx e => ?_)
    obtain ⟨j, hj⟩ := List.mem_iff_getElem?.mp hx
    exact absurd (ha j x hj e) (List.not_mem_nil)
theorem wp_ite {M : Model} {α : Type} {c : Prop} [Decidable c] {a b : Sem α} {Q : α → Shared → Prop} (h1 : c → wpAny M A a Q E s) (h2 : ¬ c → wpAny M A b Q E s) : wpAny M A (if c then a else b) Q E s := by
  by_cases h : c
  · rw [if_pos h]; exact h1 h
  · rw [if_neg h]; exact h2 h
theorem isStr_of {h : Heap} {x : Str} {v : Value} : NestedIs h k v → v.isStr x = true → k = .text x := fun r e => by
  cases r with
  | text y t => simp [Value.isStr] at e; rw [e]
  | _ => simp [Value.isStr] at e
theorem mx_find {d : Addr} {o : Obj} {ep : Nat} {Q : Option Nat → Shared → Prop} (hu : A.units + 8 < cLine) (hk : NkAt s.heap k key) (ho : s.heap.get? d = some o) (hd : o.data = .dict es ep) (n : NEs w s.heap es xs)
    (h0 : (∀ x ∈ xs, x.1 ≠ k) → Q none s) (h1 : ∀ j x, xs[j]? = some x → x.1 = k → Q (some j) s) : wpAny (model prog w) A (dictFind d key (k.hash w)) Q E s := by
  have stored : ∀ v ∈ (placesWithHash es.size (fun i => es[i]?.map (·.hash)) (k.hash w)).filterMap (fun i => es[i]?.map (·.key)), ∃ y, NkAt s.heap y v := fun v hv => by
    obtain ⟨i, _, hi⟩ := List.mem_filterMap.mp hv
    cases z : es[i]? with
    | none => rw [z] at hi; cases hi
    | some e =>
      rw [z] at hi
      obtain ⟨x, hx, rfl⟩ := n.mem (Array.mem_of_getElem? z)
      have hi : some (nEnt w x).key = some v := hi
      cases hi
      exact ⟨x.1, n.2.1 x hx⟩
  have any : ¬ (es.any fun e => e.key == key && e.hash != k.hash w) = true := by
    rw [← Array.any_toList, List.any_eq_true]
    rintro ⟨e, he, hc⟩
    obtain ⟨x, hx, rfl⟩ := n.mem (Array.mem_toList_iff.mp he)
    simp only [nEnt, Bool.and_eq_true, beq_iff_eq, bne_iff_ne, ne_eq] at hc
    have z := (n.2.1 x hx).1
    rw [hc.1] at z
    exact hc.2 (by rw [NestedIs.inj _ _ _ z hk.1])
  unfold dictFind
  try with_reducible refine wpAny_holding ?_
  refine wpAny_bind (wpAny_dictEntries ho hd ?_)
  dsimp only
  cases key with
  | str x t =>
    refine wp_ite (fun hstr => ?_) (fun _ => wp_ite (fun _ => mx_plain hu hk ho hd n h0 h1) (fun _ => ?_))
    · unfold foundByValue
      have hx : k = .text x := by
        cases hk.1 with
        | text _ _ => rfl
      subst hx
      split
      · rename_i i hi
        obtain ⟨hlt, e1, _⟩ := Array.findIdx?_eq_some_iff_getElem.mp hi
        have hg : es[i]? = some es[i] := Array.getElem?_eq_getElem hlt
        obtain ⟨y, hy⟩ : ∃ y, xs[i]? = some y := ⟨_, List.getElem?_eq_getElem (by rw [← n.size]; exact hlt)⟩
        have hz := n.at i
        rw [hy, hg] at hz
        have hz : some es[i] = some (nEnt w y) := hz
        have hyk := n.2.1 y (List.mem_of_getElem? hy)
        rw [Option.some.inj hz] at e1
        have ey := isStr_of hyk.1 e1
        rw [hg, Option.some.inj hz]
        refine wpAny_bind (wpAny_dictEpoch ho hd (wpAny_bind (nk_eq hu hyk hk (wpAny_bind (wpAny_dictEpoch ho hd ?_)))))
        rw [if_neg (by simp), decide_eq_true ey]
        exact wpAny_bind (wpAny_rule (wpAny_pure (h1 i y hy ey)))
      · rename_i hi
        refine wpAny_pure (h0 fun y hy e => ?_)
        obtain ⟨j, hj⟩ := List.mem_iff_getElem?.mp hy
        have hz := n.at j
        rw [hj] at hz
        have hz : es[j]? = some (nEnt w y) := hz
        have h3 := n.2.1 y hy
        rw [e] at h3
        have z := Array.findIdx?_eq_none_iff.mp (Option.eq_none_iff_forall_ne_some.mpr fun i e => hi i e) _ (Array.mem_of_getElem? hz)
        cases y with
        | mk y1 y2 =>
          cases y2 with
          | mk y2 y3 =>
            cases h3.1 with
            | text _ t => simp [nEnt, Value.isStr] at z
    · refine wp_ite (fun _ => wpAny_bind (wpAny_pure ?_)) (fun _ => wpAny_bind (nk_tell hk stored ?_))
      · rw [if_neg (by simp)]
        refine wpAny_bind (wpAny_forIn_list _ (fun left b s' => s' = s ∧ ∃ hit, b = (none, hit) ∧ left.Nodup ∧ (∀ i ∈ left, i < es.size) ∧ ((hit = none ∧ ∀ j x, xs[j]? = some x → x.1 = k → j ∈ left) ∨ ∃ j x, hit = some j ∧ xs[j]? = some x ∧ x.1 = k ∧ j ∉ left)) _ ?_ ?_ _ _
          ⟨rfl, none, rfl, places_nd _ _ _, fun i hi => places_lt hi, .inl ⟨rfl, fun j x hj e => by rw [← e]; exact n.places hj⟩⟩)
        · rintro i left b s' ⟨rfl, hit, rfl, nd, hl, ha⟩
          have hi := hl i List.mem_cons_self
          obtain ⟨x, hx⟩ : ∃ x, xs[i]? = some x := ⟨_, List.getElem?_eq_getElem (by rw [← n.size]; exact hi)⟩
          have hxk := n.2.1 x (List.mem_of_getElem? hx)
          have hs : ∀ m ∈ left, m < es.size := fun m hm => hl m (List.mem_cons_of_mem _ hm)
          have nd2 := (List.nodup_cons.mp nd)
          have nx : x.1 ≠ k → ((hit = none ∧ ∀ j x, xs[j]? = some x → x.1 = k → j ∈ left) ∨ ∃ j x, hit = some j ∧ xs[j]? = some x ∧ x.1 = k ∧ j ∉ left) := fun ne => by
            rcases ha with ⟨z, ha⟩ | ⟨j, y, z1, z2, z3, z4⟩
            · refine .inl ⟨z, fun j y hj e => ?_⟩
              rcases List.mem_cons.mp (ha j y hj e) with z | z
              · subst z
                rw [hx] at hj
                cases hj
                exact absurd e ne
              · exact z
            · exact .inr ⟨j, y, z1, z2, z3, fun hm => z4 (List.mem_cons_of_mem _ hm)⟩
          rw [n.at, hx]
          show wpAny _ _ (if ((nEnt w x).hash == k.hash w) = true then _ else _) _ _ _
          by_cases hh : ((nEnt w x).hash == k.hash w) = true
          · rw [if_pos hh]
            refine wpAny_bind (wpAny_dictEpoch ho hd (wpAny_bind (nk_eq hu hxk hk (wpAny_bind (wpAny_dictEpoch ho hd ?_)))))
            rw [if_neg (by simp)]
            by_cases e : x.1 = k
            · rw [decide_eq_true e, if_pos rfl]
              rcases ha with ⟨z, ha⟩ | ⟨j, y, z1, z2, z3, z4⟩
              · subst z
                rw [if_neg (by simp)]
                refine wpAny_bind (wpAny_rule ?_)
                by_cases c : (List.filterMap (fun i => es[i]?.map (·.key)) (placesWithHash es.size (fun i => es[i]?.map (·.hash)) (k.hash w))).length < 2
                · rw [if_pos c]
                  exact wpAny_pure (wpAny_pure (h1 i x hx e))
                · rw [if_neg c]
                  exact wpAny_pure ⟨rfl, some i, rfl, nd2.2, hs, .inr ⟨i, x, rfl, hx, e, nd2.1⟩⟩
              · have : j = i := n.uniq z2 hx (z3.trans e.symm)
                subst this
                exact absurd List.mem_cons_self z4
            · rw [decide_eq_false e, if_neg (by decide)]
              refine wpAny_bind (wpAny_rule ?_)
              rw [if_neg (by simp)]
              exact wpAny_pure ⟨rfl, hit, rfl, nd2.2, hs, nx e⟩
          · rw [if_neg hh]
            refine wpAny_pure ⟨rfl, hit, rfl, nd2.2, hs, nx fun e => hh ?_⟩
            rw [← e]
            simp [nEnt]
        · rintro b s' ⟨rfl, hit, rfl, _, _, ha⟩
          rcases ha with ⟨rfl, ha⟩ | ⟨j, x, rfl, hj, e, _⟩
          · refine wpAny_pure (h0 fun x hx e => ?_)
            obtain ⟨j, hj⟩ := List.mem_iff_getElem?.mp hx
            exact absurd (ha j x hj e) (List.not_mem_nil)
          · exact wpAny_pure (h1 j x hj e)
      · rw [if_neg (by simp)]
        refine wpAny_bind (wpAny_forIn_list _ (fun left b s' => s' = s ∧ ∃ hit, b = (none, hit) ∧ left.Nodup ∧ (∀ i ∈ left, i < es.size) ∧ ((hit = none ∧ ∀ j x, xs[j]? = some x → x.1 = k → j ∈ left) ∨ ∃ j x, hit = some j ∧ xs[j]? = some x ∧ x.1 = k ∧ j ∉ left)) _ ?_ ?_ _ _
          ⟨rfl, none, rfl, places_nd _ _ _, fun i hi => places_lt hi, .inl ⟨rfl, fun j x hj e => by rw [← e]; exact n.places hj⟩⟩)
        · rintro i left b s' ⟨rfl, hit, rfl, nd, hl, ha⟩
          have hi := hl i List.mem_cons_self
          obtain ⟨x, hx⟩ : ∃ x, xs[i]? = some x := ⟨_, List.getElem?_eq_getElem (by rw [← n.size]; exact hi)⟩
          have hxk := n.2.1 x (List.mem_of_getElem? hx)
          have hs : ∀ m ∈ left, m < es.size := fun m hm => hl m (List.mem_cons_of_mem _ hm)
          have nd2 := (List.nodup_cons.mp nd)
          have nx : x.1 ≠ k → ((hit = none ∧ ∀ j x, xs[j]? = some x → x.1 = k → j ∈ left) ∨ ∃ j x, hit = some j ∧ xs[j]? = some x ∧ x.1 = k ∧ j ∉ left) := fun ne => by
            rcases ha with ⟨z, ha⟩ | ⟨j, y, z1, z2, z3, z4⟩
            · refine .inl ⟨z, fun j y hj e => ?_⟩
              rcases List.mem_cons.mp (ha j y hj e) with z | z
              · subst z
                rw [hx] at hj
                cases hj
                exact absurd e ne
              · exact z
            · exact .inr ⟨j, y, z1, z2, z3, fun hm => z4 (List.mem_cons_of_mem _ hm)⟩
          rw [n.at, hx]
          show wpAny _ _ (if ((nEnt w x).hash == k.hash w) = true then _ else _) _ _ _
          by_cases hh : ((nEnt w x).hash == k.hash w) = true
          · rw [if_pos hh]
            refine wpAny_bind (wpAny_dictEpoch ho hd (wpAny_bind (nk_eq hu hxk hk (wpAny_bind (wpAny_dictEpoch ho hd ?_)))))
            rw [if_neg (by simp)]
            by_cases e : x.1 = k
            · rw [decide_eq_true e, if_pos rfl]
              rcases ha with ⟨z, ha⟩ | ⟨j, y, z1, z2, z3, z4⟩
              · subst z
                rw [if_neg (by simp)]
                refine wpAny_bind (wpAny_rule ?_)
                by_cases c : (List.filterMap (fun i => es[i]?.map (·.key)) (placesWithHash es.size (fun i => es[i]?.map (·.hash)) (k.hash w))).length < 2
                · rw [if_pos c]
                  exact wpAny_pure (wpAny_pure (h1 i x hx e))
                · rw [if_neg c]
                  exact wpAny_pure ⟨rfl, some i, rfl, nd2.2, hs, .inr ⟨i, x, rfl, hx, e, nd2.1⟩⟩
              · have : j = i := n.uniq z2 hx (z3.trans e.symm)
                subst this
                exact absurd List.mem_cons_self z4
            · rw [decide_eq_false e, if_neg (by decide)]
              refine wpAny_bind (wpAny_rule ?_)
              rw [if_neg (by simp)]
              exact wpAny_pure ⟨rfl, hit, rfl, nd2.2, hs, nx e⟩
          · rw [if_neg hh]
            refine wpAny_pure ⟨rfl, hit, rfl, nd2.2, hs, nx fun e => hh ?_⟩
            rw [← e]
            simp [nEnt]
        · rintro b s' ⟨rfl, hit, rfl, _, _, ha⟩
          rcases ha with ⟨rfl, ha⟩ | ⟨j, x, rfl, hj, e, _⟩
          · refine wpAny_pure (h0 fun x hx e => ?_)
            obtain ⟨j, hj⟩ := List.mem_iff_getElem?.mp hx
            exact absurd (ha j x hj e) (List.not_mem_nil)
          · exact wpAny_pure (h1 j x hj e)
  | ref a =>
    refine wp_ite (fun _ => mx_plain hu hk ho hd n h0 h1) (fun _ => wp_ite (fun z => absurd z any) (fun _ => ?_))
    refine wp_ite (fun _ => wpAny_bind (wpAny_pure ?_)) (fun _ => wpAny_bind (nk_tell hk stored ?_))
    · rw [if_neg (by simp)]
      refine wpAny_bind (wpAny_forIn_list _ (fun left b s' => s' = s ∧ ∃ hit, b = (none, hit) ∧ left.Nodup ∧ (∀ i ∈ left, i < es.size) ∧ ((hit = none ∧ ∀ j x, xs[j]? = some x → x.1 = k → j ∈ left) ∨ ∃ j x, hit = some j ∧ xs[j]? = some x ∧ x.1 = k ∧ j ∉ left)) _ ?_ ?_ _ _
        ⟨rfl, none, rfl, places_nd _ _ _, fun i hi => places_lt hi, .inl ⟨rfl, fun j x hj e => by rw [← e]; exact n.places hj⟩⟩)
      · rintro i left b s' ⟨rfl, hit, rfl, nd, hl, ha⟩
        have hi := hl i List.mem_cons_self
        obtain ⟨x, hx⟩ : ∃ x, xs[i]? = some x := ⟨_, List.getElem?_eq_getElem (by rw [← n.size]; exact hi)⟩
        have hxk := n.2.1 x (List.mem_of_getElem? hx)
        have hs : ∀ m ∈ left, m < es.size := fun m hm => hl m (List.mem_cons_of_mem _ hm)
        have nd2 := (List.nodup_cons.mp nd)
        have nx : x.1 ≠ k → ((hit = none ∧ ∀ j x, xs[j]? = some x → x.1 = k → j ∈ left) ∨ ∃ j x, hit = some j ∧ xs[j]? = some x ∧ x.1 = k ∧ j ∉ left) := fun ne => by
          rcases ha with ⟨z, ha⟩ | ⟨j, y, z1, z2, z3, z4⟩
          · refine .inl ⟨z, fun j y hj e => ?_⟩
            rcases List.mem_cons.mp (ha j y hj e) with z | z
            · subst z
              rw [hx] at hj
              cases hj
              exact absurd e ne
            · exact z
          · exact .inr ⟨j, y, z1, z2, z3, fun hm => z4 (List.mem_cons_of_mem _ hm)⟩
        rw [n.at, hx]
        show wpAny _ _ (if ((nEnt w x).hash == k.hash w) = true then _ else _) _ _ _
        by_cases hh : ((nEnt w x).hash == k.hash w) = true
        · rw [if_pos hh]
          refine wpAny_bind (wpAny_dictEpoch ho hd (wpAny_bind (nk_eq hu hxk hk (wpAny_bind (wpAny_dictEpoch ho hd ?_)))))
          rw [if_neg (by simp)]
          by_cases e : x.1 = k
          · rw [decide_eq_true e, if_pos rfl]
            rcases ha with ⟨z, ha⟩ | ⟨j, y, z1, z2, z3, z4⟩
            · subst z
              rw [if_neg (by simp)]
              refine wpAny_bind (wpAny_rule ?_)
              by_cases c : (List.filterMap (fun i => es[i]?.map (·.key)) (placesWithHash es.size (fun i => es[i]?.map (·.hash)) (k.hash w))).length < 2
              · rw [if_pos c]
                exact wpAny_pure (wpAny_pure (h1 i x hx e))
              · rw [if_neg c]
                exact wpAny_pure ⟨rfl, some i, rfl, nd2.2, hs, .inr ⟨i, x, rfl, hx, e, nd2.1⟩⟩
            · have : j = i := n.uniq z2 hx (z3.trans e.symm)
              subst this
              exact absurd List.mem_cons_self z4
          · rw [decide_eq_false e, if_neg (by decide)]
            refine wpAny_bind (wpAny_rule ?_)
            rw [if_neg (by simp)]
            exact wpAny_pure ⟨rfl, hit, rfl, nd2.2, hs, nx e⟩
        · rw [if_neg hh]
          refine wpAny_pure ⟨rfl, hit, rfl, nd2.2, hs, nx fun e => hh ?_⟩
          rw [← e]
          simp [nEnt]
      · rintro b s' ⟨rfl, hit, rfl, _, _, ha⟩
        rcases ha with ⟨rfl, ha⟩ | ⟨j, x, rfl, hj, e, _⟩
        · refine wpAny_pure (h0 fun x hx e => ?_)
          obtain ⟨j, hj⟩ := List.mem_iff_getElem?.mp hx
          exact absurd (ha j x hj e) (List.not_mem_nil)
        · exact wpAny_pure (h1 j x hj e)
    · rw [if_neg (by simp)]
      refine wpAny_bind (wpAny_forIn_list _ (fun left b s' => s' = s ∧ ∃ hit, b = (none, hit) ∧ left.Nodup ∧ (∀ i ∈ left, i < es.size) ∧ ((hit = none ∧ ∀ j x, xs[j]? = some x → x.1 = k → j ∈ left) ∨ ∃ j x, hit = some j ∧ xs[j]? = some x ∧ x.1 = k ∧ j ∉ left)) _ ?_ ?_ _ _
        ⟨rfl, none, rfl, places_nd _ _ _, fun i hi => places_lt hi, .inl ⟨rfl, fun j x hj e => by rw [← e]; exact n.places hj⟩⟩)
      · rintro i left b s' ⟨rfl, hit, rfl, nd, hl, ha⟩
        have hi := hl i List.mem_cons_self
        obtain ⟨x, hx⟩ : ∃ x, xs[i]? = some x := ⟨_, List.getElem?_eq_getElem (by rw [← n.size]; exact hi)⟩
        have hxk := n.2.1 x (List.mem_of_getElem? hx)
        have hs : ∀ m ∈ left, m < es.size := fun m hm => hl m (List.mem_cons_of_mem _ hm)
        have nd2 := (List.nodup_cons.mp nd)
        have nx : x.1 ≠ k → ((hit = none ∧ ∀ j x, xs[j]? = some x → x.1 = k → j ∈ left) ∨ ∃ j x, hit = some j ∧ xs[j]? = some x ∧ x.1 = k ∧ j ∉ left) := fun ne => by
          rcases ha with ⟨z, ha⟩ | ⟨j, y, z1, z2, z3, z4⟩
          · refine .inl ⟨z, fun j y hj e => ?_⟩
            rcases List.mem_cons.mp (ha j y hj e) with z | z
            · subst z
              rw [hx] at hj
              cases hj
              exact absurd e ne
            · exact z
          · exact .inr ⟨j, y, z1, z2, z3, fun hm => z4 (List.mem_cons_of_mem _ hm)⟩
        rw [n.at, hx]
        show wpAny _ _ (if ((nEnt w x).hash == k.hash w) = true then _ else _) _ _ _
        by_cases hh : ((nEnt w x).hash == k.hash w) = true
        · rw [if_pos hh]
          refine wpAny_bind (wpAny_dictEpoch ho hd (wpAny_bind (nk_eq hu hxk hk (wpAny_bind (wpAny_dictEpoch ho hd ?_)))))
          rw [if_neg (by simp)]
          by_cases e : x.1 = k
          · rw [decide_eq_true e, if_pos rfl]
            rcases ha with ⟨z, ha⟩ | ⟨j, y, z1, z2, z3, z4⟩
            · subst z
              rw [if_neg (by simp)]
              refine wpAny_bind (wpAny_rule ?_)
              by_cases c : (List.filterMap (fun i => es[i]?.map (·.key)) (placesWithHash es.size (fun i => es[i]?.map (·.hash)) (k.hash w))).length < 2
              · rw [if_pos c]
                exact wpAny_pure (wpAny_pure (h1 i x hx e))
              · rw [if_neg c]
                exact wpAny_pure ⟨rfl, some i, rfl, nd2.2, hs, .inr ⟨i, x, rfl, hx, e, nd2.1⟩⟩
            · have : j = i := n.uniq z2 hx (z3.trans e.symm)
              subst this
              exact absurd List.mem_cons_self z4
          · rw [decide_eq_false e, if_neg (by decide)]
            refine wpAny_bind (wpAny_rule ?_)
            rw [if_neg (by simp)]
            exact wpAny_pure ⟨rfl, hit, rfl, nd2.2, hs, nx e⟩
        · rw [if_neg hh]
          refine wpAny_pure ⟨rfl, hit, rfl, nd2.2, hs, nx fun e => hh ?_⟩
          rw [← e]
          simp [nEnt]
      · rintro b s' ⟨rfl, hit, rfl, _, _, ha⟩
        rcases ha with ⟨rfl, ha⟩ | ⟨j, x, rfl, hj, e, _⟩
        · refine wpAny_pure (h0 fun x hx e => ?_)
          obtain ⟨j, hj⟩ := List.mem_iff_getElem?.mp hx
          exact absurd (ha j x hj e) (List.not_mem_nil)
        · exact wpAny_pure (h1 j x hj e)
  | _ =>
    refine wp_ite (fun _ => mx_plain hu hk ho hd n h0 h1) (fun _ => ?_)
    refine wp_ite (fun _ => wpAny_bind (wpAny_pure ?_)) (fun _ => wpAny_bind (nk_tell hk stored ?_))
    · rw [if_neg (by simp)]
      refine wpAny_bind (wpAny_forIn_list _ (fun left b s' => s' = s ∧ ∃ hit, b = (none, hit) ∧ left.Nodup ∧ (∀ i ∈ left, i < es.size) ∧ ((hit = none ∧ ∀ j x, xs[j]? = some x → x.1 = k → j ∈ left) ∨ ∃ j x, hit = some j ∧ xs[j]? = some x ∧ x.1 = k ∧ j ∉ left)) _ ?_ ?_ _ _
        ⟨rfl, none, rfl, places_nd _ _ _, fun i hi => places_lt hi, .inl ⟨rfl, fun j x hj e => by rw [← e]; exact n.places hj⟩⟩)
      · rintro i left b s' ⟨rfl, hit, rfl, nd, hl, ha⟩
        have hi := hl i List.mem_cons_self
        obtain ⟨x, hx⟩ : ∃ x, xs[i]? = some x := ⟨_, List.getElem?_eq_getElem (by rw [← n.size]; exact hi)⟩
        have hxk := n.2.1 x (List.mem_of_getElem? hx)
        have hs : ∀ m ∈ left, m < es.size := fun m hm => hl m (List.mem_cons_of_mem _ hm)
        have nd2 := (List.nodup_cons.mp nd)
        have nx : x.1 ≠ k → ((hit = none ∧ ∀ j x, xs[j]? = some x → x.1 = k → j ∈ left) ∨ ∃ j x, hit = some j ∧ xs[j]? = some x ∧ x.1 = k ∧ j ∉ left) := fun ne => by
          rcases ha with ⟨z, ha⟩ | ⟨j, y, z1, z2, z3, z4⟩
          · refine .inl ⟨z, fun j y hj e => ?_⟩
            rcases List.mem_cons.mp (ha j y hj e) with z | z
            · subst z
              rw [hx] at hj
              cases hj
              exact absurd e ne
            · exact z
          · exact .inr ⟨j, y, z1, z2, z3, fun hm => z4 (List.mem_cons_of_mem _ hm)⟩
        rw [n.at, hx]
        show wpAny _ _ (if ((nEnt w x).hash == k.hash w) = true then _ else _) _ _ _
        by_cases hh : ((nEnt w x).hash == k.hash w) = true
        · rw [if_pos hh]
          refine wpAny_bind (wpAny_dictEpoch ho hd (wpAny_bind (nk_eq hu hxk hk (wpAny_bind (wpAny_dictEpoch ho hd ?_)))))
          rw [if_neg (by simp)]
          by_cases e : x.1 = k
          · rw [decide_eq_true e, if_pos rfl]
            rcases ha with ⟨z, ha⟩ | ⟨j, y, z1, z2, z3, z4⟩
            · subst z
              rw [if_neg (by simp)]
              refine wpAny_bind (wpAny_rule ?_)
              by_cases c : (List.filterMap (fun i => es[i]?.map (·.key)) (placesWithHash es.size (fun i => es[i]?.map (·.hash)) (k.hash w))).length < 2
              · rw [if_pos c]
                exact wpAny_pure (wpAny_pure (h1 i x hx e))
              · rw [if_neg c]
                exact wpAny_pure ⟨rfl, some i, rfl, nd2.2, hs, .inr ⟨i, x, rfl, hx, e, nd2.1⟩⟩
            · have : j = i := n.uniq z2 hx (z3.trans e.symm)
              subst this
              exact absurd List.mem_cons_self z4
          · rw [decide_eq_false e, if_neg (by decide)]
            refine wpAny_bind (wpAny_rule ?_)
            rw [if_neg (by simp)]
            exact wpAny_pure ⟨rfl, hit, rfl, nd2.2, hs, nx e⟩
        · rw [if_neg hh]
          refine wpAny_pure ⟨rfl, hit, rfl, nd2.2, hs, nx fun e => hh ?_⟩
          rw [← e]
          simp [nEnt]
      · rintro b s' ⟨rfl, hit, rfl, _, _, ha⟩
        rcases ha with ⟨rfl, ha⟩ | ⟨j, x, rfl, hj, e, _⟩
        · refine wpAny_pure (h0 fun x hx e => ?_)
          obtain ⟨j, hj⟩ := List.mem_iff_getElem?.mp hx
          exact absurd (ha j x hj e) (List.not_mem_nil)
        · exact wpAny_pure (h1 j x hj e)
    · rw [if_neg (by simp)]
      refine wpAny_bind (wpAny_forIn_list _ (fun left b s' => s' = s ∧ ∃ hit, b = (none, hit) ∧ left.Nodup ∧ (∀ i ∈ left, i < es.size) ∧ ((hit = none ∧ ∀ j x, xs[j]? = some x → x.1 = k → j ∈ left) ∨ ∃ j x, hit = some j ∧ xs[j]? = some x ∧ x.1 = k ∧ j ∉ left)) _ ?_ ?_ _ _
        ⟨rfl, none, rfl, places_nd _ _ _, fun i hi => places_lt hi, .inl ⟨rfl, fun j x hj e => by rw [← e]; exact n.places hj⟩⟩)
      · rintro i left b s' ⟨rfl, hit, rfl, nd, hl, ha⟩
        have hi := hl i List.mem_cons_self
        obtain ⟨x, hx⟩ : ∃ x, xs[i]? = some x := ⟨_, List.getElem?_eq_getElem (by rw [← n.size]; exact hi)⟩
        have hxk := n.2.1 x (List.mem_of_getElem? hx)
        have hs : ∀ m ∈ left, m < es.size := fun m hm => hl m (List.mem_cons_of_mem _ hm)
        have nd2 := (List.nodup_cons.mp nd)
        have nx : x.1 ≠ k → ((hit = none ∧ ∀ j x, xs[j]? = some x → x.1 = k → j ∈ left) ∨ ∃ j x, hit = some j ∧ xs[j]? = some x ∧ x.1 = k ∧ j ∉ left) := fun ne => by
          rcases ha with ⟨z, ha⟩ | ⟨j, y, z1, z2, z3, z4⟩
          · refine .inl ⟨z, fun j y hj e => ?_⟩
            rcases List.mem_cons.mp (ha j y hj e) with z | z
            · subst z
              rw [hx] at hj
              cases hj
              exact absurd e ne
            · exact z
          · exact .inr ⟨j, y, z1, z2, z3, fun hm => z4 (List.mem_cons_of_mem _ hm)⟩
        rw [n.at, hx]
        show wpAny _ _ (if ((nEnt w x).hash == k.hash w) = true then _ else _) _ _ _
        by_cases hh : ((nEnt w x).hash == k.hash w) = true
        · rw [if_pos hh]
          refine wpAny_bind (wpAny_dictEpoch ho hd (wpAny_bind (nk_eq hu hxk hk (wpAny_bind (wpAny_dictEpoch ho hd ?_)))))
          rw [if_neg (by simp)]
          by_cases e : x.1 = k
          · rw [decide_eq_true e, if_pos rfl]
            rcases ha with ⟨z, ha⟩ | ⟨j, y, z1, z2, z3, z4⟩
            · subst z
              rw [if_neg (by simp)]
              refine wpAny_bind (wpAny_rule ?_)
              by_cases c : (List.filterMap (fun i => es[i]?.map (·.key)) (placesWithHash es.size (fun i => es[i]?.map (·.hash)) (k.hash w))).length < 2
              · rw [if_pos c]
                exact wpAny_pure (wpAny_pure (h1 i x hx e))
              · rw [if_neg c]
                exact wpAny_pure ⟨rfl, some i, rfl, nd2.2, hs, .inr ⟨i, x, rfl, hx, e, nd2.1⟩⟩
            · have : j = i := n.uniq z2 hx (z3.trans e.symm)
              subst this
              exact absurd List.mem_cons_self z4
          · rw [decide_eq_false e, if_neg (by decide)]
            refine wpAny_bind (wpAny_rule ?_)
            rw [if_neg (by simp)]
            exact wpAny_pure ⟨rfl, hit, rfl, nd2.2, hs, nx e⟩
        · rw [if_neg hh]
          refine wpAny_pure ⟨rfl, hit, rfl, nd2.2, hs, nx fun e => hh ?_⟩
          rw [← e]
          simp [nEnt]
      · rintro b s' ⟨rfl, hit, rfl, _, _, ha⟩
        rcases ha with ⟨rfl, ha⟩ | ⟨j, x, rfl, hj, e, _⟩
        · refine wpAny_pure (h0 fun x hx e => ?_)
          obtain ⟨j, hj⟩ := List.mem_iff_getElem?.mp hx
          exact absurd (ha j x hj e) (List.not_mem_nil)
        · exact wpAny_pure (h1 j x hj e)
def MixD (w : World) (h : Heap) (d : Addr) (xs : List NE) : Prop := ∃ (o : Obj) (es : Array DictEntry) (ep : Nat), h.get? d = some o ∧ o.ExactDict ∧ o.data = .dict es ep ∧ NEs w h es xs
def nAt (xs : List NE) (k : NestedKey) : Option Value := (xs.find? fun x => decide (x.1 = k)).map (·.2.2)
def nPut (xs : List NE) (k : NestedKey) (a v : Value) : List NE := if (nAt xs k).isSome then xs.map (fun x => if x.1 = k then (x.1, x.2.1, v) else x) else xs ++ [(k, a, v)]
theorem nAt_none (h : ∀ x ∈ xs, x.1 ≠ k) : nAt xs k = none := by
  have : (xs.find? fun x => decide (x.1 = k)) = none := List.find?_eq_none.mpr fun x hx => by simp [h x hx]
  unfold nAt
  rw [this]
  rfl
theorem nAt_some (hn : (xs.map (·.1)).Nodup) {j : Nat} {x : NE} (hj : xs[j]? = some x) : nAt xs x.1 = some x.2.2 := by
  induction xs generalizing j with
  | nil => simp at hj
  | cons y ys ih =>
    rw [List.map_cons, List.nodup_cons] at hn
    cases j with
    | zero =>
      simp at hj
      subst hj
      simp [nAt]
    | succ j =>
      simp at hj
      have m : x.1 ∈ ys.map (·.1) := List.mem_map.mpr ⟨x, List.mem_of_getElem? hj, rfl⟩
      have ne : ¬ y.1 = x.1 := fun e => hn.1 (e ▸ m)
      have := ih hn.2 hj
      simpa [nAt, List.find?_cons, ne] using this
theorem MixD.typeIs {d : Addr} (m : MixD w s.heap d xs) : s.TypeIs (.ref d) "dict" := let ⟨o, _, _, ho, hc, _⟩ := m; ⟨o, ho, hc.1⟩
theorem NkAt.keep {h h' : Heap} {v : Value} {d : Addr} {o : Obj} {ep : Nat} (x : NkAt h k v) (ho : h.get? d = some o) (hd : o.data = .dict es ep) (hs : Heap.SameBut d h h') : NkAt h' k v :=
  ⟨NestedIs.at (fun b ob vs n hb hc => (hs.2 b fun e => by
    subst e
    rw [ho] at hb
    cases hb
    rw [hd] at hc
    cases hc).trans hb) k _ x.1, x.2⟩
theorem mx_get {d : Addr} {Q : Option Value → Shared → Prop} (hu : A.units + 8 < cLine) (hk : NkAt s.heap k key) (m : MixD w s.heap d xs) (h : ∀ tk, Q (nAt xs k) { s with toks := tk }) : wpAny (model prog w) A (dictGet d key) Q E s := by
  obtain ⟨o, es, ep, ho, _, hd, n⟩ := m
  unfold dictGet
  try with_reducible refine wpAny_holding ?_
  refine wpAny_bind (pyHash_key _ _ _ _ _ hk.1 (by have := hk.2; omega) (wpAny_bind (mx_find (s := { s with toks := s.toks + k.draws }) hu hk ho hd n ?_ ?_)))
  · intro z
    rw [nAt_none z] at h
    exact wpAny_pure (h _)
  · intro j x hj e
    subst e
    rw [nAt_some n.2.2 hj] at h
    refine wpAny_bind (wpAny_dictEntries (s := { s with toks := s.toks + x.1.draws }) ho hd ?_)
    rw [n.at, hj]
    exact wpAny_pure (h _)
theorem modify_at {β : Type} (f : NE → β) (g : β → β) (v : Value) (hg : ∀ a v₀, g (f (k, a, v₀)) = f (k, a, v)) : ∀ {xs : List NE} {j : Nat} {x : NE}, (xs.map (·.1)).Nodup → xs[j]? = some x → x.1 = k →
    (xs.map f).modify j g = (xs.map fun x => if x.1 = k then (x.1, x.2.1, v) else x).map f := by
  intro xs
  induction xs with
  | nil => intro j x _ hj; simp at hj
  | cons y ys ih =>
    intro j x hn hj e
    rw [List.map_cons, List.nodup_cons] at hn
    cases j with
    | zero =>
      simp at hj
      subst hj
      have no : ys.map (fun x => if x.1 = k then (x.1, x.2.1, v) else x) = ys := by
        refine (List.map_congr_left fun z hz => ?_).trans (List.map_id ys)
        rw [if_neg]
        · rfl
        · intro q
          exact hn.1 (by rw [e, ← q]; exact List.mem_map.mpr ⟨z, hz, rfl⟩)
      obtain ⟨y1, y2, y3⟩ := y
      have e : y1 = k := e
      subst e
      rw [List.map_cons, List.map_cons, no, if_pos rfl, List.map_cons]
      show g (f (y1, y2, y3)) :: ys.map f = f (y1, y2, v) :: ys.map f
      rw [hg]
    | succ j =>
      simp at hj
      have m : k ∈ ys.map (·.1) := e ▸ List.mem_map.mpr ⟨x, List.mem_of_getElem? hj, rfl⟩
      have ne : ¬ y.1 = k := fun q => hn.1 (q ▸ m)
      rw [List.map_cons, List.map_cons, if_neg ne, List.map_cons]
      show f y :: (ys.map f).modify j g = _
      rw [ih hn.2 hj e]
theorem nkeys_put (v : Value) : (xs.map fun x => if x.1 = k then (x.1, x.2.1, v) else x).map (·.1) = xs.map (·.1) := by
  rw [List.map_map]
  refine List.map_congr_left fun x _ => ?_
  show (if x.1 = k then (x.1, x.2.1, v) else x).1 = x.1
  split <;> rfl
theorem mx_setH {d : Addr} {v : Value} {Q : Unit → Shared → Prop} (hu : A.units + 8 < cLine) (hk : NkAt s.heap k key) (m : MixD w s.heap d xs) (hz : xs.length ≤ sizeLine)
    (hQ : ∀ h', MixD w h' d (nPut xs k key v) → Heap.SameBut d s.heap h' → Q () { s with heap := h' }) : wpAny (model prog w) A (dictSetHashed d key (k.hash w) v) Q E s := by
  obtain ⟨o, es, ep, ho, hc, hd, n⟩ := m
  unfold dictSetHashed
  try with_reducible refine wpAny_holding ?_
  refine wpAny_bind (mx_find hu hk ho hd n (fun z => ?_) fun j x hj e => ?_)
  · have e0 : nPut xs k key v = xs ++ [(k, key, v)] := by unfold nPut; rw [nAt_none z]; rfl
    have sb := Heap.SameBut.update (h := s.heap) (a := d) (f := fun o => o.mapDictKeys (·.push ⟨k.hash w, key, v⟩))
    refine wpAny_bind (wpAny_rule (wpAny_updateDictKeys (hz := by have e := n.size; omega) ho hd (hQ _ ⟨_, _, ep + 1, Heap.get?_update_self _ ho (Obj.isFreed_of_dict (Obj.data_mapDictKeys hd _)), hc.mapDictKeys _, Obj.data_mapDictKeys hd _, ?_⟩ (Heap.SameBut.update ..))))
    rw [e0]
    refine ⟨by simp [n.1, nEnt], fun x hx => ?_, ?_⟩
    · rcases List.mem_append.mp hx with hx | hx
      · exact (n.2.1 x hx).keep ho hd (Heap.SameBut.update ..)
      · simp only [List.mem_singleton] at hx
        subst hx
        exact hk.keep ho hd (Heap.SameBut.update ..)
    · rw [List.map_append, List.nodup_append]
      refine ⟨n.2.2, by simp, fun x hx y hy => ?_⟩
      simp only [List.map_cons, List.map_nil, List.mem_singleton] at hy
      obtain ⟨u, hu, rfl⟩ := List.mem_map.mp hx
      rw [hy]
      exact z u hu
  · have e0 : nPut xs k key v = xs.map (fun x => if x.1 = k then (x.1, x.2.1, v) else x) := by unfold nPut; rw [← e, nAt_some n.2.2 hj]; rfl
    refine wpAny_bind (wpAny_rule (wpAny_bind (wpAny_updateDict ho hd (wpAny_point (hQ _ ⟨_, _, ep, Heap.get?_update_self _ ho (Obj.isFreed_of_dict (Obj.data_mapDict hd _)), hc.mapDict _, Obj.data_mapDict hd _, ?_⟩ (Heap.SameBut.update ..))))))
    rw [e0]
    refine ⟨?_, fun x hx => ?_, by rw [nkeys_put]; exact n.2.2⟩
    · have z := modify_at (nEnt w) (fun e : DictEntry => { e with val := v }) v (fun _ _ => rfl) n.2.2 hj e
      rw [← n.1] at z
      obtain ⟨l⟩ := es
      simpa using z
    · obtain ⟨y, hy, rfl⟩ := List.mem_map.mp hx
      split <;> exact (n.2.1 y hy).keep ho hd (Heap.SameBut.update ..)
theorem mx_set {d : Addr} {v : Value} {Q : Unit → Shared → Prop} (hu : A.units + 8 < cLine) (hk : NkAt s.heap k key) (m : MixD w s.heap d xs) (hz : xs.length ≤ sizeLine)
    (hQ : ∀ h' tk, MixD w h' d (nPut xs k key v) → Heap.SameBut d s.heap h' → Q () { s with heap := h', toks := tk }) : wpAny (model prog w) A (dictSet d key v) Q E s := by
  unfold dictSet
  try with_reducible refine wpAny_holding ?_
  refine wpAny_bind (pyHash_key _ _ _ _ _ hk.1 (by have := hk.2; omega) ?_)
  exact mx_setH (s := { s with toks := s.toks + k.draws }) hu hk m hz fun h' m' sb => hQ h' _ m' sb
end
end VL

set_option maxHeartbeats 4000000
namespace VL
open PySem PySem.Spec PyProof.Rows L2
section
variable {prog : Program} {w : World} {A : Around} {E : Value → Shared → Prop} {s : Shared} {xs : List NE} {k : NestedKey} {key : Value} {d : Addr}
theorem mx_getItem {v : Value} {Q : Value → Shared → Prop} (hu : A.units + 9 < cLine) (hk : NkAt s.heap k key) (m : MixD w s.heap d xs) (hv : nAt xs k = some v) (h : ∀ tk, Q v { s with toks := tk }) : wpAny (model prog w) A (getItem (.ref d) key) Q E s := by
  unfold getItem
  try with_reducible refine wpAny_holding ?_
  refine wpAny_bind (wpAny_sequenceKey m.typeIs (by decide) (wpAny_bind (wpAny_callSpecial?_slot (name := Str.ofString "__getitem__") m.typeIs slot_dict_getitem (wpAny_call_entry slot_dict_getitem m.typeIs entry_dict_getitem ?_ (args_dict_getitem _ _)))))
  show wpAny _ _ (dictGet d key >>= _) _ _ s; refine wpAny_bind (mx_get (by rw [Around.in1_units]; omega) hk m fun tk => ?_)
  rw [hv]
  exact wpAny_pure ⟨v, rfl, wpAny_pure (h tk)⟩
theorem mx_has {Q : Bool → Shared → Prop} (hu : A.units + 9 < cLine) (hk : NkAt s.heap k key) (hd : (d == sysModules) = false) (m : MixD w s.heap d xs) (h : ∀ tk, Q (nAt xs k).isSome { s with toks := tk }) : wpAny (model prog w) A (contains (.ref d) key) Q E s := by
  refine wpAny_contains_slot m.typeIs F.slot_dict_contains ?_
  refine call_meetsIn F.slot_dict_contains m.typeIs F.entry_dict_contains (F.args_dict_contains_2 _ _) (S := fun A' R s' => A' = A ∧ s' = s ∧ ∀ tk, R (.ok (.ret (.bool (nAt xs k).isSome))) { s with toks := tk }) (fun A' R s' hS => ?_) ⟨rfl, rfl, fun tk => wpAny_truthy_bool (h tk)⟩
  obtain ⟨rfl, rfl, hq⟩ := hS
  show wpAny _ _ (dictGet d key >>= _) _ _ _; refine wpAny_bind (mx_get (by rw [Around.in1_units]; omega) hk m fun tk => ?_)
  have hq := hq tk
  cases hf : nAt xs k with
  | some p =>
    rw [hf] at hq
    show wpAny _ _ (ret (.bool true)) _ _ _; exact wpAny_pure hq
  | none =>
    rw [hf] at hq
    show wpAny _ _ (Builtin.Dict.pendingKey? d key >>= _) _ _ _; exact wpAny_bind (wpAny_pendingKey_other hd (wpAny_pure hq))
theorem mx_in {Q : Value → Shared → Prop} (hu : A.units + 9 < cLine) (hk : NkAt s.heap k key) (hd : (d == sysModules) = false) (m : MixD w s.heap d xs) (h : ∀ tk, Q (.bool (nAt xs k).isSome) { s with toks := tk }) : wpAny (model prog w) A (compareOp .In key (.ref d)) Q E s :=
  (wpAny_bind (mx_has hu hk hd m fun tk => wpAny_pure (h tk)) : wpAny _ _ (do return .bool (← contains (.ref d) key)) Q E s)
theorem mx_notIn {Q : Value → Shared → Prop} (hu : A.units + 9 < cLine) (hk : NkAt s.heap k key) (hd : (d == sysModules) = false) (m : MixD w s.heap d xs) (h : ∀ tk, Q (.bool (!(nAt xs k).isSome)) { s with toks := tk }) : wpAny (model prog w) A (compareOp .NotIn key (.ref d)) Q E s :=
  (wpAny_bind (mx_has hu hk hd m fun tk => wpAny_pure (h tk)) : wpAny _ _ (do return .bool (!(← contains (.ref d) key))) Q E s)
theorem mx_get1 {Q : Value → Shared → Prop} (hu : A.units + 9 < cLine) (hk : NkAt s.heap k key) (hd : (d == sysModules) = false) (m : MixD w s.heap d xs) (h : ∀ tk, Q ((nAt xs k).getD .none) { s with toks := tk }) : wpAny (model prog w) A (call (.builtin "dict.get") [.ref d, key]) Q E s := by
  refine call_meetsIn F.slot_dict_get m.typeIs F.entry_dict_get (F.args_dict_get_2 _ _) (S := fun A' R s' => A' = A ∧ s' = s ∧ ∀ tk, R (.ok (.ret ((nAt xs k).getD .none))) { s with toks := tk }) (.of_wp fun A' R s' hS => ?_) ⟨rfl, rfl, h⟩
  obtain ⟨rfl, rfl, hq⟩ := hS
  show wpAny _ _ (dictGet d key >>= _) _ _ _; refine wpAny_bind (mx_get (by rw [Around.in1_units]; omega) hk m fun tk => ?_)
  have hq := hq tk
  cases hf : nAt xs k with
  | some p =>
    rw [hf] at hq
    exact wpAny_pure ⟨p, rfl, hq⟩
  | none =>
    rw [hf] at hq
    show wpAny _ _ (Builtin.Dict.missed d key >>= _) _ _ _; exact wpAny_bind (wpAny_missed_other hd (wpAny_pure ⟨.none, rfl, hq⟩))
theorem mx_get2 {x : Value} {Q : Value → Shared → Prop} (hu : A.units + 9 < cLine) (hk : NkAt s.heap k key) (hd : (d == sysModules) = false) (m : MixD w s.heap d xs) (h : ∀ tk, Q ((nAt xs k).getD x) { s with toks := tk }) : wpAny (model prog w) A (call (.builtin "dict.get") [.ref d, key, x]) Q E s := by
  refine call_meetsIn F.slot_dict_get m.typeIs F.entry_dict_get (F.args_dict_get_3 _ _ _) (S := fun A' R s' => A' = A ∧ s' = s ∧ ∀ tk, R (.ok (.ret ((nAt xs k).getD x))) { s with toks := tk }) (.of_wp fun A' R s' hS => ?_) ⟨rfl, rfl, h⟩
  obtain ⟨rfl, rfl, hq⟩ := hS
  show wpAny _ _ (dictGet d key >>= _) _ _ _; refine wpAny_bind (mx_get (by rw [Around.in1_units]; omega) hk m fun tk => ?_)
  have hq := hq tk
  cases hf : nAt xs k with
  | some p =>
    rw [hf] at hq
    exact wpAny_pure ⟨p, rfl, hq⟩
  | none =>
    rw [hf] at hq
    show wpAny _ _ (Builtin.Dict.missed d key >>= _) _ _ _; exact wpAny_bind (wpAny_missed_other hd (wpAny_pure ⟨x, rfl, hq⟩))
theorem mx_setItem {v : Value} {Q : Unit → Shared → Prop} (hu : A.units + 9 < cLine) (hk : NkAt s.heap k key) (m : MixD w s.heap d xs) (hz : xs.length ≤ sizeLine) (hQ : ∀ h' tk, MixD w h' d (nPut xs k key v) → Heap.SameBut d s.heap h' → Q () { s with heap := h', toks := tk }) :
    wpAny (model prog w) A (setItem (.ref d) key v) Q E s := by
  unfold setItem
  try with_reducible refine wpAny_holding ?_
  refine wpAny_bind (wpAny_sequenceKey m.typeIs (by decide) (wpAny_bind (wpAny_callSpecial?_slot (name := Str.ofString "__setitem__") m.typeIs slot_dict_setitem (wpAny_call_entry slot_dict_setitem m.typeIs entry_dict_setitem ?_ (args_dict_setitem _ _ _)))))
  show wpAny _ _ (Builtin.Dict.notOrdered "__setitem__" ⟨[.ref d, key, v], []⟩ >>= _) _ _ s; refine wpAny_bind (wpAny_notOrdered_dict m.typeIs ?_)
  show wpAny _ _ (dictSet d key v >>= _) _ _ s; exact wpAny_bind (mx_set (by rw [Around.in1_units]; omega) hk m hz fun h' tk m' sb => wpAny_pure ⟨.none, rfl, wpAny_pure (hQ h' tk m' sb)⟩)
theorem mx_setDefault {x : Value} {Q : Value → Shared → Prop} (hu : A.units + 8 < cLine) (hk : NkAt s.heap k key) (m : MixD w s.heap d xs) (hz : xs.length ≤ sizeLine)
    (h1 : ∀ v tk, nAt xs k = some v → Q v { s with toks := tk }) (h2 : nAt xs k = none → ∀ h' tk, MixD w h' d (nPut xs k key x) → Heap.SameBut d s.heap h' → Q x { s with heap := h', toks := tk }) : wpAny (model prog w) A (dictSetDefault d key x) Q E s := by
  obtain ⟨o, es, ep, ho, hc, hd, n⟩ := m
  unfold dictSetDefault
  try with_reducible refine wpAny_holding ?_
  refine wpAny_bind (pyHash_key _ _ _ _ _ hk.1 (by have := hk.2; omega) (wpAny_bind (mx_find (s := { s with toks := s.toks + k.draws }) hu hk ho hd n (fun z => ?_) fun j y hj e => ?_)))
  · have e0 : nPut xs k key x = xs ++ [(k, key, x)] := by unfold nPut; rw [nAt_none z]; rfl
    refine wpAny_bind (wpAny_rule (wpAny_bind (wpAny_updateDictKeys (s := { s with toks := s.toks + k.draws }) (hz := by have e := n.size; omega) ho hd (wpAny_pure (h2 (nAt_none z) _ _ ⟨_, _, ep + 1, Heap.get?_update_self _ ho (Obj.isFreed_of_dict (Obj.data_mapDictKeys hd _)), hc.mapDictKeys _, Obj.data_mapDictKeys hd _, ?_⟩ (Heap.SameBut.update ..))))))
    rw [e0]
    refine ⟨by simp [n.1, nEnt], fun x hx => ?_, ?_⟩
    · rcases List.mem_append.mp hx with hx | hx
      · exact (n.2.1 x hx).keep ho hd (Heap.SameBut.update ..)
      · simp only [List.mem_singleton] at hx
        subst hx
        exact hk.keep ho hd (Heap.SameBut.update ..)
    · rw [List.map_append, List.nodup_append]
      refine ⟨n.2.2, by simp, fun x hx y hy => ?_⟩
      simp only [List.map_cons, List.map_nil, List.mem_singleton] at hy
      obtain ⟨u, hu, rfl⟩ := List.mem_map.mp hx
      rw [hy]
      exact z u hu
  · refine wpAny_bind (wpAny_dictEntries (s := { s with toks := s.toks + k.draws }) ho hd ?_)
    rw [n.at, hj]
    exact wpAny_bind (wpAny_rule (wpAny_pure (h1 _ _ (by rw [← e]; exact nAt_some n.2.2 hj))))
theorem mx_setdefault {x : Value} {Q : Value → Shared → Prop} (hu : A.units + 9 < cLine) (hk : NkAt s.heap k key) (hd : (d == sysModules) = false) (m : MixD w s.heap d xs) (hz : xs.length ≤ sizeLine)
    (h1 : ∀ v tk, nAt xs k = some v → Q v { s with toks := tk }) (h2 : nAt xs k = none → ∀ h' tk, MixD w h' d (nPut xs k key x) → Heap.SameBut d s.heap h' → Q x { s with heap := h', toks := tk }) : wpAny (model prog w) A (call (.builtin "dict.setdefault") [.ref d, key, x]) Q E s := by
  refine call_meetsIn F.slot_dict_setdefault m.typeIs F.entry_dict_setdefault (F.args_dict_setdefault_3 _ _ _) (S := fun A' R s' => A' = A ∧ s' = s ∧ (∀ v tk, nAt xs k = some v → R (.ok (.ret v)) { s with toks := tk }) ∧ (nAt xs k = none → ∀ h' tk, MixD w h' d (nPut xs k key x) → Heap.SameBut d s.heap h' → R (.ok (.ret x)) { s with heap := h', toks := tk })) (.of_wp fun A' R s' hS => ?_) ⟨rfl, rfl, h1, h2⟩
  obtain ⟨rfl, rfl, q1, q2⟩ := hS
  unfold Builtin.«dict.setdefault»
  refine wpAny_bind ?_
  unfold Builtin.Dict.keyAndDefault
  refine wpAny_bind (wpAny_notOrdered_dict m.typeIs ?_)
  show wpAny _ _ (pure (d, key, some x)) _ _ _; refine wpAny_pure ?_
  show wpAny _ _ (if (d == sysModules) = true then _ else (dictSetDefault d key x >>= _)) _ _ _; refine ?_
  rw [if_neg (by rw [hd]; exact Bool.false_ne_true)]
  refine wpAny_bind (mx_setDefault (by rw [Around.in1_units]; omega) hk m hz (fun v tk hv => ?_) fun hn h' tk m' sb => ?_)
  · exact wpAny_pure ⟨v, rfl, q1 v tk hv⟩
  · exact wpAny_pure ⟨x, rfl, q2 hn h' tk m' sb⟩
theorem MixD.new (h : Heap) : MixD w (h.push { cls := .type "dict", data := .dict #[] }) h.objs.size [] := ⟨_, #[], 0, Heap.get?_push_size _ rfl, ⟨rfl, rfl, rfl⟩, rfl, rfl, fun _ hx => by simp at hx, List.nodup_nil⟩
end
end VL

set_option maxHeartbeats 4000000
/-! The value layer: such dicts in the abstract heap. -/
namespace VL
open PySem PySem.Spec PyProof.Rows L2
mutual
def gkN : GK → NestedKey
  | .i n => .num n
  | .s x => .text x
  | .t ks => .tup (gkNL ks)
def gkNL : List GK → List NestedKey
  | [] => []
  | k :: ks => gkN k :: gkNL ks
end
mutual
theorem gkN_inj : ∀ a b : GK, gkN a = gkN b → a = b
  | .i _, .i _, e => by simp only [gkN] at e; injection e with e; rw [e]
  | .s _, .s _, e => by simp only [gkN] at e; injection e with e; rw [e]
  | .t ks, .t ls, e => by simp only [gkN] at e; injection e with e; rw [gkNL_inj ks ls e]
  | .i _, .s _, e => by simp [gkN] at e
  | .i _, .t _, e => by simp [gkN] at e
  | .s _, .i _, e => by simp [gkN] at e
  | .s _, .t _, e => by simp [gkN] at e
  | .t _, .i _, e => by simp [gkN] at e
  | .t _, .s _, e => by simp [gkN] at e
theorem gkNL_inj : ∀ a b : List GK, gkNL a = gkNL b → a = b
  | [], [], _ => rfl
  | k :: ks, l :: ls, e => by
    simp only [gkNL] at e
    injection e with e1 e2
    rw [gkN_inj k l e1, gkNL_inj ks ls e2]
  | [], _ :: _, e => by simp [gkNL] at e
  | _ :: _, [], e => by simp [gkNL] at e
end
mutual
theorem gkN_dep : ∀ k : GK, (gkN k).depth = gkDep k
  | .i _ => rfl
  | .s _ => rfl
  | .t ks => by simp only [gkN, NestedKey.depth, gkDep, gkNL_dep ks]
theorem gkNL_dep : ∀ ks : List GK, NestedKey.depthAll (gkNL ks) = gkDepL ks
  | [] => rfl
  | k :: ks => by simp only [gkNL, NestedKey.depthAll, gkDepL, gkN_dep k, gkNL_dep ks]
end
mutual
theorem gkN_hash (w : World) : ∀ k : GK, (gkN k).hash w = gkH w k
  | .i _ => rfl
  | .s _ => rfl
  | .t ks => by simp only [gkN, NestedKey.hash, gkH, gkNL_hash w ks]
theorem gkNL_hash (w : World) : ∀ ks : List GK, NestedKey.hashes w (gkNL ks) = gkHL w ks
  | [] => rfl
  | k :: ks => by simp only [gkNL, NestedKey.hashes, gkHL, gkN_hash w k, gkNL_hash w ks]
end
mutual
/-- the value v is the key k -/
def KyA (H : Hp) : GK → V → Prop
  | .i n, v => v = .int n
  | .s x, v => v = .str x
  | .t ks, v => ∃ a xs, v = .ref a ∧ H a = some (.tup xs) ∧ KyAL H ks xs
def KyAL (H : Hp) : List GK → List V → Prop
  | [], xs => xs = []
  | k :: ks, xs => ∃ y ys, xs = y :: ys ∧ KyA H k y ∧ KyAL H ks ys
end
mutual
theorem KyA.ext {G H : Hp} (e : Ext G H) : ∀ (k : GK) {v : V}, KyA G k v → KyA H k v
  | .i _, _, h => h
  | .s _, _, h => h
  | .t ks, _, h => by
    simp only [KyA] at h ⊢
    obtain ⟨a, xs, rfl, h1, h2⟩ := h
    exact ⟨a, xs, rfl, e _ _ h1, KyAL.ext e ks h2⟩
theorem KyAL.ext {G H : Hp} (e : Ext G H) : ∀ (ks : List GK) {xs : List V}, KyAL G ks xs → KyAL H ks xs
  | [], _, h => h
  | k :: ks, _, h => by
    simp only [KyAL] at h ⊢
    obtain ⟨y, ys, rfl, h1, h2⟩ := h
    exact ⟨y, ys, rfl, KyA.ext e k h1, KyAL.ext e ks h2⟩
end
section
variable [Tabs] {K : PySem.W.Frag} {γ : List Addr} {G : Hp}
mutual
theorem Rep.key : ∀ (k : GK) {v : V}, Rep K γ G v (gkD k) → KyA G k v
  | .i _, _, .int _ => rfl
  | .s _, _, .str _ => rfl
  | .t ks, _, h => by
    simp only [gkD] at h
    simp only [KyA]
    cases h with
    | tup h1 r => exact ⟨_, _, rfl, h1, RepL.keys ks r⟩
theorem RepL.keys : ∀ (ks : List GK) {xs : List V}, RepL K γ G xs (gkDL ks) → KyAL G ks xs
  | [], _, .nil => rfl
  | k :: ks, _, .cons h r => ⟨_, _, rfl, Rep.key k h, RepL.keys ks r⟩
end
theorem Vw.key {w : Wd} {k : GK} {v : V} (e : Ext w.G w.H) (h : Vw K w v (gkD k)) : KyA w.H k v := by
  cases k with
  | i n => exact h
  | s x => exact h
  | t ks =>
    obtain ⟨a, xs, rfl, h1, r⟩ := h
    exact KyA.ext e (.t ks) (show KyA w.G (.t ks) (.ref a) by simp only [KyA]; exact ⟨a, xs, rfl, h1, RepL.keys ks r⟩)
end
section
variable {X : Cx} {pins : List (Addr × Obj)} {σ : L2.St} {H : Hp} {s : Shared}
mutual
theorem ky_nested (I : Inv X pins σ H s) : ∀ (k : GK) {v : V} {u : Value}, KyA H k v → RelV v u → NestedIs s.heap (gkN k) u
  | .i n, v, u, h, r => by
    cases (show v = .int n from h)
    obtain ⟨t, rfl⟩ := (show ∃ t, u = Value.int n t from r)
    exact .int _ _
  | .s x, v, u, h, r => by
    cases (show v = .str x from h)
    obtain ⟨t, rfl⟩ := (show ∃ t, u = Value.str x t from r)
    exact .text _ _
  | .t ks, v, u, h, r => by
    simp only [KyA] at h
    obtain ⟨a, xs, rfl, h1, h2⟩ := h
    cases (show u = Value.ref a from r)
    obtain ⟨_, its, rv, o, g1, g2, n, g3⟩ := (show ObjOk X.prog X.w H s.heap a (.tup xs) from I.hok a _ h1)
    exact .tup g1 g2 g3 (by simpa using ky_nesteds I ks h2 rv)
theorem ky_nesteds (I : Inv X pins σ H s) : ∀ (ks : List GK) {xs : List V} {us : List Value}, KyAL H ks xs → Vals xs us → NestedAll s.heap (gkNL ks) us
  | [], xs, us, h, r => by
    cases (show xs = [] from h)
    cases r
    exact .nil
  | k :: ks, xs, us, h, r => by
    simp only [KyAL] at h
    obtain ⟨y, ys, rfl, h1, h2⟩ := h
    cases r with
    | cons r1 r2 => exact .cons (ky_nested I k h1 r1) (ky_nesteds I ks h2 r2)
end
/-- two keys of one value are one -/
def gval (kvs : List (GK × V × V)) (k : GK) : Option V := (kvs.find? fun p => decide (p.1 = k)).map (·.2.2)
def gput (kvs : List (GK × V × V)) (k : GK) (u v : V) : List (GK × V × V) := if (gval kvs k).isSome then kvs.map (fun p => if p.1 = k then (p.1, p.2.1, v) else p) else kvs ++ [(k, u, v)]
abbrev MxR : List (GK × V × V) → List NE → Prop := Paired fun p x => x.1 = gkN p.1 ∧ RelV p.2.1 x.2.1 ∧ RelV p.2.2 x.2.2
theorem MxR.val {kvs : List (GK × V × V)} {xs : List NE} (r : MxR kvs xs) (k : GK) : RelO (gval kvs k) (nAt xs (gkN k)) := by
  induction r with
  | nil => exact True.intro
  | @cons p x ps xs h t ih =>
    obtain ⟨h1, h2, h3⟩ := h
    by_cases e : p.1 = k
    · have e' : x.1 = gkN k := by rw [h1, e]
      have a : gval (p :: ps) k = some p.2.2 := by simp [gval, List.find?_cons, e]
      have b : nAt (x :: xs) (gkN k) = some x.2.2 := by simp [nAt, List.find?_cons, e']
      rw [a, b]
      exact h3
    · have e' : ¬ x.1 = gkN k := fun z => e (gkN_inj _ _ (h1.symm.trans z))
      have a : gval (p :: ps) k = gval ps k := by simp [gval, List.find?_cons, e]
      have b : nAt (x :: xs) (gkN k) = nAt xs (gkN k) := by simp [nAt, List.find?_cons, e']
      rw [a, b]
      exact ih
theorem MxR.put {kvs : List (GK × V × V)} {xs : List NE} (r : MxR kvs xs) (k : GK) {u v : V} {a b : Value} (ra : RelV u a) (rb : RelV v b) : MxR (gput kvs k u v) (nPut xs (gkN k) a b) := by
  unfold gput nPut
  rw [← (r.val k).isSome_eq]
  by_cases e : (gval kvs k).isSome = true
  · rw [if_pos e, if_pos e]
    clear e
    induction r with
    | nil => exact .nil
    | @cons p x ps xs h t ih =>
      obtain ⟨h1, h2, h3⟩ := h
      rw [List.map_cons, List.map_cons]
      refine .cons ?_ ih
      by_cases e : p.1 = k
      · rw [if_pos e, if_pos (by rw [h1, e])]; exact ⟨h1, h2, rb⟩
      · rw [if_neg e, if_neg (fun z => e (gkN_inj _ _ (h1.symm.trans z)))]; exact ⟨h1, h2, h3⟩
  · rw [if_neg e, if_neg e]
    exact Paired.snoc r ⟨rfl, ra, rb⟩
theorem MxR.len {kvs : List (GK × V × V)} {xs : List NE} (r : MxR kvs xs) : kvs.length = xs.length := Paired.length r
theorem gput_len (kvs : List (GK × V × V)) (k : GK) (u v : V) : (gput kvs k u v).length ≤ kvs.length + 1 := by
  unfold gput
  split
  · rw [List.length_map]; omega
  · rw [List.length_append, List.length_cons, List.length_nil]; omega
theorem gput_keys (kvs : List (GK × V × V)) (k : GK) (u v : V) : (gput kvs k u v).map (·.1) = if (gval kvs k).isSome then kvs.map (·.1) else kvs.map (·.1) ++ [k] := by
  unfold gput
  split
  · rw [List.map_map]
    refine List.map_congr_left fun x _ => ?_
    show (if x.1 = k then (x.1, x.2.1, v) else x).1 = x.1
    split <;> rfl
  · simp
theorem gval_none {kvs : List (GK × V × V)} {k : GK} (h : gval kvs k = none) : k ∉ kvs.map (·.1) := fun m => by
  obtain ⟨p, hp, e⟩ := List.mem_map.mp m
  have : (kvs.find? fun p => decide (p.1 = k)) = none := by
    unfold gval at h
    exact Option.map_eq_none_iff.mp h
  have := List.find?_eq_none.mp this p hp
  simp [e] at this
theorem gput_ok {kvs : List (GK × V × V)} {k : GK} {u v : V} (h : GKs (kvs.map (·.1))) (hk : gkDep k ≤ 8) : GKs ((gput kvs k u v).map (·.1)) := by
  rw [gput_keys]
  split
  · exact h
  · rename_i e
    have n := gval_none (by simpa using e)
    refine ⟨?_, fun x hx => ?_⟩
    · rw [List.nodup_append]
      refine ⟨h.1, by simp, fun x hx y hy z => ?_⟩
      simp only [List.mem_singleton] at hy
      subst hy z
      exact n hx
    · rcases List.mem_append.mp hx with hx | hx
      · exact h.2 x hx
      · simp only [List.mem_singleton] at hx
        rw [hx]; exact hk
end
section
variable [Tabs]
theorem gkN_nd {l : List GK} (h : l.Nodup) : (l.map gkN).Nodup := by
  induction l with
  | nil => exact List.nodup_nil
  | cons a l ih =>
    rw [List.nodup_cons] at h
    rw [List.map_cons, List.nodup_cons]
    refine ⟨fun m => ?_, ih h.2⟩
    obtain ⟨b, hb, e⟩ := List.mem_map.mp m
    rw [gkN_inj _ _ e] at hb
    exact h.1 hb
/-- such a dict at an address -/
def MxH (H : Hp) (a : Addr) (kvs : List (GK × V × V)) : Prop := (∃ b, H a = some (DMo b kvs)) ∧ GKs (kvs.map (·.1)) ∧ ∀ p ∈ kvs, KyA H p.1 p.2.1
variable {X : Cx} {pins : List (Addr × Obj)} {σ : L2.St} {H : Hp} {s : Shared} {a : Addr} {kvs : List (GK × V × V)} {k : GK} {y v : V} {u r : Value} {A : Around} {E : Value → Shared → Prop}
theorem dmo_at (I : Inv X pins σ H s) {b : Addr} (h : H a = some (DMo b kvs)) : b = a := by
  obtain ⟨⟨h0, h1, o, es, ep, h2, h3, h4, _⟩, ⟨o', h5⟩, st⟩ := (show ObjOk X.prog X.w H s.heap a (DMo b kvs) from I.hok a _ h)
  by_cases e : b = a
  · exact e
  exfalso
  have fr : o.isFreed = false := Obj.isFreed_of_dict h4
  have up := Heap.get?_update_self (h := s.heap) (f := fun o => { o with data := .fields #[] }) h2 rfl
  obtain ⟨_, _, o2, es2, ep2, g2, g3, g4, _⟩ := st s.heap (s.heap.update b fun o => { o with data := .fields #[] }) ⟨h0, h1, o, es, ep, h2, h3, h4, by assumption⟩ fun q hq => ((Heap.SameBut.update (h := s.heap) (a := b) (f := fun o => { o with data := .fields #[] })).2 a (fun z => e z.symm)).trans hq
  rw [up] at g2
  cases g2
  cases g4
theorem MxR.keys {kvs : List (GK × V × V)} {xs : List NE} (r : MxR kvs xs) : xs.map (·.1) = (kvs.map (·.1)).map gkN := by
  induction r with
  | nil => rfl
  | cons q _ ih => rw [List.map_cons, List.map_cons, List.map_cons, ih, q.1]
theorem mx_ents (hw : Tabs.W = X.w) (I : Inv X pins σ H s) {kvs : List (GK × V × V)} {l : List DictEntry} (h5 : Paired (fun (p : GK × V × V) (e : DictEntry) => e.hash = gkH Tabs.W p.1 ∧ RelV p.2.1 e.key ∧ RelV p.2.2 e.val) kvs l) :
    (∀ p ∈ kvs, KyA H p.1 p.2.1) → (∀ k ∈ kvs.map (·.1), gkDep k ≤ 8) → ∃ xs : List NE, l = xs.map (nEnt X.w) ∧ MxR kvs xs ∧ ∀ x ∈ xs, NkAt s.heap x.1 x.2.1 := by
  induction h5 with
  | nil => exact fun _ _ => ⟨[], rfl, .nil, fun _ h => by cases h⟩
  | @cons p e ps l q t ih =>
    intro ky gk2
    obtain ⟨xs, z1, z2, z3⟩ := ih (fun p hp => ky p (List.mem_cons_of_mem _ hp)) fun k hk => gk2 k (by rw [List.map_cons]; exact List.mem_cons_of_mem _ hk)
    obtain ⟨q1, q2, q3⟩ := q
    refine ⟨(gkN p.1, e.key, e.val) :: xs, ?_, .cons ⟨rfl, q2, q3⟩ z2, fun x hx => ?_⟩
    · rw [List.map_cons, ← z1]
      have : e = nEnt X.w (gkN p.1, e.key, e.val) := by
        obtain ⟨e1, e2, e3⟩ := e
        have q1 : e1 = gkH Tabs.W p.1 := q1
        rw [q1, hw, ← gkN_hash]
        rfl
      rw [← this]
    · rcases List.mem_cons.mp hx with z | hx
      · subst z
        exact ⟨ky_nested I _ (ky p List.mem_cons_self) q2, by rw [gkN_dep]; exact gk2 _ (by rw [List.map_cons]; exact List.mem_cons_self)⟩
      · exact z3 x hx
theorem mx_at (hw : Tabs.W = X.w) (I : Inv X pins σ H s) (m : MxH H a kvs) : (a == sysModules) = false ∧ kvs.length ≤ sizeLine ∧ ∃ xs, MixD X.w s.heap a xs ∧ MxR kvs xs := by
  obtain ⟨⟨b, h⟩, gk, ky⟩ := m
  have e := dmo_at I h
  subst e
  obtain ⟨⟨h0, h1, o, es, ep, h2, h3, h4, h5⟩, _, _⟩ := (show ObjOk X.prog X.w H s.heap b (DMo b kvs) from I.hok b _ h)
  obtain ⟨xs, z1, z2, z3⟩ := mx_ents hw I h5 ky gk.2
  exact ⟨h0, h1, xs, ⟨o, es, ep, h2, h3, h4, z1, z3, by rw [z2.keys]; exact gkN_nd gk.1⟩, z2⟩
theorem mx_new (hw : Tabs.W = X.w) {H' : Hp} {h' : Heap} {xs : List NE} (hl : kvs.length ≤ sizeLine) (h0 : (a == sysModules) = false) (m : MixD X.w h' a xs) (r : MxR kvs xs) : ObjOk X.prog X.w H' h' a (DMo a kvs) := by
  obtain ⟨o, es, ep, h2, h3, h4, n⟩ := m
  refine ⟨⟨h0, hl, o, es, ep, h2, h3, h4, ?_⟩, ⟨o, h2⟩, fun h1 h2 q k => ?_⟩
  · rw [n.1]
    clear n h4 hl
    induction r with
    | nil => exact .nil
    | cons q _ ih => exact .cons ⟨by rw [hw, ← gkN_hash, ← q.1]; rfl, q.2.1, q.2.2⟩ ih
  · obtain ⟨q0, q1, o, es, ep, q2, q3⟩ := q
    exact ⟨q0, q1, o, es, ep, k o q2, q3⟩
theorem mx_key (I : Inv X pins σ H s) (hk : KyA H k y) (hd : gkDep k ≤ 8) (ry : RelV y u) : NkAt s.heap (gkN k) u := ⟨ky_nested I k hk ry, by rw [gkN_dep]; exact hd⟩
end
end VL

set_option maxHeartbeats 4000000
namespace VL
open PySem PySem.Spec PyProof.Rows L2
variable [Tabs]
section
variable {X : Cx} {pins : List (Addr × Obj)} {σ : L2.St} {H : Hp} {s : Shared} {a : Addr} {kvs : List (GK × V × V)} {k : GK} {y v d : V} {u r : Value} {A : Around} {E : Value → Shared → Prop}
theorem mx_type (I : Inv X pins σ H s) {b : Addr} (h : H a = some (DMo b kvs)) : s.TypeIs (.ref a) "dict" ∧ (∀ b, Value.ref a = .ref b → ∃ ob, s.heap.get? b = some ob ∧ ob.dict = none) ∧ (a == sysModules) = false := by
  have e := dmo_at I h
  subst e
  obtain ⟨⟨h0, _, o, es, ep, h2, h3, h4, _⟩, _, _⟩ := (show ObjOk X.prog X.w H s.heap b (DMo b kvs) from I.hok b _ h)
  exact ⟨⟨o, h2, h3.1⟩, (fun c q => by cases q; exact ⟨o, h2, h3.2.1⟩), h0⟩
theorem m_getItem {Q : Value → Shared → Prop} (hu : A.units + 9 < cLine) (hw : Tabs.W = X.w) (I : Inv X pins σ H s) (m : MxH H a kvs) (hk : KyA H k y) (hd : gkDep k ≤ 8) (ry : RelV y u) (hv : gval kvs k = some v) (h : ∀ w' s', Inv X pins σ H s' → RelV v w' → Q w' s') :
    wpAny (model X.prog X.w) A (getItem (.ref a) u) Q E s := by
  obtain ⟨h0, _, xs, D, r⟩ := mx_at hw I m
  have q := r.val k
  rw [hv] at q
  obtain ⟨z, hz, rz⟩ := RelO.some_of q
  exact mx_getItem hu (mx_key I hk hd ry) D hz fun tk => h z _ (I.tok _) rz
theorem m_in {Q : Value → Shared → Prop} (hu : A.units + 9 < cLine) (hw : Tabs.W = X.w) (I : Inv X pins σ H s) (m : MxH H a kvs) (hk : KyA H k y) (hd : gkDep k ≤ 8) (ry : RelV y u) (h : ∀ s', Inv X pins σ H s' → Q (.bool (gval kvs k).isSome) s') :
    wpAny (model X.prog X.w) A (compareOp .In u (.ref a)) Q E s := by
  obtain ⟨h0, _, xs, D, r⟩ := mx_at hw I m
  refine mx_in hu (mx_key I hk hd ry) h0 D fun tk => ?_
  rw [← (r.val k).isSome_eq]
  exact h _ (I.tok _)
theorem m_notIn {Q : Value → Shared → Prop} (hu : A.units + 9 < cLine) (hw : Tabs.W = X.w) (I : Inv X pins σ H s) (m : MxH H a kvs) (hk : KyA H k y) (hd : gkDep k ≤ 8) (ry : RelV y u) (h : ∀ s', Inv X pins σ H s' → Q (.bool (!(gval kvs k).isSome)) s') :
    wpAny (model X.prog X.w) A (compareOp .NotIn u (.ref a)) Q E s := by
  obtain ⟨h0, _, xs, D, r⟩ := mx_at hw I m
  refine mx_notIn hu (mx_key I hk hd ry) h0 D fun tk => ?_
  rw [← (r.val k).isSome_eq]
  exact h _ (I.tok _)
theorem m_get1 {Q : Value → Shared → Prop} (hu : A.units + 9 < cLine) (hw : Tabs.W = X.w) (I : Inv X pins σ H s) (m : MxH H a kvs) (hk : KyA H k y) (hd : gkDep k ≤ 8) (ry : RelV y u) (h : ∀ w' s', Inv X pins σ H s' → RelV ((gval kvs k).getD .non) w' → Q w' s') :
    wpAny (model X.prog X.w) A (call (.builtin "dict.get") [.ref a, u]) Q E s := by
  obtain ⟨h0, _, xs, D, r⟩ := mx_at hw I m
  exact mx_get1 hu (mx_key I hk hd ry) h0 D fun tk => h _ _ (I.tok _) ((r.val k).getD rfl)
theorem m_get2 {Q : Value → Shared → Prop} (hu : A.units + 9 < cLine) (hw : Tabs.W = X.w) (I : Inv X pins σ H s) (m : MxH H a kvs) (hk : KyA H k y) (hd : gkDep k ≤ 8) (ry : RelV y u) (rd : RelV d r) (h : ∀ w' s', Inv X pins σ H s' → RelV ((gval kvs k).getD d) w' → Q w' s') :
    wpAny (model X.prog X.w) A (call (.builtin "dict.get") [.ref a, u, r]) Q E s := by
  obtain ⟨h0, _, xs, D, r⟩ := mx_at hw I m
  exact mx_get2 hu (mx_key I hk hd ry) h0 D fun tk => h _ _ (I.tok _) ((r.val k).getD rd)
theorem m_setItem {Q : Unit → Shared → Prop} (hu : A.units + 9 < cLine) (hw : Tabs.W = X.w) (I : Inv X pins σ H s) (m : MxH H a kvs) (hk : KyA H k y) (hd : gkDep k ≤ 8) (ry : RelV y u) (rv : RelV v r) (hl : kvs.length < sizeLine) (h : ∀ s', Inv X pins σ (upd H a (DMo a (gput kvs k y v))) s' → Q () s') :
    wpAny (model X.prog X.w) A (setItem (.ref a) u r) Q E s := by
  obtain ⟨h0, hz, xs, D, rr⟩ := mx_at hw I m
  obtain ⟨⟨b, hb⟩, _⟩ := m
  refine mx_setItem hu (mx_key I hk hd ry) D (by rw [← rr.len]; exact hz) fun h' tk D' hs => h _ ?_
  have he : ∃ q, h'.get? a = some q := let ⟨q, _, _, hq, _⟩ := D'; ⟨q, hq⟩
  exact d_write I (by rw [hb]; exact True.intro) hs he (mx_new hw (by have := gput_len kvs k y v; omega) h0 D' (rr.put k ry rv))
theorem m_setdefault {Q : Value → Shared → Prop} (hu : A.units + 9 < cLine) (hw : Tabs.W = X.w) (I : Inv X pins σ H s) (m : MxH H a kvs) (hk : KyA H k y) (hd : gkDep k ≤ 8) (ry : RelV y u) (rd : RelV d r) (hl : kvs.length < sizeLine)
    (h1 : ∀ v w' s', gval kvs k = some v → Inv X pins σ H s' → RelV v w' → Q w' s') (h2 : gval kvs k = none → ∀ s', Inv X pins σ (upd H a (DMo a (gput kvs k y d))) s' → Q r s') :
    wpAny (model X.prog X.w) A (call (.builtin "dict.setdefault") [.ref a, u, r]) Q E s := by
  obtain ⟨h0, hz, xs, D, rr⟩ := mx_at hw I m
  obtain ⟨⟨b, hb⟩, _⟩ := m
  have q := rr.val k
  refine mx_setdefault hu (mx_key I hk hd ry) h0 D (by rw [← rr.len]; exact hz) (fun w' tk hv => ?_) fun hn h' tk D' hs => h2 ?_ _ ?_
  · rw [hv] at q
    cases e : gval kvs k with
    | none => rw [e] at q; exact (show False from q).elim
    | some v => rw [e] at q; exact h1 v w' _ e (I.tok _) q
  · rw [hn] at q
    cases e : gval kvs k with
    | none => rfl
    | some v => rw [e] at q; exact (show False from q).elim
  · have he : ∃ q, h'.get? a = some q := let ⟨q, _, _, hq, _⟩ := D'; ⟨q, hq⟩
    exact d_write I (by rw [hb]; exact True.intro) hs he (mx_new hw (by have := gput_len kvs k y d; omega) h0 D' (rr.put k ry rd))
end
/-- what stands at an address as such a dict, for a key -/
def MGet (H : Hp) (a : Addr) (y : V) (o : Option V) : Prop := ∃ kvs k, MxH H a kvs ∧ KyA H k y ∧ gkDep k ≤ 8 ∧ o = gval kvs k
def MIs (H : Hp) (a : Addr) : Prop := ∃ b kvs, H a = some (DMo b kvs)
def MPut (H : Hp) (a : Addr) (y v : V) (H' : Hp) : Prop := ∃ kvs k, MxH H a kvs ∧ KyA H k y ∧ gkDep k ≤ 8 ∧ kvs.length < sizeLine ∧ H' = upd H a (DMo a (gput kvs k y v))
def tMGet (td ty : TE) : TE := fun σ H Q => td σ H fun x H1 => ty σ H1 fun y H2 => ∃ a v, x = .ref a ∧ MGet H2 a y (some v) ∧ Q v H2
def tMIn (ty td : TE) : TE := fun σ H Q => ty σ H fun y H1 => td σ H1 fun x H2 => ∃ a o, x = .ref a ∧ MGet H2 a y o ∧ Q (.bl o.isSome) H2
def tMNotIn (ty td : TE) : TE := fun σ H Q => ty σ H fun y H1 => td σ H1 fun x H2 => ∃ a o, x = .ref a ∧ MGet H2 a y o ∧ Q (.bl (!o.isSome)) H2
def sMPut (td ty tv : TE) : TS := fun D σ H => tv σ H fun v H1 => td σ H1 fun x H2 => ty σ H2 fun y H3 => ∃ a H4, x = .ref a ∧ MPut H3 a y v H4 ∧ D.nx σ H4
def tMGet1 (td ty : TE) : TE := fun σ H Q => td σ H fun x H1 => ∃ a, x = .ref a ∧ MIs H1 a ∧ ty σ H1 fun y H2 => ∃ o, MGet H2 a y o ∧ Q (o.getD .non) H2
def tMGet2 (td ty tx : TE) : TE := fun σ H Q => td σ H fun x H1 => ∃ a, x = .ref a ∧ MIs H1 a ∧ ty σ H1 fun y H2 => tx σ H2 fun z H3 => ∃ o, MGet H3 a y o ∧ Q (o.getD z) H3
def tMSetD (td ty tx : TE) : TE := fun σ H Q => td σ H fun x H1 => ∃ a, x = .ref a ∧ MIs H1 a ∧ ty σ H1 fun y H2 => tx σ H2 fun z H3 => ∃ o, MGet H3 a y o ∧ (∀ v, o = some v → Q v H3) ∧ (o = none → ∃ H4, MPut H3 a y z H4 ∧ Q z H4)
section
variable {X : Cx} {o i e f value : Expr} {apos cpos pos pos' : Pos} {td ty tv tx : TE}
theorem mget_type {pins : List (Addr × Obj)} {σ : L2.St} {H : Hp} {s : Shared} {a : Addr} {y : V} {ov : Option V} (I : Inv X pins σ H s) (g : MGet H a y ov) : s.TypeIs (.ref a) "dict" := by
  obtain ⟨kvs, k, ⟨⟨b, h⟩, _⟩, _⟩ := g
  exact (mx_type I h).1
theorem pe_mget (hu : X.A.units + 9 < cLine) (hw : Tabs.W = X.w) (ho : PE X o td) (hi : PE X i ty) (hs : NoSl i) : PE X (.Subscript o i pos) (tMGet td ty) := by
  refine ⟨fun pins s σ H Q I h => subD_of PySem.F.slot_dict_getitem.lookup hs (thn (ho.run pins s σ H _ I h) fun u s1 ⟨x, H1, I1, rx, q1⟩ => thn (hi.run pins s1 σ H1 _ I1 q1) fun iv s2 ⟨y, H2, I2, ry, a, v, ex, g, q2⟩ => ?_)⟩
  subst ex
  obtain rfl : u = Value.ref a := rx
  refine ⟨mget_type I2 g, ?_⟩
  obtain ⟨kvs, k, m, hk, hd, hv⟩ := g
  exact m_getItem hu hw I2 m hk hd ry hv.symm fun w' s3 I3 rw' => ⟨v, H2, I3, rw', q2⟩
theorem pc_min (hu : X.A.units + 9 < cLine) (hw : Tabs.W = X.w) (hi : PE X i ty) (ho : PE X o td) : PC X .In i o (tMIn ty td) := by
  refine ⟨fun pins s σ H Q I h => thn (hi.run pins s σ H _ I h) fun iv s1 ⟨y, H1, I1, ry, q1⟩ => thn (ho.run pins s1 σ H1 _ I1 q1) fun u s2 ⟨x, H2, I2, rx, a, ov, ex, g, q2⟩ => ?_⟩
  subst ex
  obtain rfl : u = Value.ref a := rx
  obtain ⟨kvs, k, m, hk, hd, rfl⟩ := g
  exact m_in hu hw I2 m hk hd ry fun s3 I3 => ⟨.bl (gval kvs k).isSome, H2, I3, rfl, q2⟩
theorem pc_mnotin (hu : X.A.units + 9 < cLine) (hw : Tabs.W = X.w) (hi : PE X i ty) (ho : PE X o td) : PC X .NotIn i o (tMNotIn ty td) := by
  refine ⟨fun pins s σ H Q I h => thn (hi.run pins s σ H _ I h) fun iv s1 ⟨y, H1, I1, ry, q1⟩ => thn (ho.run pins s1 σ H1 _ I1 q1) fun u s2 ⟨x, H2, I2, rx, a, ov, ex, g, q2⟩ => ?_⟩
  subst ex
  obtain rfl : u = Value.ref a := rx
  obtain ⟨kvs, k, m, hk, hd, rfl⟩ := g
  exact m_notIn hu hw I2 m hk hd ry fun s3 I3 => ⟨.bl (!(gval kvs k).isSome), H2, I3, rfl, q2⟩
theorem ps_mput (hu : X.A.units + 9 < cLine) (hw : Tabs.W = X.w) (ho : PE X o td) (hi : PE X i ty) (hv : PE X value tv) (hs : swapsWith value (some (.Subscript o i pos')) pos.line X.env = pure false) :
    PS X (.Assign [.Subscript o i pos'] value pos) (sMPut td ty tv) := by
  refine ⟨fun pins s σ H D I h => wpAny_Assign_Subscript (thn (hv.run pins s σ H _ I h) fun r s1 ⟨v, H1, I1, rv, q1⟩ => thn (ho.run pins s1 σ H1 _ I1 q1) fun u s2 ⟨x, H2, I2, rx, q2⟩ => thn (hi.run pins s2 σ H2 _ I2 q2) fun iv s3 ⟨y, H3, I3, ry, a, H4, ex, g, q3⟩ => ?_) hs⟩
  subst ex
  obtain rfl : u = Value.ref a := rx
  obtain ⟨kvs, k, m, hk, hd, hl, rfl⟩ := g
  exact m_setItem hu hw I3 m hk hd ry rv hl fun s4 I4 => ⟨σ, _, I4, q3⟩
theorem pe_mget1 (hu : X.A.units + 9 < cLine) (hw : Tabs.W = X.w) (ho : PE X o td) (he : PE X e ty) (m : M1 X o "get" apos e cpos) : PE X (.Call (.Attribute o "get" apos) [e] [] cpos) (tMGet1 td ty) := by
  refine ⟨fun pins s σ H Q I h => wpAny_Call_method m.base m.few m.line PySem.F.plainAttrs_dict PySem.F.slot_dict_get PySem.F.type_dict_get (thn (ho.run pins s σ H _ I h) fun u s1 ⟨x, H1, I1, rx, a, ex, ⟨b, kvs0, d⟩, q1⟩ => ?_)⟩
  subst ex
  obtain rfl : u = Value.ref a := rx
  obtain ⟨t1, t2, _⟩ := mx_type I1 d
  refine ⟨t1, t2, ?_⟩
  rw [m.trees]
  refine Calls.callWith_builtin rfl (Calls.evalArgs_plain (Calls.spliced_cons (thn (he.run pins s1 σ H1 _ I1 q1) fun iv s2 ⟨y, H2, I2, ry, ov, g, q2⟩ => Calls.spliced_nil ?_)))
  obtain ⟨kvs, k, m, hk, hd, rfl⟩ := g
  exact m_get1 hu hw I2 m hk hd ry fun w' s3 I3 rw' => ⟨_, H2, I3, rw', q2⟩
theorem pe_mget2 (hu : X.A.units + 9 < cLine) (hw : Tabs.W = X.w) (ho : PE X o td) (he : PE X e ty) (hf : PE X f tx) (m : M2 X o "get" apos e f cpos) : PE X (.Call (.Attribute o "get" apos) [e, f] [] cpos) (tMGet2 td ty tx) := by
  refine ⟨fun pins s σ H Q I h => wpAny_Call_method m.base m.few m.line PySem.F.plainAttrs_dict PySem.F.slot_dict_get PySem.F.type_dict_get (thn (ho.run pins s σ H _ I h) fun u s1 ⟨x, H1, I1, rx, a, ex, ⟨b, kvs0, d⟩, q1⟩ => ?_)⟩
  subst ex
  obtain rfl : u = Value.ref a := rx
  obtain ⟨t1, t2, _⟩ := mx_type I1 d
  refine ⟨t1, t2, ?_⟩
  rw [m.trees]
  refine Calls.callWith_builtin rfl (Calls.evalArgs_plain (Calls.spliced_cons (thn (he.run pins s1 σ H1 _ I1 q1) fun iv s2 ⟨y, H2, I2, ry, q2⟩ => Calls.spliced_cons (thn (hf.run pins s2 σ H2 _ I2 q2) fun fv s3 ⟨z, H3, I3, rz, ov, g, q3⟩ => Calls.spliced_nil ?_))))
  obtain ⟨kvs, k, m, hk, hd, rfl⟩ := g
  exact m_get2 hu hw I3 m hk hd ry rz fun w' s4 I4 rw' => ⟨_, H3, I4, rw', q3⟩
theorem pe_msetd (hu : X.A.units + 9 < cLine) (hw : Tabs.W = X.w) (ho : PE X o td) (he : PE X e ty) (hf : PE X f tx) (m : M2 X o "setdefault" apos e f cpos) : PE X (.Call (.Attribute o "setdefault" apos) [e, f] [] cpos) (tMSetD td ty tx) := by
  refine ⟨fun pins s σ H Q I h => wpAny_Call_method m.base m.few m.line PySem.F.plainAttrs_dict PySem.F.slot_dict_setdefault PySem.F.type_dict_setdefault (thn (ho.run pins s σ H _ I h) fun u s1 ⟨x, H1, I1, rx, a, ex, ⟨b, kvs0, d⟩, q1⟩ => ?_)⟩
  subst ex
  obtain rfl : u = Value.ref a := rx
  obtain ⟨t1, t2, _⟩ := mx_type I1 d
  refine ⟨t1, t2, ?_⟩
  rw [m.trees]
  refine Calls.callWith_builtin rfl (Calls.evalArgs_plain (Calls.spliced_cons (thn (he.run pins s1 σ H1 _ I1 q1) fun iv s2 ⟨y, H2, I2, ry, q2⟩ => Calls.spliced_cons (thn (hf.run pins s2 σ H2 _ I2 q2) fun fv s3 ⟨z, H3, I3, rz, ov, g, q3, q4⟩ => Calls.spliced_nil ?_))))
  obtain ⟨kvs, k, m, hk, hd, rfl⟩ := g
  by_cases hn : gval kvs k = none
  · obtain ⟨H4, hp, q4⟩ := q4 hn
    obtain ⟨kvs', k', m', hk', hd', hl, rfl⟩ := hp
    obtain ⟨⟨b1, h1⟩, z1⟩ := id m
    obtain ⟨⟨b2, h2⟩, z2⟩ := id m'
    have e1 := dmo_at I3 h1
    have e2 := dmo_at I3 h2
    have ek : k = k' := gkN_inj _ _ (NestedIs.inj _ _ _ (ky_nested I3 k hk ry) (ky_nested I3 k' hk' ry))
    subst ek
    have nn : gval kvs' k = none := by
      obtain ⟨_, _, xs, D, r⟩ := mx_at hw I3 m
      obtain ⟨_, _, xs', D', r'⟩ := mx_at hw I3 m'
      have q := r.val k
      have q' := r'.val k
      obtain ⟨o1, es1, ep1, a1, a2, a3, n1⟩ := D
      obtain ⟨o2, es2, ep2, b1, b2, b3, n2⟩ := D'
      rw [a1] at b1
      cases b1
      rw [a3] at b3
      cases b3
      have key : nAt xs (gkN k) = none → nAt xs' (gkN k) = none := fun z => by
        by_cases c : nAt xs' (gkN k) = none
        · exact c
        exfalso
        obtain ⟨v, hv⟩ := Option.ne_none_iff_exists'.mp c
        unfold nAt at hv
        obtain ⟨x, hx, _⟩ := Option.map_eq_some_iff.mp hv
        have hx1 := List.find?_some hx
        have hx2 := List.mem_of_find?_eq_some hx
        have e0 : x.1 = gkN k := by simpa using hx1
        have m0 : nEnt X.w x ∈ xs.map (nEnt X.w) := by rw [← n1.1, n2.1]; exact List.mem_map.mpr ⟨x, hx2, rfl⟩
        obtain ⟨x', hx', ex⟩ := List.mem_map.mp m0
        have g1 := (n1.2.1 x' hx').1
        have g2 := (n2.2.1 x hx2).1
        have ev : x'.2.1 = x.2.1 := congrArg DictEntry.key ex
        rw [ev] at g1
        have e9 := NestedIs.inj _ _ _ g1 g2
        unfold nAt at z
        have := List.find?_eq_none.mp (Option.map_eq_none_iff.mp z) x' hx'
        rw [e9, e0] at this
        simp at this
      rw [hn] at q
      have z : nAt xs (gkN k) = none := RelO.none_of q
      rw [key z] at q'
      cases e : gval kvs' k with
      | none => rfl
      | some v => rw [e] at q'; exact (show False from q').elim
    exact m_setdefault hu hw I3 m' hk' hd' ry rz hl (fun v w' s' hv => by rw [nn] at hv; cases hv) fun _ s4 I4 => ⟨z, _, I4, rz, q4⟩
  · obtain ⟨v, hv⟩ := Option.ne_none_iff_exists'.mp hn
    obtain ⟨h0, hz, xs, D, rr⟩ := mx_at hw I3 m
    have q := rr.val k
    rw [hv] at q
    obtain ⟨w', hw', rw'⟩ := RelO.some_of q
    refine mx_setdefault hu (mx_key I3 hk hd ry) h0 D (by rw [← rr.len]; exact hz) (fun u' tk hu' => ?_) fun hn' => by rw [hw'] at hn'; cases hn'
    rw [hw'] at hu'
    cases hu'
    exact ⟨v, H3, I3.tok _, rw', q3 v hv⟩
end
end VL

set_option maxHeartbeats 4000000
/-! The value layer: dicts with keys of any kind. -/
namespace VL
open PySem PySem.Spec PyProof.Rows L2
mutual
def gkOf : D → Option GK
  | .int i => some (.i i)
  | .str x => some (.s x)
  | .tup ds => match gkOfL ds with | some ks => some (.t ks) | none => none
  | _ => none
def gkOfL : List D → Option (List GK)
  | [] => some []
  | d :: ds => match gkOf d with
    | some k => match gkOfL ds with | some ks => some (k :: ks) | none => none
    | none => none
end
mutual
theorem gkOf_of : ∀ {d : D} {k : GK}, gkOf d = some k → d = gkD k
  | .int i, k, h => by simp [gkOf] at h; subst h; rfl
  | .str i, k, h => by simp [gkOf] at h; subst h; rfl
  | .tup ds, k, h => by
    unfold gkOf at h
    cases z : gkOfL ds with
    | none => rw [z] at h; cases h
    | some ks =>
      rw [z] at h
      cases h
      simp only [gkD]
      rw [gkOfL_of z]
  | .non, k, h => by simp [gkOf] at h
  | .bl _, k, h => by simp [gkOf] at h
  | .raw _, k, h => by simp [gkOf] at h
  | .gh _, k, h => by simp [gkOf] at h
  | .lst _, k, h => by simp [gkOf] at h
  | .kt _, k, h => by simp [gkOf] at h
  | .kl _, k, h => by simp [gkOf] at h
  | .fn _ _ _, k, h => by simp [gkOf] at h
  | .clo _ _ _, k, h => by simp [gkOf] at h
  | .dK _, k, h => by simp [gkOf] at h
  | .dT _, k, h => by simp [gkOf] at h
  | .dM _, k, h => by simp [gkOf] at h
  | .exc _ _, k, h => by simp [gkOf] at h
  | .ins _ _, k, h => by simp [gkOf] at h
theorem gkOfL_of : ∀ {ds : List D} {ks : List GK}, gkOfL ds = some ks → ds = gkDL ks
  | [], ks, h => by simp [gkOfL] at h; subst h; rfl
  | d :: ds, ks, h => by
    unfold gkOfL at h
    cases z : gkOf d with
    | none => rw [z] at h; cases h
    | some k =>
      rw [z] at h
      cases z2 : gkOfL ds with
      | none => rw [z2] at h; cases h
      | some r =>
        rw [z2] at h
        cases h
        simp only [gkDL]
        rw [gkOf_of z, gkOfL_of z2]
end
mutual
theorem gkOf_D : ∀ k : GK, gkOf (gkD k) = some k
  | .i _ => rfl
  | .s _ => rfl
  | .t ks => by simp only [gkD]; unfold gkOf; rw [gkOfL_D ks]
theorem gkOfL_D : ∀ ks : List GK, gkOfL (gkDL ks) = some ks
  | [] => rfl
  | k :: ks => by simp only [gkDL]; unfold gkOfL; rw [gkOf_D k, gkOfL_D ks]
end
def mval (es : List (GK × D)) (k : GK) : Option D := (es.find? fun p => decide (p.1 = k)).map (·.2)
def mset (es : List (GK × D)) (k : GK) (x : D) : List (GK × D) := if (mval es k).isSome then es.map (fun p => if p.1 = k then (p.1, x) else p) else es ++ [(k, x)]
def mGetD (d key : D) (k : Option D → Prop) : Prop := match d with
  | .dM es => bindO (gkOf key) fun g => gkDep g ≤ 8 ∧ k (mval es g)
  | _ => False
def mPutD (d key v : D) (k : D → Prop) : Prop := match d with
  | .dM es => bindO (gkOf key) fun g => gkDep g ≤ 8 ∧ es.length < sizeLine ∧ k (.dM (mset es g v))
  | _ => False
def isDM : D → Prop
  | .dM _ => True
  | _ => False
variable [Tabs]
section
variable {K : PySem.W.Frag} {γ : List Addr} {G : Hp}
theorem mval_ok : ∀ {kvs : List (GK × V × V)} {es : List (GK × D)}, kvs.map (·.1) = es.map (·.1) → RepL K γ G (kvs.map (·.2.2)) (es.map (·.2)) → ∀ k, (∀ x, mval es k = some x → ∃ y, gval kvs k = some y ∧ Rep K γ G y x) ∧ (mval es k = none → gval kvs k = none)
  | [], [], _, _, k => ⟨fun x h => by simp [mval] at h, fun _ => rfl⟩
  | [], _ :: _, h, _, _ => by simp at h
  | _ :: _, [], h, _, _ => by simp at h
  | (k1, u1, v1) :: kvs, (k2, d2) :: es, h, r, k => by
    simp only [List.map_cons, List.cons.injEq] at h
    obtain ⟨rfl, h⟩ := h
    simp only [List.map_cons] at r
    cases r with
    | cons r1 r2 =>
      by_cases e : k1 = k
      · subst e
        refine ⟨fun x hx => ?_, fun hx => ?_⟩
        · simp [mval] at hx
          subst hx
          exact ⟨v1, by simp [gval], r1⟩
        · simp [mval] at hx
      · obtain ⟨z1, z2⟩ := mval_ok h r2 k
        have e1 : mval ((k1, d2) :: es) k = mval es k := by simp [mval, List.find?_cons, e]
        have e2 : gval ((k1, u1, v1) :: kvs) k = gval kvs k := by simp [gval, List.find?_cons, e]
        rw [e1, e2]
        exact ⟨z1, z2⟩
theorem mval_is {kvs : List (GK × V × V)} {es : List (GK × D)} (h : kvs.map (·.1) = es.map (·.1)) (r : RepL K γ G (kvs.map (·.2.2)) (es.map (·.2))) (k : GK) : (gval kvs k).isSome = (mval es k).isSome := by
  obtain ⟨z1, z2⟩ := mval_ok h r k
  cases e : mval es k with
  | none => rw [z2 e]; rfl
  | some x =>
    obtain ⟨y, hy, _⟩ := z1 x e
    rw [hy]
    rfl
theorem mrepl_ok {v : V} {x : D} (rv : Rep K γ G v x) (k : GK) : ∀ {kvs : List (GK × V × V)} {es : List (GK × D)}, kvs.map (·.1) = es.map (·.1) → RepL K γ G (kvs.map (·.2.1)) (es.map fun e => gkD e.1) → RepL K γ G (kvs.map (·.2.2)) (es.map (·.2)) →
    (kvs.map fun p => if p.1 = k then (p.1, p.2.1, v) else p).map (·.1) = (es.map fun p => if p.1 = k then (p.1, x) else p).map (·.1) ∧ RepL K γ G ((kvs.map fun p => if p.1 = k then (p.1, p.2.1, v) else p).map (·.2.1)) ((es.map fun p => if p.1 = k then (p.1, x) else p).map fun e => gkD e.1) ∧
      RepL K γ G ((kvs.map fun p => if p.1 = k then (p.1, p.2.1, v) else p).map (·.2.2)) ((es.map fun p => if p.1 = k then (p.1, x) else p).map (·.2))
  | [], [], _, _, _ => ⟨rfl, .nil, .nil⟩
  | [], _ :: _, h, _, _ => by simp at h
  | _ :: _, [], h, _, _ => by simp at h
  | (k1, u1, v1) :: kvs, (k2, d2) :: es, h, r, q => by
    simp only [List.map_cons, List.cons.injEq] at h
    obtain ⟨rfl, h⟩ := h
    simp only [List.map_cons] at r q
    cases r with
    | cons r1 r2 =>
      cases q with
      | cons q1 q2 =>
        obtain ⟨z1, z2, z3⟩ := mrepl_ok rv k h r2 q2
        by_cases e : k1 = k
        · simp only [List.map_cons, e, if_pos]
          subst e
          exact ⟨by rw [z1], .cons r1 z2, .cons rv z3⟩
        · simp only [List.map_cons, e, if_neg, if_false]
          exact ⟨by rw [z1], .cons r1 z2, .cons q1 z3⟩
theorem mput_okR {u v : V} {x : D} {k : GK} (ru : Rep K γ G u (gkD k)) (rv : Rep K γ G v x) {kvs : List (GK × V × V)} {es : List (GK × D)} (h : kvs.map (·.1) = es.map (·.1)) (r : RepL K γ G (kvs.map (·.2.1)) (es.map fun e => gkD e.1)) (q : RepL K γ G (kvs.map (·.2.2)) (es.map (·.2))) :
    (gput kvs k u v).map (·.1) = (mset es k x).map (·.1) ∧ RepL K γ G ((gput kvs k u v).map (·.2.1)) ((mset es k x).map fun e => gkD e.1) ∧ RepL K γ G ((gput kvs k u v).map (·.2.2)) ((mset es k x).map (·.2)) := by
  unfold gput mset
  rw [mval_is h q k]
  split
  · exact mrepl_ok rv k h r q
  · simp only [List.map_append, List.map_cons, List.map_nil]
    exact ⟨by rw [h], r.append (.cons ru .nil), q.append (.cons rv .nil)⟩
theorem ky_all : ∀ {kvs : List (GK × V × V)} {es : List (GK × D)} {H : Hp}, Ext G H → kvs.map (·.1) = es.map (·.1) → RepL K γ G (kvs.map (·.2.1)) (es.map fun e => gkD e.1) → ∀ p ∈ kvs, KyA H p.1 p.2.1
  | [], [], _, _, _, _, p, hp => by cases hp
  | [], _ :: _, _, _, h, _, _, _ => by simp at h
  | _ :: _, [], _, _, h, _, _, _ => by simp at h
  | (k1, u1, v1) :: kvs, (k2, d2) :: es, H, e, h, r, p, hp => by
    simp only [List.map_cons, List.cons.injEq] at h
    obtain ⟨rfl, h⟩ := h
    simp only [List.map_cons] at r
    cases r with
    | cons r1 r2 =>
      rcases List.mem_cons.mp hp with z | z
      · subst z
        exact KyA.ext e k1 (Rep.key k1 r1)
      · exact ky_all e h r2 p z
end
section
variable {K : PySem.W.Frag} {w : Wd} {m : M} {v u : V} {d e : D}
theorem isDM_of (h : Vw K w v d) (e : isDM d) : ∃ a, v = .ref a ∧ MIs w.H a := by
  cases d <;> first | exact e.elim | skip
  obtain ⟨a, b, kvs, rfl, h1, _⟩ := h
  exact ⟨a, rfl, b, kvs, h1⟩
theorem vw_key {k : GK} (s : SOk K w m) (h : Vw K w u (gkD k)) : KyA w.H k u := Vw.key s.sub h
theorem mget_ok {P : Option D → Prop} (s : SOk K w m) (hv : Vw K w v d) (hu : Vw K w u e) (h : mGetD d e P) :
    ∃ a ov o, v = .ref a ∧ MGet w.H a u ov ∧ (∀ x, o = some x → ∃ y, ov = some y ∧ Rep K w.γ w.G y x) ∧ (o = none → ov = none) ∧ P o := by
  unfold mGetD at h
  split at h
  · rename_i es
    obtain ⟨g, hg, hd, h⟩ := bindO_elim h
    obtain ⟨a, b, kvs, rfl, h1, h2, h3, r1, r2⟩ := hv
    rw [gkOf_of hg] at hu
    obtain ⟨z1, z2⟩ := mval_ok h2 r2 g
    exact ⟨a, _, _, rfl, ⟨kvs, g, ⟨⟨b, h1⟩, by rw [h2]; exact h3, ky_all s.sub h2 r1⟩, vw_key s hu, hd, rfl⟩, z1, z2, h⟩
  · exact h.elim
theorem rep_of_vwkey {k : GK} (s : SOk K w m) (h : Vw K w u (gkD k)) : Rep K w.γ w.G u (gkD k) := by
  cases k with
  | i n => cases (show u = .int n from h); exact .int n
  | s x => cases (show u = .str x from h); exact .str x
  | t ks =>
    obtain ⟨a, xs, rfl, h1, r⟩ := h
    exact .tup h1 r
theorem mput_at {a : Addr} {o : HO} {x : D} {P : D → Prop} (s : SOk K w m) (ho : w.H a = some o) (r : ORep K w.γ w.G o d) (hu : Vw K w u e) (rx : Rep K w.γ w.G v x) (h : mPutD d e x P) :
    ∃ o' d', MPut w.H a u v (upd w.H a o') ∧ ORep K w.γ w.G o' d' ∧ P d' := by
  unfold mPutD at h
  split at h
  · rename_i es
    obtain ⟨g, hg, hd, hl, h⟩ := bindO_elim h
    rw [gkOf_of hg] at hu
    cases r with
    | @dM b kvs _ h2 h3 r1 r2 =>
      have hlen : kvs.length = es.length := by have := congrArg List.length h2; simpa using this
      obtain ⟨z1, z2, z3⟩ := mput_okR (k := g) (rep_of_vwkey s hu) rx h2 r1 r2
      have h3' : GKs (kvs.map (·.1)) := by rw [h2]; exact h3
      refine ⟨DMo a (gput kvs g u v), .dM (mset es g x), ⟨kvs, g, ⟨⟨b, ho⟩, h3', ky_all s.sub h2 r1⟩, vw_key s hu, hd, by rw [hlen]; exact hl, rfl⟩, .dM z1 ?_ z2 z3, h⟩
      rw [← z1]
      exact gput_ok h3' hd
  · exact h.elim
end
section
variable {X : Cx} {W : WX} {a b c : Expr} {es : List Expr} {fa fb fc : FE} {ga : FA} {pos : Pos}
/-- d[k] -/
def fMGet (fa fb : FE) : FE := fun m Q Qx => fa m (fun ra m1 => fb m1 (fun rb m2 => bindO (view m2 ra) fun d => bindO (view m2 rb) fun e => mGetD d e fun o => bindO o fun x => Q (.fz x) m2) Qx) Qx
theorem ve_mget (hu : X.A.units + 64 < cLine) (hw : Tabs.W = X.w) (ha : VE X W a fa) (hb : VE X W b fb) (hs : NoSl b := by exact fun _ _ => rfl) : VE X W (.Subscript a b pos) (fMGet fa fb) := by
  obtain ⟨ta, pa, sa⟩ := ha.ex
  obtain ⟨tb, pb, sb⟩ := hb.ex
  refine ⟨⟨_, pe_mget (by omega) hw pa pb hs, fun w m Q Qx Q' s h k kx => sa w m _ Qx _ s h (fun ra m1 w1 x e1 a1 r1 q1 => ?_) kx⟩⟩
  rw [← e1]
  refine sb w1 m1 _ Qx _ a1.ok q1 (fun rb m2 w2 y e2 a2 r2 q2 => ?_) (kx.aft a1 e1)
  obtain ⟨d, hd, q2⟩ := bindO_elim q2
  obtain ⟨e, he, q2⟩ := bindO_elim q2
  obtain ⟨p, ov, o, rfl, g, y1, y2, q2⟩ := mget_ok a2.ok (a2.ok.view (r1.step a2.st e2) hd) (a2.ok.view r2 he) q2
  obtain ⟨z, rfl, q2⟩ := bindO_elim q2
  obtain ⟨v, rfl, rv⟩ := y1 z rfl
  exact ⟨p, v, rfl, g, k _ m2 w2 v (e2.trans e1) (a1.trans a2) (retFz rv) q2⟩
/-- k in d, k not in d -/
def fMIn (neg : Bool) (fb fa : FE) : FE := fun m Q Qx => fb m (fun rb m1 => fa m1 (fun ra m2 => bindO (view m2 ra) fun d => bindO (view m2 rb) fun e => mGetD d e fun o => Q (.fz (.bl (if neg then !o.isSome else o.isSome))) m2) Qx) Qx
theorem min_core {neg : Bool} {ta tb : TE} {fa fb : FE}
    (sa : ∀ (w : Wd) (m : M) (Q : Ret → M → Prop) (Qx : PX) (Q' : VK), SOk X.K w m → fa m Q Qx → (∀ r m' w' v, w'.σ = w.σ → Aft X.K w m w' m' → RetOk X.K w.H w' m' v r → Q r m' → Q' v w'.H) → ExOk X.K W w m Qx → ta w.σ w.H Q')
    (sb : ∀ (w : Wd) (m : M) (Q : Ret → M → Prop) (Qx : PX) (Q' : VK), SOk X.K w m → fb m Q Qx → (∀ r m' w' v, w'.σ = w.σ → Aft X.K w m w' m' → RetOk X.K w.H w' m' v r → Q r m' → Q' v w'.H) → ExOk X.K W w m Qx → tb w.σ w.H Q')
    {w : Wd} {m : M} {Q : Ret → M → Prop} {Qx : PX} {Q' : VK} (s : SOk X.K w m) (h : fMIn neg fb fa m Q Qx) (k : ∀ r m' w' v, w'.σ = w.σ → Aft X.K w m w' m' → RetOk X.K w.H w' m' v r → Q r m' → Q' v w'.H) (kx : ExOk X.K W w m Qx) :
    (tb w.σ w.H fun y H1 => ta w.σ H1 fun x H2 => ∃ a o, x = .ref a ∧ MGet H2 a y o ∧ Q' (.bl (if neg then !o.isSome else o.isSome)) H2) := by
  refine sb w m _ Qx _ s h (fun rb m1 w1 y e1 a1 r1 q1 => ?_) kx
  rw [← e1]
  refine sa w1 m1 _ Qx _ a1.ok q1 (fun ra m2 w2 x e2 a2 r2 q2 => ?_) (kx.aft a1 e1)
  obtain ⟨d, hd, q2⟩ := bindO_elim q2
  obtain ⟨e, he, q2⟩ := bindO_elim q2
  obtain ⟨p, ov, o, rfl, g, y1, y2, q2⟩ := mget_ok a2.ok (a2.ok.view r2 hd) (a2.ok.view (r1.step a2.st e2) he) q2
  have e3 : ov.isSome = o.isSome := by
    cases o with
    | none => rw [y2 rfl]; rfl
    | some z => obtain ⟨v, hv, _⟩ := y1 z rfl; rw [hv]; rfl
  refine ⟨p, ov, rfl, g, ?_⟩
  rw [e3]
  exact k _ m2 w2 _ (e2.trans e1) (a1.trans a2) (retFz (.bl _)) q2
theorem ve_min (hu : X.A.units + 64 < cLine) (hw : Tabs.W = X.w) (hb : VE X W b fb) (ha : VE X W a fa) (hm : behindInMarks .In a = false := by first | rfl | (cases a <;> rfl)) : VE X W (.Compare b [.In] [a] pos) (fMIn false fb fa) := by
  obtain ⟨ta, pa, sa⟩ := ha.ex
  obtain ⟨tb, pb, sb⟩ := hb.ex
  exact ⟨⟨_, pe_cmp (pc_min (by omega) hw pb pa) hm, fun w m Q Qx Q' s h k kx => min_core (neg := false) sa sb s h k kx⟩⟩
theorem ve_mnotin (hu : X.A.units + 64 < cLine) (hw : Tabs.W = X.w) (hb : VE X W b fb) (ha : VE X W a fa) (hm : behindInMarks .NotIn a = false := by first | rfl | (cases a <;> rfl)) : VE X W (.Compare b [.NotIn] [a] pos) (fMIn true fb fa) := by
  obtain ⟨ta, pa, sa⟩ := ha.ex
  obtain ⟨tb, pb, sb⟩ := hb.ex
  exact ⟨⟨_, pe_cmp (pc_mnotin (by omega) hw pb pa) hm, fun w m Q Qx Q' s h k kx => min_core (neg := true) sa sb s h k kx⟩⟩
theorem vt_min (hu : X.A.units + 64 < cLine) (hw : Tabs.W = X.w) (hb : VE X W b fb) (ha : VE X W a fa) (hm : behindInMarks .In a = false := by first | rfl | (cases a <;> rfl)) : VT X W (.Compare b [.In] [a] pos) (fTest (fMIn false fb fa)) := by
  obtain ⟨ta, pa, sa⟩ := ha.ex
  obtain ⟨tb, pb, sb⟩ := hb.ex
  refine ⟨⟨_, pt_cmp (pc_min (by omega) hw pb pa) hm, fun w m Q Qx Q' s h k kx => min_core (neg := false) (Q' := fun v H => ∃ c, v = .bl c ∧ Q' c H) sa sb s h (fun r m' w' v e a1 r1 q => ?_) kx⟩⟩
  obtain ⟨c, hc, q⟩ := bindO_elim q
  exact ⟨c, asB_ok r1 hc, k c m' w' e a1 q⟩
theorem vt_mnotin (hu : X.A.units + 64 < cLine) (hw : Tabs.W = X.w) (hb : VE X W b fb) (ha : VE X W a fa) (hm : behindInMarks .NotIn a = false := by first | rfl | (cases a <;> rfl)) : VT X W (.Compare b [.NotIn] [a] pos) (fTest (fMIn true fb fa)) := by
  obtain ⟨ta, pa, sa⟩ := ha.ex
  obtain ⟨tb, pb, sb⟩ := hb.ex
  refine ⟨⟨_, pt_cmp (pc_mnotin (by omega) hw pb pa) hm, fun w m Q Qx Q' s h k kx => min_core (neg := true) (Q' := fun v H => ∃ c, v = .bl c ∧ Q' c H) sa sb s h (fun r m' w' v e a1 r1 q => ?_) kx⟩⟩
  obtain ⟨c, hc, q⟩ := bindO_elim q
  exact ⟨c, asB_ok r1 hc, k c m' w' e a1 q⟩
/-- d.get(k), d.get(k, x) -/
def fMGet1 (fa fb : FE) : FE := fun m Q Qx => fa m (fun ra m1 => bindO (view m1 ra) fun d => isDM d ∧ fb m1 (fun rb m2 => bindO (view m2 ra) fun d => bindO (view m2 rb) fun e => mGetD d e fun o => match o with
  | some x => Q (.fz x) m2
  | none => Q (.fz .non) m2) Qx) Qx
theorem ve_mget1 {apos : Pos} (hu : X.A.units + 64 < cLine) (hw : Tabs.W = X.w) (ha : VE X W a fa) (hb : VE X W b fb) (m1 : M1 X a "get" apos b pos := by exact ⟨rfl, rfl, rfl, rfl⟩) : VE X W (.Call (.Attribute a "get" apos) [b] [] pos) (fMGet1 fa fb) := by
  obtain ⟨ta, pa, sa⟩ := ha.ex
  obtain ⟨tb, pb, sb⟩ := hb.ex
  refine ⟨⟨_, pe_mget1 (by omega) hw pa pb m1, fun w m Q Qx Q' s h k kx => sa w m _ Qx _ s h (fun ra m1 w1 x e1 a1 r1 q1 => ?_) kx⟩⟩
  obtain ⟨d, hd, hi, q1⟩ := bindO_elim q1
  obtain ⟨p, rfl, hp⟩ := isDM_of (a1.ok.view r1 hd) hi
  refine ⟨p, rfl, hp, ?_⟩
  rw [← e1]
  refine sb w1 m1 _ Qx _ a1.ok q1 (fun rb m2 w2 y e2 a2 r2 q2 => ?_) (kx.aft a1 e1)
  obtain ⟨d, hd, q2⟩ := bindO_elim q2
  obtain ⟨e, he, q2⟩ := bindO_elim q2
  obtain ⟨p', ov, o, ep, g, y1, y2, q2⟩ := mget_ok a2.ok (a2.ok.view (r1.step a2.st e2) hd) (a2.ok.view r2 he) q2
  cases ep
  refine ⟨ov, g, ?_⟩
  cases o with
  | none =>
    rw [y2 rfl]
    exact k _ m2 w2 _ (e2.trans e1) (a1.trans a2) (retFz .non) q2
  | some z =>
    obtain ⟨v, rfl, rv⟩ := y1 z rfl
    exact k _ m2 w2 _ (e2.trans e1) (a1.trans a2) (retFz rv) q2
def fMGet2 (fa fb fc : FE) : FE := fun m Q Qx => fa m (fun ra m1 => bindO (view m1 ra) fun d => isDM d ∧ fb m1 (fun rb m2 => fc m2 (fun rc m3 => bindO (view m3 ra) fun d => bindO (view m3 rb) fun e => mGetD d e fun o => match o with
  | some x => Q (.fz x) m3
  | none => Q rc m3) Qx) Qx) Qx
theorem ve_mget2 {apos : Pos} (hu : X.A.units + 64 < cLine) (hw : Tabs.W = X.w) (ha : VE X W a fa) (hb : VE X W b fb) (hc : VE X W c fc) (m1 : M2 X a "get" apos b c pos := by exact ⟨rfl, rfl, rfl, rfl⟩) : VE X W (.Call (.Attribute a "get" apos) [b, c] [] pos) (fMGet2 fa fb fc) := by
  obtain ⟨ta, pa, sa⟩ := ha.ex
  obtain ⟨tb, pb, sb⟩ := hb.ex
  obtain ⟨tc, pc, sc⟩ := hc.ex
  refine ⟨⟨_, pe_mget2 (by omega) hw pa pb pc m1, fun w m Q Qx Q' s h k kx => sa w m _ Qx _ s h (fun ra m1 w1 x e1 a1 r1 q1 => ?_) kx⟩⟩
  obtain ⟨d, hd, hi, q1⟩ := bindO_elim q1
  obtain ⟨p, rfl, hp⟩ := isDM_of (a1.ok.view r1 hd) hi
  refine ⟨p, rfl, hp, ?_⟩
  rw [← e1]
  refine sb w1 m1 _ Qx _ a1.ok q1 (fun rb m2 w2 y e2 a2 r2 q2 => ?_) (kx.aft a1 e1)
  rw [← e2]
  have a12 := a1.trans a2
  have e21 := e2.trans e1
  refine sc w2 m2 _ Qx _ a2.ok q2 (fun rc m3 w3 u e3 a3 r3 q3 => ?_) (kx.aft a12 e21)
  obtain ⟨d, hd, q3⟩ := bindO_elim q3
  obtain ⟨e, he, q3⟩ := bindO_elim q3
  obtain ⟨p', ov, o, ep, g, y1, y2, q3⟩ := mget_ok a3.ok (a3.ok.view ((r1.step a2.st e2).step a3.st e3) hd) (a3.ok.view (r2.step a3.st e3) he) q3
  cases ep
  refine ⟨ov, g, ?_⟩
  cases o with
  | none =>
    rw [y2 rfl]
    exact k _ m3 w3 _ (e3.trans e21) (a12.trans a3) (r3.from fun _ z => a12.st.back z) q3
  | some z =>
    obtain ⟨v, rfl, rv⟩ := y1 z rfl
    exact k _ m3 w3 _ (e3.trans e21) (a12.trans a3) (retFz rv) q3
/-- d.setdefault(k, x): the new value is frozen, or a pointer -/
def fMSetD (fa fb fc : FE) : FE := fun m Q Qx => fa m (fun ra m1 => bindO (view m1 ra) fun d => isDM d ∧ fb m1 (fun rb m2 => fc m2 (fun rc m3 => bindO (keep m3 rc) fun p => bindO (view p.2 ra) fun d => bindO (view p.2 rb) fun e => mGetD d e fun o => match o with
  | some x => Q (.fz x) p.2
  | none => bindO (mget p.2 ra) fun c => mPutD c e p.1 fun c' => Q (.fz p.1) (VL.mput p.2 ra c')) Qx) Qx) Qx
/-- d[k] = e -/
def sMPutV (fe fo fk : FE) : FS := fun E m => fe m (fun re m1 => bindO (keep m1 re) fun p => fo p.2 (fun ro m3 => fk m3 (fun rk m4 => bindO (view m4 rk) fun kd => bindO (mget m4 ro) fun c => mPutD c kd p.1 fun c' => E.nx (VL.mput m4 ro c')) E.ex) E.ex) E.ex
theorem vs_mput {o i e : Expr} {fo fi fe : FE} {p' : Pos} (hu : X.A.units + 64 < cLine) (hw : Tabs.W = X.w) (he : VE X W e fe) (ho : VE X W o fo) (hi : VE X W i fi) (hs : swapsWith e (some (.Subscript o i p')) pos.line X.env = pure false := by rfl) :
    VS X W (.Assign [.Subscript o i p'] e pos) (sMPutV fe fo fi) := by
  obtain ⟨te, pe, se⟩ := he.ex
  obtain ⟨to, po, so⟩ := ho.ex
  obtain ⟨ti, pi, si⟩ := hi.ex
  refine ⟨⟨_, ps_mput (by omega) hw po pi pe hs, fun w m E D s h k => se w m _ _ _ s h (fun re m1 w1 v e1 a1 r1 q => ?_) k.exOk⟩⟩
  obtain ⟨⟨d, m2⟩, hk, q⟩ := bindO_elim q
  obtain ⟨w2, e2, eH, a2, r2⟩ := keep_ok a1 r1 hk
  have e21 := e2.trans e1
  rw [← eH, ← e21]
  refine so w2 m2 _ _ _ a2.ok q (fun ro m3 w3 x e3 a3 r3 q => ?_) (k.exOk.aft a2 e21)
  rw [← e3]
  have a23 := a2.trans a3
  have e31 := e3.trans e21
  refine si w3 m3 _ _ _ a3.ok q (fun ri m4 w4 y e4 a4 r4 q => ?_) (k.exOk.aft a23 e31)
  obtain ⟨kd, hkd, q⟩ := bindO_elim q
  obtain ⟨c, hc, q⟩ := bindO_elim q
  obtain ⟨p, o, rfl, h3, h4, h5⟩ := mut_ok a4.ok (r3.step a4.st e4) hc
  obtain ⟨o', c', g, ro', q⟩ := mput_at a4.ok h3 h4 (a4.ok.view r4 hkd) ((r2.mono a3.st.gp a3.st.gg).mono a4.st.gp a4.st.gg) q
  refine ⟨p, _, rfl, g, ?_⟩
  have := k.nx _ (w4.put p o') ((a23.trans a4).trans (h5 o' c' ro')) q
  rw [mput_σ, e4] at this
  exact this
end
end VL

set_option maxHeartbeats 4000000
/-! The value layer: such dicts made: {}, displays; setdefault; len. -/
namespace VL
open PySem PySem.Spec PyProof.Rows L2
/-- the pairs of a display carry keys -/
def NCar (h : Heap) : List (Value × Value) → List (NestedKey × Value × Value) → Prop := Paired fun p x => p.1 = x.2.1 ∧ p.2 = x.2.2 ∧ NkAt h x.1 x.2.1
def nMerge (acc more : List NE) : List NE := more.foldl (fun a x => nPut a x.1 x.2.1 x.2.2) acc
theorem nPut_le (xs : List NE) (k : NestedKey) (a v : Value) : (nPut xs k a v).length ≤ xs.length + 1 := by
  unfold nPut
  split
  · rw [List.length_map]; omega
  · rw [List.length_append, List.length_cons, List.length_nil]; omega
section
variable {prog : Program} {w : World} {A : Around} {E : Value → Shared → Prop}
theorem nk_keepD {h h' : Heap} {k : NestedKey} {v : Value} {d : Addr} {xs : List NE} (m : MixD w h d xs) (hs : Heap.SameBut d h h') (x : NkAt h k v) : NkAt h' k v := by
  obtain ⟨o, es, ep, ho, _, hd, _⟩ := m
  exact x.keep ho hd hs
theorem mx_storeAll {d : Addr} (hu : A.units + 8 < cLine) : ∀ (vs : List (Value × Value)) (kvs acc : List NE) (s : Shared) (Q : PUnit → Shared → Prop), NCar s.heap vs kvs → MixD w s.heap d acc → acc.length + kvs.length ≤ sizeLine →
    (∀ h' tk, MixD w h' d (nMerge acc kvs) → Heap.SameBut d s.heap h' → Q PUnit.unit { s with heap := h', toks := tk }) →
    wpAny (model prog w) A (forIn vs PUnit.unit fun (x : Value × Value) (_ : PUnit) => (do dictSet d x.1 x.2; pure (ForInStep.yield PUnit.unit) : Sem (ForInStep PUnit))) Q E s := by
  intro vs
  induction vs with
  | nil =>
    intro kvs acc s Q hc m hz hQ
    cases hc
    rw [List.forIn_nil]
    exact wpAny_pure (hQ s.heap s.toks m (Heap.SameBut.refl _ _))
  | cons p vs ih =>
    intro kvs acc s Q hc m hz hQ
    cases hc with
    | @cons _ x _ ks h t =>
      obtain ⟨h1, h2, h3⟩ := h
      rw [List.length_cons] at hz
      rw [List.forIn_cons, h1, h2]
      rw [h1] at *
      refine wpAny_bind (wpAny_bind (mx_set hu (by rw [← h1]; rw [h1]; exact h3) m (by omega) fun h' tk m' sb => wpAny_pure ?_))
      refine ih ks (nPut acc x.1 x.2.1 x.2.2) _ Q ?_ m' (by have := nPut_le acc x.1 x.2.1 x.2.2; omega) fun h2 tk2 m2 sb2 => hQ h2 tk2 m2 (sb.trans sb2)
      exact Paired.mapP t fun _ _ z => ⟨z.1, z.2.1, nk_keepD m sb z.2.2⟩
variable {s : Shared}
theorem mx_subDict {pairs : List (Sem Value × Sem Value)} {Q : Addr → Shared → Prop} (hu : A.units + 8 < cLine) (hlen : pairs.length ≤ 15)
    (h : wpAny (model prog w) A (evalPairs pairs) (fun vs s₁ => ∃ kvs, NCar s₁.heap vs kvs ∧ MixD w s₁.heap s.heap.objs.size [] ∧
      ∀ h' tk, MixD w h' s.heap.objs.size (nMerge [] kvs) → Heap.SameBut s.heap.objs.size s₁.heap h' → Q s.heap.objs.size { s₁ with heap := h', toks := tk }) E
      { s with heap := s.heap.push { cls := .type "dict", data := .dict #[] } }) :
    wpAny (model prog w) A (subDict pairs) Q E s := by
  unfold subDict
  refine wpAny_bind (wpAny_alloc (wpAny_bind (wpAny_holding ?_)))
  rw [if_pos hlen]
  refine wpAny_bind (wpAny_mono (wpAny_evalPairs_len h) (fun vs s₁ h₁ => ?_) fun _ _ e => e)
  obtain ⟨hvl, kvs, hc, hm, hQ⟩ := h₁
  have hz : ([] : List NE).length + kvs.length ≤ sizeLine := by
    have e := Paired.length hc
    rw [sizeLine_eq, List.length_nil]; omega
  refine wpAny_holding (wpAny_bind (mx_storeAll hu vs kvs [] s₁ _ hc hm hz fun h' tk m' sb => wpAny_pure (wpAny_pure (hQ h' tk m' sb))))
theorem mx_display {env : Env} {keys : List (Option Expr)} {values : List Expr} {pos : Pos} {Q : Value → Shared → Prop} (hu : A.units + 8 < cLine)
    (hall : keys.all (·.isSome) = true) (hl : keys.length = values.length) (h0 : keys ≠ []) (hlen : keys.length ≤ 15)
    (h : wpAny (model prog w) A (evalPairs (pairTrees keys values env pos)) (fun vs s₁ => ∃ kvs, NCar s₁.heap vs kvs ∧ MixD w s₁.heap s.heap.objs.size [] ∧
      ∀ h' tk, MixD w h' s.heap.objs.size (nMerge [] kvs) → Heap.SameBut s.heap.objs.size s₁.heap h' → Q (.ref s.heap.objs.size) { s₁ with heap := h', toks := tk }) E
      { s with heap := s.heap.push { cls := .type "dict", data := .dict #[] } }) :
    wpAny (model prog w) A (eval (.Dict keys values pos) env) Q E s := by
  have hn := pairTrees_length keys values env pos hall hl
  rw [arm_eval_Dict, zip_pairTrees keys values env pos hall hl, dictDisplay_pairs _ (fun he => by rw [he] at hn; exact h0 (List.length_eq_zero_iff.mp hn.symm)) (by rw [hn]; omega)]
  refine wpAny_bind (wpAny_standAt (wpAny_bind (mx_subDict (Q := fun d s' => wpAny (model prog w) A (pure (Value.ref d)) Q E s') hu (by rw [hn]; exact hlen) (wpAny_mono h (fun vs s₁ h₁ => ?_) fun _ _ e => e))))
  obtain ⟨kvs, hc, hm, hq⟩ := h₁
  exact ⟨kvs, hc, hm, fun h' tk a b => wpAny_pure (hq h' tk a b)⟩
end
variable [Tabs]
section
variable {X : Cx} {pos : Pos}
def gMerge (acc more : List (GK × V × V)) : List (GK × V × V) := more.foldl (fun a x => gput a x.1 x.2.1 x.2.2) acc
theorem gMerge_len : ∀ (more acc : List (GK × V × V)), (gMerge acc more).length ≤ acc.length + more.length
  | [], acc => by show acc.length ≤ acc.length + 0; omega
  | p :: r, acc => by
    have h1 := gMerge_len r (gput acc p.1 p.2.1 p.2.2)
    have h2 := gput_len acc p.1 p.2.1 p.2.2
    show (gMerge (gput acc p.1 p.2.1 p.2.2) r).length ≤ _
    rw [List.length_cons]; omega
theorem MxR.merge {more : List (GK × V × V)} {ys : List NE} (q : MxR more ys) : ∀ {kvs : List (GK × V × V)} {xs : List NE}, MxR kvs xs → MxR (gMerge kvs more) (nMerge xs ys) := by
  induction q with
  | nil => intro kvs xs r; exact r
  | @cons p y ps ys h t ih =>
    intro kvs xs r
    obtain ⟨h1, h2, h3⟩ := h
    have := r.put p.1 h2 h3
    rw [← h1] at this
    exact ih this
theorem dmo_empty (h : Heap) (hb : sysModules < h.objs.size) (hw : Tabs.W = X.w) {H : Hp} : ObjOk X.prog X.w H (h.push { cls := .type "dict", data := .dict #[] }) h.objs.size (DMo h.objs.size []) :=
  mx_new hw (Nat.zero_le _) (beq_eq_false_iff_ne.mpr (Ne.symm (Nat.ne_of_lt hb))) (MixD.new h) .nil
def tMNew : TE := fun _ H Q => ∀ p, H p = none → Q (.ref p) (upd H p (DMo p []))
theorem pe_mnew (hw : Tabs.W = X.w) : PE X (.Dict [] [] pos) tMNew := ⟨fun pins s σ H Q I h =>
  wpAny_Dict_empty ⟨.ref s.heap.objs.size, _, I.laid (a := s.heap.objs.size) (o := DMo s.heap.objs.size []) (t' := s.toks) (fun _ _ q => Heap.get?_push_of_some _ q) (Nat.le_refl _) (dmo_empty s.heap I.big hw), rfl, h _ (I.hok.fresh (Nat.le_refl _))⟩⟩
/-- the pairs of a display as keys -/
def KPs (H : Hp) : List (V × V) → List (GK × V × V) → Prop := Paired fun p x => p.1 = x.2.1 ∧ p.2 = x.2.2 ∧ KyA H x.1 x.2.1 ∧ gkDep x.1 ≤ 8
def tMDisp (trs : List (TE × TE)) : TE := fun σ H Q => ∀ p, H p = none → tPairs trs σ (upd H p (DMo p [])) fun ps H2 => H2 p = some (DMo p []) ∧ ∃ kvs, KPs H2 ps kvs ∧ kvs.length ≤ 15 ∧ Q (.ref p) (upd H2 p (DMo p (gMerge [] kvs)))
theorem nCar_of {pins : List (Addr × Obj)} {σ : L2.St} {H : Hp} {s : Shared} (I : Inv X pins σ H s) {ps : List (V × V)} {kvs : List (GK × V × V)} (q : KPs H ps kvs) : ∀ {ws : List (Value × Value)}, VV ps ws → ∃ xs, NCar s.heap ws xs ∧ MxR kvs xs := by
  induction q with
  | nil => intro ws r; cases r; exact ⟨[], .nil, .nil⟩
  | @cons p x ps xs h t ih =>
    intro ws r
    obtain ⟨h1, h2, h3, h4⟩ := h
    cases r with
    | @cons _ b _ bs h5 t5 =>
      obtain ⟨ys, z1, z2⟩ := ih t5
      obtain ⟨r1, r2⟩ := h5
      rw [h1] at r1
      rw [h2] at r2
      exact ⟨(gkN x.1, b.1, b.2) :: ys, .cons ⟨rfl, rfl, mx_key I h3 h4 r1⟩ z1, .cons ⟨rfl, r1, r2⟩ z2⟩
theorem pe_mdisp {keys : List (Option Expr)} {values : List Expr} {trs : List (TE × TE)} (hu : X.A.units + 64 < cLine) (hw : Tabs.W = X.w) (h : PPs X pos keys values trs) (hall : keys.all (·.isSome) = true) (hl : keys.length = values.length) (h0 : keys ≠ [])
    (h15 : keys.length ≤ 15) : PE X (.Dict keys values pos) (tMDisp trs) := by
  refine ⟨fun pins s σ H Q I q => ?_⟩
  have hn := I.hok.fresh (Nat.le_refl s.heap.objs.size)
  have I1 := I.laid (a := s.heap.objs.size) (o := DMo s.heap.objs.size []) (h' := s.heap.push { cls := .type "dict", data := .dict #[] }) (t' := s.toks) (fun _ _ q => Heap.get?_push_of_some _ q) (Nat.le_refl _) (dmo_empty s.heap I.big hw)
  refine mx_display (by omega) hall hl h0 h15 (thn (h.run pins _ σ _ _ I1 (q _ hn)) fun ws s2 ⟨ps, H2, I2, rel, e, kvs, kp, lk, q2⟩ => ?_)
  obtain ⟨xs, c, rk⟩ := nCar_of I2 kp rel
  have gk0 : GKs (([] : List (GK × V × V)).map (·.1)) := ⟨List.nodup_nil, fun _ h => by cases h⟩
  obtain ⟨h0', hz, ys, D, r0⟩ := mx_at hw I2 (a := s.heap.objs.size) (kvs := []) ⟨⟨_, e⟩, gk0, fun _ h => by cases h⟩
  cases r0
  refine ⟨xs, c, D, fun h' tk dd' hs => ⟨.ref s.heap.objs.size, _, ?_, rfl, q2⟩⟩
  have hz : (gMerge [] kvs).length ≤ sizeLine := by
    have h1 := gMerge_len kvs []
    rw [List.length_nil] at h1
    rw [sizeLine_eq]; omega
  have he : ∃ q, h'.get? s.heap.objs.size = some q := let ⟨q, _, _, hq, _⟩ := dd'; ⟨q, hq⟩
  exact d_write I2 (by rw [e]; exact True.intro) hs he (mx_new hw hz h0' dd' (rk.merge .nil))
end
end VL

set_option maxHeartbeats 4000000
namespace VL
open PySem PySem.Spec PyProof.Rows L2
variable [Tabs]
section
variable {K : PySem.W.Frag} {w w1 : Wd} {m m1 : M}
theorem gks_nil : GKs (([] : List (GK × D)).map (·.1)) := ⟨List.nodup_nil, fun _ h => by cases h⟩
/-- a new container that nobody holds yet is written behind what came between -/
theorem write_new {p : Addr} {o o' : HO} {d d' : D} (s : SOk K w m) (hp : w.H p = none) (r : ORep K w.γ w.G o d) (a1 : Aft K (w.put p o) m w1 m1) (e1 : w1.σ = w.σ) (r' : ORep K w1.γ w1.G o' d') : w1.H p = some o ∧ Aft K w m (w1.put p o') m1 ∧ RetOk K w.H (w1.put p o') m1 (.ref p) (.tmp d') := by
  obtain ⟨s2, st2⟩ := s.put (o := o) hp
  have a0 : Aft K w m (w.put p o) m := ⟨s2, st2⟩
  have hno : ¬ Own (w.put p o) m p := fun z => s.notOwn hp z
  have hret : RetOk K w.H w1 m1 (.ref p) (.tmp d) := (s.putRet hp r).step a1.st e1
  obtain ⟨p', o2, ep, f1, f2, f3, f4, f5⟩ := hret
  cases ep
  have hH : w1.H p = some o := a1.st.fr p _ upd_same hno r.nt
  have a01 := a0.trans a1
  have nep : ∀ b u, w1.G b = some u → b ≠ p := fun b u g z => by rw [z] at g; rw [f2] at g; cases g
  refine ⟨hH, ⟨⟨fun b u g => (upd_ne (nep b u g)).trans (a1.ok.sub b u g), a1.ok.len, a1.ok.val, fun i d g => ?_, a1.ok.inj, a1.ok.gl, fun j b d g1 g2 => ?_, a1.ok.gnd, tabs_upd a1.ok.tb.1 f4 f5.odd, a1.ok.tb.2⟩, ⟨a01.st.gg, fun b u g n t => ?_, a01.st.gn, fun b g => ?_, fun b u g => ?_, a01.st.gp⟩⟩, ⟨p, _, rfl, f1, f2, fun z => f3 z, upd_same, r'⟩⟩
  · obtain ⟨b, o, g1, g2, g3, g4, g5⟩ := a1.ok.own i d g
    have nb : b ≠ p := fun z => f3 (.inr ⟨i, d, g, by rw [← z]; exact g1⟩)
    exact ⟨b, o, g1, g2, g3, (upd_ne nb).trans g4, g5⟩
  · obtain ⟨g3, o, g4, g5⟩ := a1.ok.gh j b d g1 g2
    have nb : b ≠ p := fun z => f3 (.inl (by rw [← z]; exact List.mem_of_getElem? g1))
    exact ⟨g3, o, (upd_ne nb).trans g4, g5⟩
  · have nb : b ≠ p := fun z => by rw [z] at g; rw [show w.H p = some u from g] at hp; cases hp
    exact (upd_ne nb).trans (a01.st.fr b u g n t)
  · exact a01.st.on b g
  · by_cases nb : b = p
    · exact ⟨_, by rw [nb]; exact upd_same⟩
    · obtain ⟨u', g'⟩ := a01.st.al b u g
      exact ⟨u', (upd_ne nb).trans g'⟩
end
section
variable {X : Cx} {W : WX} {a b c : Expr} {fa fb fc : FE} {pos : Pos}
def fMNew : FE := fun m Q _ => Q (.tmp (.dM [])) m
theorem ve_mnew (hw : Tabs.W = X.w) : VE X W (.Dict [] [] pos) fMNew := by
  refine ⟨⟨_, pe_mnew hw, fun w m Q Qx Q' s h k kx => fun p hp => ?_⟩⟩
  obtain ⟨s2, st2⟩ := s.put (o := DMo p []) hp
  exact k _ m (w.put p (DMo p [])) _ rfl ⟨s2, st2⟩ (s.putRet hp (.dM rfl gks_nil .nil .nil)) h
abbrev FMP := M → (List (GK × D) → M → Prop) → PX → Prop
structure VMP (X : Cx) (W : WX) (pos : Pos) (ks : List (Option Expr)) (vs : List Expr) (f : FMP) : Prop where
  ex : ∃ t, PPs X pos ks vs t ∧ ∀ (w : Wd) (m : M) (Q : List (GK × D) → M → Prop) (Qx : PX) (Q' : List (V × V) → Hp → Prop), SOk X.K w m → f m Q Qx →
    (∀ (es : List (GK × D)) (m' : M) (w' : Wd) (kvs : List (GK × V × V)), w'.σ = w.σ → Aft X.K w m w' m' → kvs.map (·.1) = es.map (·.1) → (∀ k ∈ es.map (·.1), gkDep k ≤ 8) → RepL X.K w'.γ w'.G (kvs.map (·.2.1)) (es.map fun e => gkD e.1) → RepL X.K w'.γ w'.G (kvs.map (·.2.2)) (es.map (·.2)) → Q es m' → Q' (kvs.map fun kv => (kv.2.1, kv.2.2)) w'.H) → ExOk X.K W w m Qx → tPairs t w.σ w.H Q'
def pmNil : FMP := fun m Q _ => Q [] m
def pmCons (fa fb : FE) (g : FMP) : FMP := fun m Q Qx => fa m (fun ra m1 => bindO (keep m1 ra) fun p1 => bindO (gkOf p1.1) fun k => gkDep k ≤ 8 ∧ fb p1.2 (fun rb m2 => bindO (keep m2 rb) fun p => g p.2 (fun es m3 => Q ((k, p.1) :: es) m3) Qx) Qx) Qx
theorem vmp_nil : VMP X W pos [] [] pmNil := ⟨⟨_, pps_nil, fun w m Q Qx Q' s h k kx => k [] m w [] rfl (.refl s) rfl (fun _ h => by cases h) .nil .nil h⟩⟩
theorem vmp_cons {ks : List (Option Expr)} {vs : List Expr} {g : FMP} (ha : VE X W a fa) (hb : VE X W b fb) (hr : VMP X W pos ks vs g) : VMP X W pos (some a :: ks) (b :: vs) (pmCons fa fb g) := by
  obtain ⟨ta, pa, sa⟩ := ha.ex
  obtain ⟨tb, pb, sb⟩ := hb.ex
  obtain ⟨tr, pr, sr⟩ := hr.ex
  refine ⟨⟨_, pps_cons pa pb pr, fun w m Q Qx Q' s h k kx => sa w m _ Qx _ s h (fun ra m1 w1 x e1 a1 r1 q => ?_) kx⟩⟩
  obtain ⟨⟨d, m2⟩, hk, q⟩ := bindO_elim q
  obtain ⟨w2, e2, eH, a2, r2⟩ := keep_ok a1 r1 hk
  obtain ⟨ky, hy, hd, q⟩ := bindO_elim q
  have e21 := e2.trans e1
  have z : d = gkD ky := gkOf_of hy
  subst z
  rw [← eH, ← e21]
  refine sb w2 m2 _ Qx _ a2.ok q (fun rb m3 w3 y e3 a3 r3 q => ?_) (kx.aft a2 e21)
  obtain ⟨⟨d, m4⟩, hk, q⟩ := bindO_elim q
  obtain ⟨w4, e4, eH4, a4, r4⟩ := keep_ok a3 r3 hk
  have a24 := a2.trans a4
  have e41 := (e4.trans e3).trans e21
  rw [← eH4, ← (e4.trans e3)]
  refine sr w4 m4 _ Qx _ a4.ok q (fun es m5 w5 kvs e5 a5 h1 h2 h3 h4 q => ?_) (kx.aft a24 e41)
  refine k _ m5 w5 ((ky, x, y) :: kvs) (e5.trans e41) (a24.trans a5) ?_ ?_ ?_ ?_ q
  · simp only [List.map_cons, h1]
  · intro j hj
    rw [List.map_cons] at hj
    rcases List.mem_cons.mp hj with z | z
    · rw [z]; exact hd
    · exact h2 j z
  · exact .cons ((r2.mono a4.st.gp a4.st.gg).mono a5.st.gp a5.st.gg) h3
  · exact .cons (r4.mono a5.st.gp a5.st.gg) h4
def mmerge (es more : List (GK × D)) : List (GK × D) := more.foldl (fun acc kv => mset acc kv.1 kv.2) es
theorem mmerge_ok {K : PySem.W.Frag} {γ : List Addr} {G : Hp} : ∀ {more : List (GK × V × V)} {mes : List (GK × D)} {kvs : List (GK × V × V)} {es : List (GK × D)}, more.map (·.1) = mes.map (·.1) → (∀ k ∈ mes.map (·.1), gkDep k ≤ 8) → RepL K γ G (more.map (·.2.1)) (mes.map fun e => gkD e.1) → RepL K γ G (more.map (·.2.2)) (mes.map (·.2)) →
    kvs.map (·.1) = es.map (·.1) → GKs (es.map (·.1)) → RepL K γ G (kvs.map (·.2.1)) (es.map fun e => gkD e.1) → RepL K γ G (kvs.map (·.2.2)) (es.map (·.2)) →
    (gMerge kvs more).map (·.1) = (mmerge es mes).map (·.1) ∧ GKs ((mmerge es mes).map (·.1)) ∧ RepL K γ G ((gMerge kvs more).map (·.2.1)) ((mmerge es mes).map fun e => gkD e.1) ∧ RepL K γ G ((gMerge kvs more).map (·.2.2)) ((mmerge es mes).map (·.2))
  | [], [], _, _, _, _, _, _, h, g, r, q => ⟨h, g, r, q⟩
  | [], _ :: _, _, _, h, _, _, _, _, _, _, _ => by simp at h
  | _ :: _, [], _, _, h, _, _, _, _, _, _, _ => by simp at h
  | (k1, u1, v1) :: more, (k2, d2) :: mes, kvs, es, h1, hd, r1, q1, h, g, r, q => by
    simp only [List.map_cons, List.cons.injEq] at h1
    obtain ⟨rfl, h1⟩ := h1
    simp only [List.map_cons] at r1 q1 hd
    cases r1 with
    | cons ra rb =>
      cases q1 with
      | cons qa qb =>
        obtain ⟨z1, z2, z3⟩ := mput_okR (k := k1) ra qa h r q
        have gg : GKs ((mset es k1 d2).map (·.1)) := by
          rw [← z1]
          exact gput_ok (by rw [h]; exact g) (hd k1 List.mem_cons_self)
        exact mmerge_ok (more := more) (mes := mes) (kvs := gput kvs k1 u1 v1) (es := mset es k1 d2) h1 (fun k hk => hd k (List.mem_cons_of_mem _ hk)) rb qb z1 gg z2 z3
theorem kps_of {K : PySem.W.Frag} {γ : List Addr} {G H : Hp} (e : Ext G H) : ∀ {kvs : List (GK × V × V)} {es : List (GK × D)}, kvs.map (·.1) = es.map (·.1) → (∀ k ∈ es.map (·.1), gkDep k ≤ 8) → RepL K γ G (kvs.map (·.2.1)) (es.map fun e => gkD e.1) → KPs H (kvs.map fun kv => (kv.2.1, kv.2.2)) kvs
  | [], [], _, _, _ => .nil
  | [], _ :: _, h, _, _ => by simp at h
  | _ :: _, [], h, _, _ => by simp at h
  | (k1, u1, v1) :: kvs, (k2, d2) :: es, h, hd, r => by
    simp only [List.map_cons, List.cons.injEq] at h
    obtain ⟨rfl, h⟩ := h
    simp only [List.map_cons] at r hd
    cases r with
    | cons r1 r2 => exact .cons ⟨rfl, rfl, KyA.ext e k1 (Rep.key k1 r1), hd k1 List.mem_cons_self⟩ (kps_of e h (fun k hk => hd k (List.mem_cons_of_mem _ hk)) r2)
def fMDisp (g : FMP) : FE := fun m Q Qx => g m (fun es m1 => es.length ≤ 15 ∧ Q (.tmp (.dM (mmerge [] es))) m1) Qx
theorem ve_mdisp {ks : List (Option Expr)} {vs : List Expr} {g : FMP} (hu : X.A.units + 64 < cLine) (hw : Tabs.W = X.w) (hp : VMP X W pos ks vs g) (hall : ks.all (·.isSome) = true := by rfl) (hl : ks.length = vs.length := by rfl) (h0 : ks ≠ [] := by exact fun z => by cases z) (h15 : ks.length ≤ 15 := by decide) : VE X W (.Dict ks vs pos) (fMDisp g) := by
  obtain ⟨tb, pb, sb⟩ := hp.ex
  refine ⟨⟨_, pe_mdisp hu hw pb hall hl h0 h15, fun w m Q Qx Q' s h k kx => fun p hp => ?_⟩⟩
  obtain ⟨s2, st2⟩ := s.put (o := DMo p []) hp
  have a0 : Aft X.K w m (w.put p (DMo p [])) m := ⟨s2, st2⟩
  refine sb (w.put p (DMo p [])) m _ Qx _ s2 h (fun es m1 w1 kvs e1 a1 h1 h2 r1 r2 q => ?_) (kx.aft a0 rfl)
  obtain ⟨z1, z2, z3, z4⟩ := mmerge_ok (kvs := []) (es := []) h1 h2 r1 r2 rfl gks_nil .nil .nil
  have r' : ORep X.K w1.γ w1.G (DMo p (gMerge [] kvs)) (.dM (mmerge [] es)) := .dM z1 z2 z3 z4
  obtain ⟨hH, a2, rr⟩ := write_new (d := .dM []) s hp (.dM rfl gks_nil .nil .nil) a1 e1 r'
  have hlen : kvs.length = es.length := by have := congrArg List.length h1; simpa using this
  refine ⟨hH, kvs, kps_of a1.ok.sub h1 h2 r1, by rw [hlen]; exact q.1, ?_⟩
  exact k (.tmp (.dM (mmerge [] es))) m1 (w1.put p (DMo p (gMerge [] kvs))) (.ref p) e1 a2 rr q.2
/-- d.setdefault(k, x) -/
theorem ve_msetd {apos : Pos} (hu : X.A.units + 64 < cLine) (hw : Tabs.W = X.w) (ha : VE X W a fa) (hb : VE X W b fb) (hc : VE X W c fc) (m1 : M2 X a "setdefault" apos b c pos := by exact ⟨rfl, rfl, rfl, rfl⟩) : VE X W (.Call (.Attribute a "setdefault" apos) [b, c] [] pos) (fMSetD fa fb fc) := by
  obtain ⟨ta, pa, sa⟩ := ha.ex
  obtain ⟨tb, pb, sb⟩ := hb.ex
  obtain ⟨tc, pc, sc⟩ := hc.ex
  refine ⟨⟨_, pe_msetd (by omega) hw pa pb pc m1, fun w m Q Qx Q' s h k kx => sa w m _ Qx _ s h (fun ra m1 w1 x e1 a1 r1 q1 => ?_) kx⟩⟩
  obtain ⟨d, hd, hi, q1⟩ := bindO_elim q1
  obtain ⟨p, rfl, hp⟩ := isDM_of (a1.ok.view r1 hd) hi
  refine ⟨p, rfl, hp, ?_⟩
  rw [← e1]
  refine sb w1 m1 _ Qx _ a1.ok q1 (fun rb m2 w2 y e2 a2 r2 q2 => ?_) (kx.aft a1 e1)
  rw [← e2]
  have a12 := a1.trans a2
  have e21 := e2.trans e1
  refine sc w2 m2 _ Qx _ a2.ok q2 (fun rc m3 w3 u e3 a3 r3 q3 => ?_) (kx.aft a12 e21)
  obtain ⟨⟨dd, m4⟩, hk, q3⟩ := bindO_elim q3
  obtain ⟨w4, e4, eH4, a4, r4⟩ := keep_ok a3 r3 hk
  dsimp only at q3
  obtain ⟨d, hd, q3⟩ := bindO_elim q3
  obtain ⟨e, he, q3⟩ := bindO_elim q3
  have a24 := a2.trans a4
  have e43 := e4.trans e3
  have r1' := (r1.step a2.st e2).step a4.st e43
  have r2' := r2.step a4.st e43
  obtain ⟨p', ov, o, ep, g, y1, y2, q3⟩ := mget_ok a4.ok (a4.ok.view r1' hd) (a4.ok.view r2' he) q3
  cases ep
  rw [← eH4]
  refine ⟨ov, g, fun v hv => ?_, fun hn => ?_⟩
  · cases o with
    | none => rw [y2 rfl] at hv; cases hv
    | some z =>
      obtain ⟨v', rfl, rv⟩ := y1 z rfl
      cases hv
      exact k _ m4 w4 _ (e43.trans e21) (a1.trans a24) (retFz rv) q3
  · cases o with
    | some z =>
      obtain ⟨v', rfl, rv⟩ := y1 z rfl
      cases hn
    | none =>
      obtain ⟨cc, hcc, q3⟩ := bindO_elim q3
      obtain ⟨p2, o2, ep2, h3, h4, h5⟩ := mut_ok a4.ok r1' hcc
      cases ep2
      obtain ⟨o', c', gp, ro', q3⟩ := mput_at a4.ok h3 h4 (a4.ok.view r2' he) r4 q3
      refine ⟨_, gp, ?_⟩
      have aw := h5 o' c' ro'
      exact k _ _ (w4.put p o') _ (e43.trans e21) ((a1.trans a24).trans aw) (retFz (r4.mono aw.st.gp aw.st.gg)) q3
end
end VL

set_option maxHeartbeats 4000000
/-! The value layer: == of two things that are the same tree, dicts among them. -/
namespace VL
open PySem PySem.Spec PyProof.Rows L2
open SeqAt (EqP)
section
variable {prog : Program} {w : World} {A : Around} {E : Value → Shared → Prop} {s : Shared}
abbrev EqPs (prog : Program) (w : World) (A : Around) (s : Shared) : List Value → List Value → Prop := Paired fun u v => EqP prog w A s u v true
theorem tup_tree {a b : Addr} {xs ys : Array Value} {P : Fin → Shared → Prop} (ha : s.heap.IsTuple a xs) (hb : s.heap.IsTuple b ys) (he : EqPs prog w A s xs.toList ys.toList) (h : P (.done (.ret (.bool true))) s) :
    wpAny (model prog w) A (Builtin.«tuple.__eq__» ⟨[.ref a, .ref b], []⟩) P E s := by
  obtain ⟨oa, hoa, hca, na, hda⟩ := ha
  obtain ⟨ob, hob, hcb, nb, hdb⟩ := hb
  show wpAny _ _ (isInstance (.ref b) (.type "tuple") >>= _) _ _ s; refine wpAny_bind (wpAny_isInstance (T := "tuple") ⟨ob, hob, hcb⟩ isSubtype_tuple_tuple ?_)
  simp only [Bool.not_true, Bool.false_eq_true, if_false]
  refine wpAny_bind (wpAny_tupleItemsOf hoa hda (wpAny_bind (wpAny_tupleItemsOf hob hdb (wpAny_bind ?_))))
  have hlen := Paired.length he
  refine wpAny_forIn_list _ (fun left r s' => r.1 = none ∧ s' = s ∧ ∃ us vs, left = List.zip us vs ∧ EqPs prog w A s us vs) _ ?_ ?_ _ _ ⟨rfl, rfl, _, _, rfl, he⟩
  · rintro ⟨u, v⟩ left r s' ⟨hr, rfl, us, vs, hz, hp⟩
    cases hp with
    | nil => simp at hz
    | @cons u' v' us' vs' h1 h2 =>
      simp only [List.zip_cons_cons, List.cons.injEq, Prod.mk.injEq] at hz
      obtain ⟨⟨rfl, rfl⟩, rfl⟩ := hz
      refine wpAny_bind (h1 _ _ ?_)
      simp only [Bool.not_true, Bool.false_eq_true, if_false]
      exact wpAny_pure ⟨rfl, rfl, us', vs', rfl, h2⟩
  · rintro ⟨r1, r2⟩ s' ⟨hr, rfl, _⟩
    simp only at hr
    subst hr
    refine wpAny_pure ?_
    have e : (xs.size == ys.size) = true := by
      rw [beq_iff_eq, ← Array.length_toList, ← Array.length_toList]
      exact hlen
    show P (.done (.ret (.bool (xs.size == ys.size)))) s'
    rw [e]
    exact h
theorem rcP_tups {a b : Addr} {xs ys : Array Value} {Q : Value → Shared → Prop} (hu : A.units < cLine) (ha : s.heap.IsTuple a xs) (hb : s.heap.IsTuple b ys) (he : EqPs prog w A.in1 s xs.toList ys.toList) (h : Q (.bool true) s) : wpAny (model prog w) A (richCompare .Eq (.ref a) (.ref b)) Q E s := by
  obtain ⟨oa, hoa, hca, na, hda⟩ := id ha
  obtain ⟨ob, hob, hcb, nb, hdb⟩ := id hb
  exact wpAny_richCompare_same_room (T := "tuple") (op := .Eq) ⟨oa, hoa, hca⟩ ⟨ob, hob, hcb⟩ F.slot_tuple_eq (wpAny_call_entry F.slot_tuple_eq ⟨oa, hoa, hca⟩ F.entry_tuple_eq (tup_tree ha hb he ⟨_, rfl, (fun e => nomatch e), h⟩) (F.args_tuple_eq_2 _ _)) hu
theorem tup_treeN {a b : Addr} {xs ys : Array Value} {P : Fin → Shared → Prop} (ha : s.heap.IsTuple a xs) (hb : s.heap.IsTuple b ys) (he : EqPs prog w A s xs.toList ys.toList) (h : P (.done (.ret (.bool false))) s) :
    wpAny (model prog w) A (Builtin.«tuple.__ne__» ⟨[.ref a, .ref b], []⟩) P E s := by
  obtain ⟨oa, hoa, hca, na, hda⟩ := ha
  obtain ⟨ob, hob, hcb, nb, hdb⟩ := hb
  show wpAny _ _ (isInstance (.ref b) (.type "tuple") >>= _) _ _ s; refine wpAny_bind (wpAny_isInstance (T := "tuple") ⟨ob, hob, hcb⟩ isSubtype_tuple_tuple ?_)
  simp only [Bool.not_true, Bool.false_eq_true, if_false]
  refine wpAny_bind (wpAny_tupleItemsOf hoa hda (wpAny_bind (wpAny_tupleItemsOf hob hdb (wpAny_bind ?_))))
  have hlen := Paired.length he
  refine wpAny_forIn_list _ (fun left r s' => r.1 = none ∧ s' = s ∧ ∃ us vs, left = List.zip us vs ∧ EqPs prog w A s us vs) _ ?_ ?_ _ _ ⟨rfl, rfl, _, _, rfl, he⟩
  · rintro ⟨u, v⟩ left r s' ⟨hr, rfl, us, vs, hz, hp⟩
    cases hp with
    | nil => simp at hz
    | @cons u' v' us' vs' h1 h2 =>
      simp only [List.zip_cons_cons, List.cons.injEq, Prod.mk.injEq] at hz
      obtain ⟨⟨rfl, rfl⟩, rfl⟩ := hz
      refine wpAny_bind (h1 _ _ ?_)
      simp only [Bool.not_true, Bool.false_eq_true, if_false]
      exact wpAny_pure ⟨rfl, rfl, us', vs', rfl, h2⟩
  · rintro ⟨r1, r2⟩ s' ⟨hr, rfl, _⟩
    simp only at hr
    subst hr
    refine wpAny_pure ?_
    have e : (xs.size != ys.size) = false := by
      have : xs.size = ys.size := by rw [← Array.length_toList, ← Array.length_toList]; exact hlen
      simp [this]
    show P (.done (.ret (.bool (xs.size != ys.size)))) s'
    rw [e]
    exact h
theorem rcP_tupsN {a b : Addr} {xs ys : Array Value} {Q : Value → Shared → Prop} (hu : A.units < cLine) (ha : s.heap.IsTuple a xs) (hb : s.heap.IsTuple b ys) (he : EqPs prog w A.in1 s xs.toList ys.toList) (h : Q (.bool false) s) : wpAny (model prog w) A (richCompare .NotEq (.ref a) (.ref b)) Q E s := by
  obtain ⟨oa, hoa, hca, na, hda⟩ := id ha
  obtain ⟨ob, hob, hcb, nb, hdb⟩ := id hb
  exact wpAny_richCompare_same_room (T := "tuple") (op := .NotEq) ⟨oa, hoa, hca⟩ ⟨ob, hob, hcb⟩ F.slot_tuple_ne (wpAny_call_entry F.slot_tuple_ne ⟨oa, hoa, hca⟩ F.entry_tuple_ne (tup_treeN ha hb he ⟨_, rfl, (fun e => nomatch e), h⟩) (F.args_tuple_ne_2 _ _)) hu
theorem rcP_lsts {a b : Addr} {xs ys : Array Value} {Q : Value → Shared → Prop} (hu : A.units < cLine) (ha : s.heap.IsList a xs) (hb : s.heap.IsList b ys) (he : EqPs prog w A.in1 s xs.toList ys.toList) (h : Q (.bool true) s) : wpAny (model prog w) A (richCompare .Eq (.ref a) (.ref b)) Q E s := by
  have hlen := Paired.length he
  refine SeqAt.rcP_lists (e := fun _ => true) ha hb (by rw [← Array.length_toList, ← Array.length_toList]; exact hlen) hu (fun j h1 h2 => ?_) E Q ?_
  · obtain ⟨xs⟩ := xs
    obtain ⟨ys⟩ := ys
    have key : ∀ {us vs : List Value}, EqPs prog w A.in1 s us vs → ∀ (j : Nat) (h1 : j < us.length) (h2 : j < vs.length), EqP prog w A.in1 s us[j] vs[j] true := by
      intro us vs hp
      induction hp with
      | nil => intro j h1; exact absurd h1 (Nat.not_lt_zero _)
      | cons k _ ih =>
        intro j h1 h2
        cases j with
        | zero => exact k
        | succ j => exact ih j (Nat.lt_of_succ_lt_succ h1) (Nat.lt_of_succ_lt_succ h2)
    exact key he j h1 h2
  · rw [show ((List.range xs.size).all fun _ => true) = true from List.all_eq_true.mpr fun _ _ => rfl]
    exact h
/-- two such dicts of the same keys in the same order, their values equal -/
abbrev EqEs (prog : Program) (w : World) (A : Around) (s : Shared) : List NE → List NE → Prop := Paired fun x y => x.1 = y.1 ∧ EqP prog w A s x.2.2 y.2.2 true
theorem same_mx {nm : String} {a b : Addr} {xs ys : List NE} {Q : Bool → Shared → Prop} (hu : A.units + 8 < cLine) (ha : (a == sysModules) = false) (hb : (b == sysModules) = false) (da : MixD w s.heap a xs) (db : MixD w s.heap b ys) (he : EqEs prog w A s xs ys) (h : Q true s) :
    wpAny (model prog w) A (Builtin.Dict.samePairs nm a b) Q E s := by
  obtain ⟨oa, es, ep, hoa, _, hda, na⟩ := da
  obtain ⟨ob, fs, ep', hob, _, hdb, nb⟩ := db
  have hlen := Paired.length he
  have hsz : es.size = fs.size := by rw [na.size, nb.size, hlen]
  unfold Builtin.Dict.samePairs Builtin.Dict.showsAll
  rw [if_neg (show ¬ (a == sysModules) = true by rw [ha]; exact Bool.false_ne_true), if_neg (show ¬ (b == sysModules) = true by rw [hb]; exact Bool.false_ne_true)]
  refine wpAny_bind (wpAny_pure (wpAny_bind (wpAny_pure (wpAny_bind (wpAny_dictEntries hoa hda ?_)))))
  dsimp only
  refine wpAny_bind (wpAny_dictEntries hob hdb ?_)
  rw [if_neg (by rw [hsz]; simp)]
  refine wpAny_bind (wpAny_dictEpoch hoa hda (wpAny_bind ?_))
  rw [Std.Legacy.Range.forIn_eq_forIn_range']
  simp only [Std.Legacy.Range.size, Nat.sub_zero, Nat.add_sub_cancel, Nat.div_one]
  refine wpAny_forIn_list _ (fun left q s' => s' = s ∧ q = (none, ()) ∧ ∀ i ∈ left, i < es.size) _ ?_ ?_ _ _ ⟨rfl, rfl, fun i hi => by have := (List.mem_range'_1.mp hi).2; omega⟩
  · rintro i left q s' ⟨rfl, rfl, hl⟩
    have hi := hl i List.mem_cons_self
    obtain ⟨x, hx⟩ : ∃ x, xs[i]? = some x := ⟨_, List.getElem?_eq_getElem (by rw [← na.size]; exact hi)⟩
    obtain ⟨y, hy⟩ : ∃ y, ys[i]? = some y := ⟨_, List.getElem?_eq_getElem (by rw [← nb.size, ← hsz]; exact hi)⟩
    have pr : x.1 = y.1 ∧ EqP prog w A s' x.2.2 y.2.2 true := by
      clear hlen na nb hl hi h
      induction he generalizing i with
      | nil => simp at hx
      | cons k _ ih =>
        cases i with
        | zero => simp at hx hy; subst hx hy; exact k
        | succ i => exact ih i (by simpa using hx) (by simpa using hy)
    refine wpAny_bind (wpAny_dictEntries hoa hda ?_)
    rw [na.at, hx]
    have hk := na.2.1 x (List.mem_of_getElem? hx)
    refine wpAny_bind (wpAny_holding (wpAny_bind (mx_find (k := x.1) hu hk hob hdb nb (fun z => absurd pr.1.symm (z y (List.mem_of_getElem? hy))) fun j z hj ez => ?_)))
    have e : j = i := nb.uniq hj hy (ez.trans pr.1)
    subst e
    rw [hy] at hj
    cases hj
    refine wpAny_bind (wpAny_dictEntries hob hdb ?_)
    rw [nb.at, hy]
    refine wpAny_holding (pr.2 _ _ ?_)
    show wpAny _ _ (if (!true) = true then _ else _) _ _ _; rw [if_neg (by decide)]
    refine wpAny_bind (wpAny_dictEpoch hoa hda ?_)
    rw [if_neg (by simp)]
    exact wpAny_pure ⟨rfl, rfl, fun m hm => hl m (List.mem_cons_of_mem _ hm)⟩
  · rintro q s' ⟨rfl, rfl, _⟩
    exact wpAny_pure h
theorem rcP_mx {a b : Addr} {xs ys : List NE} {Q : Value → Shared → Prop} (hu : A.units + 9 < cLine) (ha : (a == sysModules) = false) (hb : (b == sysModules) = false) (da : MixD w s.heap a xs) (db : MixD w s.heap b ys) (he : EqEs prog w A.in1 s xs ys) (h : Q (.bool true) s) :
    wpAny (model prog w) A (richCompare .Eq (.ref a) (.ref b)) Q E s := by
  refine wpAny_richCompare_same_room (op := .Eq) da.typeIs db.typeIs PySem.F.slot_dict_eq (wpAny_call_entry PySem.F.slot_dict_eq da.typeIs PySem.F.entry_dict_eq ?_ (PySem.F.args_dict_eq_2 _ _)) (by omega)
  show wpAny _ _ (Builtin.Dict.dictSlotArgs "__eq__" ⟨[.ref a, .ref b], []⟩ >>= _) _ _ s; refine wpAny_bind ?_
  unfold Builtin.Dict.dictSlotArgs
  refine wpAny_bind (wpAny_notOrdered_dict da.typeIs ?_)
  show wpAny _ _ (pure (Value.ref a, Value.ref b)) _ _ s; refine wpAny_pure (wpAny_bind (wpAny_isInstance (T := "dict") db.typeIs PySem.F.sub_dict_dict ?_))
  simp only [Bool.not_true, Bool.false_eq_true, if_false]
  refine wpAny_bind (wpAny_pure (wpAny_bind (wpAny_pure (wpAny_bind (same_mx (by rw [Around.in1_units]; omega) ha hb da db he ?_)))))
  exact wpAny_pure ⟨_, rfl, (fun x => nomatch x), by simpa using h⟩
theorem eqP_of {a b : Addr} (h : ∀ (E Q : Value → Shared → Prop), Q (.bool true) s → wpAny (model prog w) A (richCompare .Eq (.ref a) (.ref b)) Q E s) : EqP prog w A s (.ref a) (.ref b) true := by
  by_cases e : a = b
  · subst e
    exact (SeqAt.EqAt.same _).eqP
  · exact SeqAt.eqP_refs e h
end
/-- the same thing, twice -/
def SmV [Tabs] (H : Hp) : Nat → V → V → Prop
  | 0, x, y => x = y ∧ flatB x = true
  | n + 1, x, y => (x = y ∧ flatB x = true) ∨ (∃ a b xs ys, x = .ref a ∧ y = .ref b ∧ H a = some (.tup xs) ∧ H b = some (.tup ys) ∧ Paired (SmV H n) xs ys) ∨ (∃ a b xs ys, x = .ref a ∧ y = .ref b ∧ H a = some (.lst xs) ∧ H b = some (.lst ys) ∧ Paired (SmV H n) xs ys) ∨
      ∃ a b ks ls, x = .ref a ∧ y = .ref b ∧ MxH H a ks ∧ MxH H b ls ∧ Paired (fun p q => p.1 = q.1 ∧ SmV H n p.2.2 q.2.2) ks ls
section
variable [Tabs] {X : Cx} {pins : List (Addr × Obj)} {σ : L2.St} {H : Hp} {s : Shared}
theorem eqPs_of {F : V → V → Prop} {A : Around} (h : ∀ x y a b, F x y → RelV x a → RelV y b → EqP X.prog X.w A s a b true) {xs ys : List V} (hp : Paired F xs ys) : ∀ {us vs : List Value}, Vals xs us → Vals ys vs → EqPs X.prog X.w A s us vs := by
  induction hp with
  | nil => intro us vs r1 r2; cases r1; cases r2; exact .nil
  | cons k _ ih =>
    intro us vs r1 r2
    cases r1 with
    | cons a1 b1 =>
      cases r2 with
      | cons a2 b2 => exact .cons (h _ _ _ _ k a1 a2) (ih b1 b2)
theorem eqEs_of {F : V → V → Prop} {A : Around} (h : ∀ x y a b, F x y → RelV x a → RelV y b → EqP X.prog X.w A s a b true) {ks ls : List (GK × V × V)} (hp : Paired (fun p q => p.1 = q.1 ∧ F p.2.2 q.2.2) ks ls) : ∀ {us vs : List NE}, MxR ks us → MxR ls vs → EqEs X.prog X.w A s us vs := by
  induction hp with
  | nil => intro us vs r1 r2; cases r1; cases r2; exact .nil
  | cons k _ ih =>
    intro us vs r1 r2
    cases r1 with
    | cons a1 b1 =>
      cases r2 with
      | cons a2 b2 => exact .cons ⟨by rw [a1.1, a2.1, k.1], h _ _ _ _ k.2 a1.2.2 a2.2.2⟩ (ih b1 b2)
theorem smV_run (hw : Tabs.W = X.w) (I : Inv X pins σ H s) : ∀ (n : Nat) (A : Around), A.units + n + 9 < cLine → ∀ (x y : V) (a b : Value), SmV H n x y → RelV x a → RelV y b → EqP X.prog X.w A s a b true
  | 0, _, _, x, y, a, b, h, rx, ry => by
    obtain ⟨rfl, f⟩ := h
    exact (eqAt_same rx ry f).eqP
  | n + 1, A, hu, x, y, v, u, h, rx, ry => by
    have ih := smV_run hw I n A.in1 (by rw [Around.in1_units]; omega)
    rcases h with ⟨rfl, f⟩ | ⟨a, b, xs, ys, rfl, rfl, ha, hb, hp⟩ | ⟨a, b, xs, ys, rfl, rfl, ha, hb, hp⟩ | ⟨a, b, ks, ls, rfl, rfl, ma, mb, hp⟩
    · exact (eqAt_same rx ry f).eqP
    · cases (show v = Value.ref a from rx)
      cases (show u = Value.ref b from ry)
      obtain ⟨_, us, r1, p1⟩ := (show ObjOk X.prog X.w H s.heap a (.tup xs) from I.hok a _ ha)
      obtain ⟨_, vs, r2, p2⟩ := (show ObjOk X.prog X.w H s.heap b (.tup ys) from I.hok b _ hb)
      exact eqP_of fun E Q q => rcP_tups (by omega) p1 p2 (by simpa using eqPs_of ih hp r1 r2) q
    · cases (show v = Value.ref a from rx)
      cases (show u = Value.ref b from ry)
      obtain ⟨us, r1, p1, _⟩ := I.list (.inl (.inl ha))
      obtain ⟨vs, r2, p2, _⟩ := I.list (.inl (.inl hb))
      exact eqP_of fun E Q q => rcP_lsts (by omega) p1.isList p2.isList (by simpa using eqPs_of ih hp r1 r2) q
    · cases (show v = Value.ref a from rx)
      cases (show u = Value.ref b from ry)
      obtain ⟨a0, _, us, d1, r1⟩ := mx_at hw I ma
      obtain ⟨b0, _, vs, d2, r2⟩ := mx_at hw I mb
      exact eqP_of fun E Q q => rcP_mx (by omega) a0 b0 d1 d2 (eqEs_of ih hp r1 r2) q
/-- a == b, a != b of two sequences or dicts that are the same -/
def rSm (neg : Bool) : R2 := fun x y H Q => ∃ n, n ≤ 50 ∧ ((∃ a b xs ys, x = .ref a ∧ y = .ref b ∧ H a = some (.tup xs) ∧ H b = some (.tup ys) ∧ Paired (SmV H n) xs ys) ∨ (neg = false ∧ ∃ a b xs ys, x = .ref a ∧ y = .ref b ∧ H a = some (.lst xs) ∧ H b = some (.lst ys) ∧ Paired (SmV H n) xs ys) ∨
      (neg = false ∧ ∃ a b ks ls, x = .ref a ∧ y = .ref b ∧ MxH H a ks ∧ MxH H b ls ∧ Paired (fun p q => p.1 = q.1 ∧ SmV H n p.2.2 q.2.2) ks ls)) ∧ Q (.bl (!neg)) H
theorem op_sm (hu : X.A.units + 64 < cLine) (hw : Tabs.W = X.w) : OpR X (compareOp .Eq) (rSm false) := by
  intro pins s σ H x y v u Q I rx ry h
  obtain ⟨n, hn, h, q⟩ := h
  have ih := smV_run hw I n X.A.in1 (by rw [Around.in1_units]; omega)
  rcases h with ⟨a, b, xs, ys, rfl, rfl, ha, hb, hp⟩ | ⟨_, a, b, xs, ys, rfl, rfl, ha, hb, hp⟩ | ⟨_, a, b, ks, ls, rfl, rfl, ma, mb, hp⟩
  · cases (show v = Value.ref a from rx)
    cases (show u = Value.ref b from ry)
    obtain ⟨_, us, r1, p1⟩ := (show ObjOk X.prog X.w H s.heap a (.tup xs) from I.hok a _ ha)
    obtain ⟨_, vs, r2, p2⟩ := (show ObjOk X.prog X.w H s.heap b (.tup ys) from I.hok b _ hb)
    exact rcP_tups (by omega) p1 p2 (by simpa using eqPs_of ih hp r1 r2) ⟨.bl true, H, I, rfl, q⟩
  · cases (show v = Value.ref a from rx)
    cases (show u = Value.ref b from ry)
    obtain ⟨us, r1, p1, _⟩ := I.list (.inl (.inl ha))
    obtain ⟨vs, r2, p2, _⟩ := I.list (.inl (.inl hb))
    exact rcP_lsts (by omega) p1.isList p2.isList (by simpa using eqPs_of ih hp r1 r2) ⟨.bl true, H, I, rfl, q⟩
  · cases (show v = Value.ref a from rx)
    cases (show u = Value.ref b from ry)
    obtain ⟨a0, _, us, d1, r1⟩ := mx_at hw I ma
    obtain ⟨b0, _, vs, d2, r2⟩ := mx_at hw I mb
    exact rcP_mx (by omega) a0 b0 d1 d2 (eqEs_of ih hp r1 r2) ⟨.bl true, H, I, rfl, q⟩
theorem op_smN (hu : X.A.units + 64 < cLine) (hw : Tabs.W = X.w) : OpR X (compareOp .NotEq) (rSm true) := by
  intro pins s σ H x y v u Q I rx ry h
  obtain ⟨n, hn, h, q⟩ := h
  have ih := smV_run hw I n X.A.in1 (by rw [Around.in1_units]; omega)
  rcases h with ⟨a, b, xs, ys, rfl, rfl, ha, hb, hp⟩ | ⟨z, _⟩ | ⟨z, _⟩
  · cases (show v = Value.ref a from rx)
    cases (show u = Value.ref b from ry)
    obtain ⟨_, us, r1, p1⟩ := (show ObjOk X.prog X.w H s.heap a (.tup xs) from I.hok a _ ha)
    obtain ⟨_, vs, r2, p2⟩ := (show ObjOk X.prog X.w H s.heap b (.tup ys) from I.hok b _ hb)
    exact rcP_tupsN (by omega) p1 p2 (by simpa using eqPs_of ih hp r1 r2) ⟨.bl false, H, I, rfl, q⟩
  · cases z
  · cases z
end
/-- what can be compared so -/
def Sm : Nat → D → Prop
  | _, .int _ => True
  | _, .str _ => True
  | _, .bl _ => True
  | _, .non => True
  | n + 1, .tup ds => ∀ d ∈ ds, Sm n d
  | n + 1, .lst ds => ∀ d ∈ ds, Sm n d
  | n + 1, .dM es => ∀ e ∈ es, Sm n e.2
  | _, _ => False
section
variable [Tabs] {K : PySem.W.Frag} {γ : List Addr} {G H : Hp}
theorem sm_pairs {F : V → V → Prop} : ∀ {ds : List D} {xs ys : List V}, (∀ d ∈ ds, ∀ x y, Rep K γ G x d → Rep K γ G y d → F x y) → RepL K γ G xs ds → RepL K γ G ys ds → Paired F xs ys
  | [], _, _, _, .nil, .nil => .nil
  | d :: ds, _, _, h, .cons a r, .cons b q => .cons (h d List.mem_cons_self _ _ a b) (sm_pairs (fun d hd => h d (List.mem_cons_of_mem _ hd)) r q)
theorem sm_mpairs {F : V → V → Prop} : ∀ {es : List (GK × D)} {ks ls : List (GK × V × V)}, (∀ e ∈ es, ∀ x y, Rep K γ G x e.2 → Rep K γ G y e.2 → F x y) → ks.map (·.1) = es.map (·.1) → ls.map (·.1) = es.map (·.1) → RepL K γ G (ks.map (·.2.2)) (es.map (·.2)) → RepL K γ G (ls.map (·.2.2)) (es.map (·.2)) →
    Paired (fun p q => p.1 = q.1 ∧ F p.2.2 q.2.2) ks ls
  | [], [], [], _, _, _, _, _ => .nil
  | e :: es, k :: ks, l :: ls, h, h1, h2, r, q => by
    simp only [List.map_cons, List.cons.injEq] at h1 h2 r q
    cases r with
    | cons r1 r2 =>
      cases q with
      | cons q1 q2 => exact .cons ⟨h1.1.trans h2.1.symm, h e List.mem_cons_self _ _ r1 q1⟩ (sm_mpairs (fun e he => h e (List.mem_cons_of_mem _ he)) h1.2 h2.2 r2 q2)
  | [], _ :: _, _, _, h, _, _, _ => by simp at h
  | [], [], _ :: _, _, _, h, _, _ => by simp at h
  | _ :: _, [], _, _, h, _, _, _ => by simp at h
  | _ :: _, _ :: _, [], _, _, h, _, _ => by simp at h
theorem sm_rep (e : Ext G H) : ∀ (n : Nat) (d : D), Sm n d → ∀ x y, Rep K γ G x d → Rep K γ G y d → SmV H n x y := by
  intro n
  induction n with
  | zero =>
    intro d h x y r q
    cases d <;> simp only [Sm] at h <;> cases r <;> cases q <;> exact ⟨rfl, rfl⟩
  | succ n ih =>
    intro d h x y r q
    cases d <;> simp only [Sm] at h
    · cases r; cases q; exact .inl ⟨rfl, rfl⟩
    · cases r; cases q; exact .inl ⟨rfl, rfl⟩
    · cases r; cases q; exact .inl ⟨rfl, rfl⟩
    · cases r; cases q; exact .inl ⟨rfl, rfl⟩
    · cases r with
      | tup h1 r1 =>
        cases q with
        | tup h2 r2 => exact .inr (.inl ⟨_, _, _, _, rfl, rfl, e _ _ h1, e _ _ h2, sm_pairs (fun d hd x y => ih d (h d hd) x y) r1 r2⟩)
    · cases r with
      | lst h1 r1 =>
        cases q with
        | lst h2 r2 => exact .inr (.inr (.inl ⟨_, _, _, _, rfl, rfl, e _ _ h1, e _ _ h2, sm_pairs (fun d hd x y => ih d (h d hd) x y) r1 r2⟩))
    · cases r with
      | dM g1 k1 n1 r1 s1 =>
        cases q with
        | dM g2 k2 n2 r2 s2 =>
          refine .inr (.inr (.inr ⟨_, _, _, _, rfl, rfl, ⟨⟨_, e _ _ g1⟩, by rw [k1]; exact n1, ky_all e k1 r1⟩, ⟨⟨_, e _ _ g2⟩, by rw [k2]; exact n2, ky_all e k2 r2⟩, ?_⟩))
          exact sm_mpairs (F := SmV H n) (fun e he x y => ih e.2 (h e he) x y) k1 k2 s1 s2
/-- == (neg: !=) of two that are the same -/
def gSm (neg : Bool) : G2 := fun d e k => d = e ∧ (∃ n, n ≤ 50 ∧ Sm (n + 1) d) ∧ (match d with | .tup _ => True | .lst _ => neg = false | .dM _ => neg = false | _ => False) ∧ k (.fz (.bl (!neg)))
theorem smV {neg : Bool} : OpV K (rSm neg) (gSm neg) := by
  intro w m v u d e k Q' s hv hu h q
  obtain ⟨rfl, ⟨n, hn, hs⟩, hd, h⟩ := h
  refine ⟨n, hn, ?_, outFz s q (d := .bl (!neg)) (.bl _) h⟩
  cases d <;> first | exact hd.elim | skip
  · obtain ⟨a, xs, rfl, h1, r1⟩ := hv
    obtain ⟨b, ys, rfl, h2, r2⟩ := hu
    simp only [Sm] at hs
    exact .inl ⟨_, _, _, _, rfl, rfl, s.sub _ _ h1, s.sub _ _ h2, sm_pairs (fun d hd x y => sm_rep s.sub n d (hs d hd) x y) r1 r2⟩
  · obtain ⟨a, xs, rfl, h1, r1⟩ := hv
    obtain ⟨b, ys, rfl, h2, r2⟩ := hu
    simp only [Sm] at hs
    exact .inr (.inl ⟨hd, _, _, _, _, rfl, rfl, h1, h2, sm_pairs (fun d hd x y => sm_rep s.sub n d (hs d hd) x y) r1 r2⟩)
  · obtain ⟨a, b, ks, rfl, g1, k1, n1, r1, s1⟩ := hv
    obtain ⟨a', b', ls, rfl, g2, k2, n2, r2, s2⟩ := hu
    simp only [Sm] at hs
    refine .inr (.inr ⟨hd, _, _, _, _, rfl, rfl, ⟨⟨_, g1⟩, by rw [k1]; exact n1, ky_all s.sub k1 r1⟩, ⟨⟨_, g2⟩, by rw [k2]; exact n2, ky_all s.sub k2 r2⟩, ?_⟩)
    exact sm_mpairs (F := SmV w.H n) (fun e he x y => sm_rep s.sub n e.2 (hs e he) x y) k1 k2 s1 s2
end
end VL

set_option maxHeartbeats 4000000
/-! The value layer: a def that hands out what it has shared, frozen. -/
namespace VL
open PySem PySem.Spec PyProof.Rows L2
mutual
/-- the pointers from n on are what they point to -/
inductive SubR (n : Nat) (gs : List D) : D → D → Prop
  | same {d : D} : ghB n d = true → SubR n gs d d
  | gh {j : Nat} {c : D} : n ≤ j → gs[j]? = some c → SubR n gs (.gh j) c
  | tup {ds es : List D} : SubRL n gs ds es → SubR n gs (.tup ds) (.tup es)
  | lst {ds es : List D} : SubRL n gs ds es → SubR n gs (.lst ds) (.lst es)
  | dM {es fs : List (GK × D)} : es.map (·.1) = fs.map (·.1) → SubRL n gs (es.map (·.2)) (fs.map (·.2)) → SubR n gs (.dM es) (.dM fs)
inductive SubRL (n : Nat) (gs : List D) : List D → List D → Prop
  | nil : SubRL n gs [] []
  | cons {d e : D} {ds es : List D} : SubR n gs d e → SubRL n gs ds es → SubRL n gs (d :: ds) (e :: es)
end
variable [Tabs]
section
variable {K : PySem.W.Frag} {γ more : List Addr} {G G2 : Hp} {gs : List D}
mutual
theorem Rep.sub {n : Nat} (hn : n = γ.length) (e : Ext G G2) (hg : ∀ j a c, n ≤ j → (γ ++ more)[j]? = some a → gs[j]? = some c → Rep K γ G2 (.ref a) c) : ∀ {v : V} {d d' : D}, SubR n gs d d' → Rep K (γ ++ more) G v d → Rep K γ G2 v d'
  | _, _, _, .same z, r => (Rep.cutG r (by rw [← hn]; exact z)).mono (Pre.refl _) e
  | _, _, _, .gh hj hc, r => by
    cases r with
    | gh h => exact hg _ _ _ hj h hc
  | _, _, _, .tup z, r => by
    cases r with
    | tup h q => exact .tup (e _ _ h) (RepL.sub hn e hg z q)
  | _, _, _, .lst z, r => by
    cases r with
    | lst h q => exact .lst (e _ _ h) (RepL.sub hn e hg z q)
  | _, _, _, .dM k z, r => by
    cases r with
    | dM h k1 n1 q1 q2 =>
      refine .dM (e _ _ h) (k1.trans k) (by rw [← k]; exact n1) ?_ (RepL.sub hn e hg z q2)
      have := (RepL.cutG q1 (ghBL_gkm _ _)).mono (Pre.refl γ) e
      rw [show (fun e : GK × D => gkD e.1) = gkD ∘ (·.1) from rfl, ← List.map_map] at this ⊢
      rw [← k]
      exact this
theorem RepL.sub {n : Nat} (hn : n = γ.length) (e : Ext G G2) (hg : ∀ j a c, n ≤ j → (γ ++ more)[j]? = some a → gs[j]? = some c → Rep K γ G2 (.ref a) c) : ∀ {vs : List V} {ds ds' : List D}, SubRL n gs ds ds' → RepL K (γ ++ more) G vs ds → RepL K γ G2 vs ds'
  | _, _, _, .nil, r => by cases r; exact .nil
  | _, _, _, .cons z t, r => by
    cases r with
    | cons h q => exact .cons (Rep.sub hn e hg z h) (RepL.sub hn e hg t q)
end
theorem ORep.sub {n : Nat} (hn : n = γ.length) (e : Ext G G2) (hg : ∀ j a c, n ≤ j → (γ ++ more)[j]? = some a → gs[j]? = some c → Rep K γ G2 (.ref a) c) {o : HO} {d d' : D} (z : SubR n gs d d') (nd : ∀ j, d ≠ .gh j) (r : ORep K (γ ++ more) G o d) : ORep K γ G2 o d' := by
  cases z with
  | same z => exact (ORep.cutG r (by rw [← hn]; exact z)).mono (Pre.refl _) e
  | gh hj hc => exact absurd rfl (nd _)
  | tup z => cases r
  | lst z =>
    cases r with
    | lst q => exact .lst (RepL.sub hn e hg z q)
  | dM k z =>
    cases r with
    | dM k1 n1 q1 q2 =>
      refine .dM (k1.trans k) (by rw [← k]; exact n1) ?_ (RepL.sub hn e hg z q2)
      have := (RepL.cutG q1 (ghBL_gkm _ _)).mono (Pre.refl γ) e
      rw [show (fun e : GK × D => gkD e.1) = gkD ∘ (·.1) from rfl, ← List.map_map] at this ⊢
      rw [← k]
      exact this
end
/-- what leaves the def: as it is, or with its pointers frozen -/
def fzR (n : Nat) (m : M) (r r' : Ret) : Prop := (finR m n r = some r' ∧ Clean n m r') ∨ (m.gs.all (ghB n) = true ∧ ((∃ d e, finQ m r = some (.tmp d) ∧ (∀ j, d ≠ .gh j) ∧ r' = .tmp e ∧ SubR n m.gs d e) ∨ ∃ d e, finQ m r = some (.fz d) ∧ r' = .fz e ∧ SubR n m.gs d e))
def endsF (gs : List D) (Q : Ret → List D → Prop) (Qx : Xc → List D → Prop) : EndsV := ⟨fun m => Clean gs.length m (.fz .non) ∧ Q (.fz .non) (m.gs.take gs.length), fun r m => ∃ r', fzR gs.length m r r' ∧ Q r' (m.gs.take gs.length), fun _ => False, fun _ => False,
  fun xc m => Clean gs.length m (.fz (.tup (xc.fs.map (·.2)))) ∧ Qx xc (m.gs.take gs.length)⟩
def bodyF (N : Nat) (fb : FS) : FV := fun ds gs Q Qx => fb (endsF gs Q Qx) (padM N ds gs)
section
variable {K : PySem.W.Frag} {G H : Hp} {γ : List Addr} {ds gs : List D} {vs : List V} {N : List Str}
theorem frz_all {w' : Wd} {gs2 : List D} (a : Aft K (w0 G H γ) (m0 gs) (w0 w'.G w'.H γ) (m0 gs2)) : ∀ (l : List Addr), l.Nodup → (∀ b ∈ l, b ∉ γ ∧ H b = none ∧ w'.G b = none ∧ ∃ o, w'.H b = some o ∧ ∀ ps, o ≠ .tbl ps) →
    ∃ G2, Ext w'.G G2 ∧ (∀ b ∈ l, G2 b = w'.H b) ∧ (∀ b, b ∉ l → G2 b = w'.G b) ∧ Aft K (w0 G H γ) (m0 gs) (w0 G2 w'.H γ) (m0 gs2)
  | [], _, _ => ⟨w'.G, Ext.refl _, fun _ h => (by cases h), fun _ _ => rfl, a⟩
  | b :: l, nd, h => by
    obtain ⟨G2, e, h1, h2, a2⟩ := frz_all a l (List.nodup_cons.mp nd).2 fun c hc => h c (List.mem_cons_of_mem _ hc)
    obtain ⟨n1, n2, n3, o, n4, n5⟩ := h b List.mem_cons_self
    have nb := (List.nodup_cons.mp nd).1
    have hb : G2 b = none := (h2 b nb).trans n3
    have a3 := SOk.frzA (p := b) (o := o) a2 n4 hb (fun z => n1 (own_bare.mp z)) n2 n5
    refine ⟨upd G2 b o, e.trans (ext_upd hb), fun c hc => ?_, fun c hc => ?_, a3⟩
    · rcases List.mem_cons.mp hc with z | z
      · subst z; rw [upd_same, n4]
      · rw [upd_ne (show c ≠ b from fun q => nb (by rw [← q]; exact z))]; exact h1 c z
    · rw [upd_ne (show c ≠ b from fun q => hc (by rw [q]; exact List.mem_cons_self))]
      exact h2 c fun z => hc (List.mem_cons_of_mem _ z)
theorem body_frz {w' : Wd} {m' : M} (hgs : gs.length = γ.length) (a : Aft K ⟨G, H, γ, L2.start N vs⟩ (padM N.length ds gs) w' m') (hc : m'.gs.all (ghB gs.length) = true) :
    ∃ (more : List Addr) (G2 : Hp), w'.γ = γ ++ more ∧ Ext w'.G G2 ∧ Aft K (w0 G H γ) (m0 gs) (w0 G2 w'.H γ) (m0 (m'.gs.take gs.length)) ∧ (∀ j b c, gs.length ≤ j → (γ ++ more)[j]? = some b → m'.gs[j]? = some c → Rep K γ G2 (.ref b) c) ∧ ∀ b, w'.G b = none → b ∉ more → G2 b = none := by
  obtain ⟨more, eγ⟩ := a.st.gp
  have eγ : w'.γ = γ ++ more := eγ
  have c0 : Clean gs.length m' (.fz .non) := .inr ⟨List.all_eq_true.mpr fun d hd => List.all_eq_true.mp hc d (List.mem_of_mem_take hd), rfl⟩
  have nd := a.ok.gnd
  rw [eγ] at nd
  obtain ⟨nd1, nd2, nd3⟩ := List.nodup_append.mp nd
  have hlen := a.ok.gl
  have at' : ∀ b ∈ more, b ∉ γ ∧ H b = none ∧ w'.G b = none ∧ ∃ o, w'.H b = some o ∧ ∀ ps, o ≠ .tbl ps := fun b hb => by
    have hm : b ∈ w'.γ := by rw [eγ]; exact List.mem_append_right _ hb
    have nb : b ∉ γ := fun z => nd3 b z b hb rfl
    obtain ⟨j, hj⟩ := List.mem_iff_getElem?.mp hm
    have hjl : j < m'.gs.length := by rw [hlen]; exact (List.getElem?_eq_some_iff.mp hj).1
    obtain ⟨h1, o, h2, h3⟩ := a.ok.gh j b _ hj (List.getElem?_eq_getElem hjl)
    exact ⟨nb, fresh_own a (.inl hm) nb, h1, o, h2, h3.nt⟩
  obtain ⟨G2, e, h1, h2, a2⟩ := frz_all (body_end hgs a c0) more nd2 at'
  refine ⟨more, G2, eγ, e, a2, fun j b c hj hb hg => ?_, fun b hb hm => (h2 b hm).trans hb⟩
  have hm : b ∈ more := by
    rw [List.getElem?_append_right (by omega)] at hb
    exact List.mem_of_getElem? hb
  obtain ⟨q1, o, q2, q3⟩ := a.ok.gh j b c (by rw [eγ]; exact hb) hg
  rw [eγ] at q3
  have q4 : ORep K γ w'.G o c := q3.cutG (by rw [← hgs]; exact List.all_eq_true.mp hc c (List.mem_of_getElem? hg))
  exact Rep.ofO ((h1 b hm).trans q2) (q4.mono (Pre.refl _) e)
end
/-- THE RULE for such a def -/
theorem fn_okF {P : Program} {w : World} {K : PySem.W.Frag} {mg : Str → Option Value} {base : Heap} {x qual : Str} {st : Stmt} {f : Addr} {fd : FuncData} {N ps : List Str} {k : Nat} {fb : FS} (F : L2.Fun K x qual st f fd) (S : FnScope N ps (defScope st))
    (hbody : ∀ (cdv : Value) (A : Around) (outer : List Env) (s : Shared) (H : Hp) (E : XK), Room k (A.deeper (envOfC qual (defScope st) s.heap.objs.size f cdv)) → VSs (cxOf (L2.CX P w) P w K mg base N qual (defScope st) f cdv A outer s H E) (fun cls d _ H => E cls d H) (defBody st) fb) :
    FnOk P w K mg base (L2.CX P w) (k + 1) f fd ps (spV K ps.length (bodyF N.length fb)) := by
  refine F.okX S (fun vs H Q E h => spV_len h) fun cdv A outer s H vs Q E hr h => ?_
  obtain ⟨t, pt, stp⟩ := (hbody cdv A outer s H E hr).ex
  refine ⟨t, pt, ?_⟩
  obtain ⟨G, γ, ds, gs, Qr, Qe, s0, r, hl, q, k1, k2⟩ := h
  have hgs : gs.length = γ.length := s0.gl
  refine stp ⟨G, H, γ, L2.start N vs⟩ (padM N.length ds gs) _ _ (padM_ok s0 r) q ⟨fun m' w' a' q' => ?_, fun r' m' w' v a' rr q' => ?_, fun _ _ _ q' => q'.elim, fun _ _ _ q' => q'.elim, fun xc m' w' d a' x' q' => ?_⟩
  · exact k1 (.fz .non) _ w'.G w'.H .non (body_end hgs a' q'.1) .non q'.2
  · obtain ⟨r2, hz, q2⟩ := q'
    rcases hz with ⟨e2, c2⟩ | ⟨hc, hz⟩
    · exact k1 r2 _ w'.G w'.H v (body_end hgs a' c2) (body_ret hgs a' rr e2 c2) q2
    · obtain ⟨more, G2, eγ, e, a2, hg, hn⟩ := body_frz hgs a' hc
      rcases hz with ⟨d, d', e2, nd, rfl, z⟩ | ⟨d, d', e2, rfl, z⟩
      · refine k1 (.tmp d') _ G2 w'.H v a2 ?_ q2
        obtain ⟨p, o, rfl, h1, h2, h3, h4, h5⟩ := body_retG a' rr e2
        have h5 : ORep K w'.γ w'.G o d := h5
        rw [eγ] at h5
        have np : p ∉ w'.γ := fun z => h3 (own_bare.mpr z)
        exact ⟨p, o, rfl, h1, hn p h2 fun z => np (by rw [eγ]; exact List.mem_append_right _ z), fun z => np (by rw [eγ]; exact List.mem_append_left _ (own_bare.mp z)), h4, h5.sub hgs e hg z nd⟩
      · refine k1 (.fz d') _ G2 w'.H v a2 ?_ q2
        have h5 : Rep K w'.γ w'.G v d := body_retG a' rr e2
        rw [eγ] at h5
        exact Rep.sub hgs e hg z h5
  · exact k2 xc _ w'.G w'.H d (body_end hgs a' q'.1) (body_exc hgs a' q'.1 x') q'.2
end VL

set_option maxHeartbeats 4000000
/-! The value layer: raising a class with its own __init__ (one or two fields); a kept exception's field. -/
namespace VL
open PySem PySem.Spec PyProof.Rows L2
/-- an __init__ that puts its arguments into fields of these names -/
def spIni (K : PySem.W.Frag) (fl : List Str) : Sp := fun vs H Q _ => ∃ (a C : Addr) (ys : List V), vs = .ref a :: ys ∧ ys.length = fl.length ∧ H a = some (exo a C none) ∧ OexC K C ∧ (∀ f ∈ fl, PySem.W.findIn K (.ref C) f = some none) ∧
  ∀ d, H d = none → d ≠ a → Q .non (upd (upd H d (exd d (fl.zip ys).reverse)) a (exo a C (some d)))
section
variable {P : Program} {w : World} {K : PySem.W.Frag} {mg : Str → Option Value} {base : Heap} {q f1 f2 : Str} {st : Stmt} {f : Addr} {fd : FuncData}
theorem ini1 {p0 p1 p2 p3 : Pos} (F : L2.Fun K "__init__" q st f fd) (S : FnScope ["self", f1] ["self", f1] (defScope st)) (hb : defBody st = [.Assign [.Attribute (.Name "self" p0) f1 p1] (.Name f1 p2) p3])
    (hs : ∀ nm sc L c, swapsWith (.Name f1 p2) (some (.Attribute (.Name "self" p0) f1 p1)) p3.line (envOfC nm sc L f c) = pure false)
    (h1 : (f1 == ("__debug__" : Str)) = false) (h2 : (f1 == ("__classdict__" : Str)) = false) (hv : ∀ (i : Nat) (x : Str), (["self", f1] : List Str)[i]? = some x → Vis (defScope st) x) : FnOk P w K mg base (L2.CX P w) 1 f fd ["self", f1] (spIni K [f1]) := by
  refine F.okX S (fun vs H Q E h => ?_) fun cdv A outer s H vs Q E hr h => ?_
  · obtain ⟨a, C, ys, rfl, hl, _⟩ := h
    rw [List.length_cons, hl]
    rfl
  · rw [hb]
    obtain ⟨a, C, ys, rfl, hl, ha, T, hn, k⟩ := h
    obtain ⟨y, rfl⟩ : ∃ y, ys = [y] := by
      cases ys with
      | nil => cases hl
      | cons y ys => cases ys with
        | nil => exact ⟨y, rfl⟩
        | cons _ _ => cases hl
    refine ⟨_, pss_one (ps_ost (pe_var (i := 0) rfl (hv 0 _ rfl)) (pe_var (i := 1) rfl (hv 1 _ rfl) h1 h2) (hs _ _ _ _)), ?_⟩
    refine ⟨y, rfl, .ref a, rfl, a, C, rfl, T, hn f1 (by simp), .inl ⟨ha, fun dx n ne => ?_⟩⟩
    exact k dx n ne
theorem ini2 {p0 p1 p2 p3 r0 r1 r2 r3 : Pos} (F : L2.Fun K "__init__" q st f fd) (S : FnScope ["self", f1, f2] ["self", f1, f2] (defScope st)) (hb : defBody st = [.Assign [.Attribute (.Name "self" p0) f1 p1] (.Name f1 p2) p3, .Assign [.Attribute (.Name "self" r0) f2 r1] (.Name f2 r2) r3])
    (hs : ∀ nm sc L c, swapsWith (.Name f1 p2) (some (.Attribute (.Name "self" p0) f1 p1)) p3.line (envOfC nm sc L f c) = pure false) (hs2 : ∀ nm sc L c, swapsWith (.Name f2 r2) (some (.Attribute (.Name "self" r0) f2 r1)) r3.line (envOfC nm sc L f c) = pure false)
    (h1 : (f1 == ("__debug__" : Str)) = false) (h2 : (f1 == ("__classdict__" : Str)) = false) (h3 : (f2 == ("__debug__" : Str)) = false) (h4 : (f2 == ("__classdict__" : Str)) = false) (hv : ∀ (i : Nat) (x : Str), (["self", f1, f2] : List Str)[i]? = some x → Vis (defScope st) x) : FnOk P w K mg base (L2.CX P w) 1 f fd ["self", f1, f2] (spIni K [f1, f2]) := by
  refine F.okX S (fun vs H Q E h => ?_) fun cdv A outer s H vs Q E hr h => ?_
  · obtain ⟨a, C, ys, rfl, hl, _⟩ := h
    rw [List.length_cons, hl]
    rfl
  · rw [hb]
    obtain ⟨a, C, ys, rfl, hl, ha, T, hn, k⟩ := h
    obtain ⟨y, z, rfl⟩ : ∃ y z, ys = [y, z] := by
      cases ys with
      | nil => cases hl
      | cons y ys => cases ys with
        | nil => cases hl
        | cons z ys => cases ys with
          | nil => exact ⟨y, z, rfl⟩
          | cons _ _ => cases hl
    refine ⟨_, pss_cons (ps_ost (pe_var (i := 0) rfl (hv 0 _ rfl)) (pe_var (i := 1) rfl (hv 1 _ rfl) h1 h2) (hs _ _ _ _)) (pss_one (ps_ost (pe_var (i := 0) rfl (hv 0 _ rfl)) (pe_var (i := 2) rfl (hv 2 _ rfl) h3 h4) (hs2 _ _ _ _))), ?_⟩
    refine ⟨y, rfl, .ref a, rfl, a, C, rfl, T, hn f1 (by simp), .inl ⟨ha, fun dx n ne => ?_⟩⟩
    refine ⟨z, rfl, .ref a, rfl, a, C, rfl, T, hn f2 (by simp), .inr ⟨dx, [(f1, y)], upd_same, (upd_ne ne).trans upd_same, by simp, ?_⟩⟩
    have e : upd (upd (upd H dx (exd dx [(f1, y)])) a (exo a C (some dx))) dx (exd dx ((f2, z) :: [(f1, y)])) = upd (upd H dx (exd dx [(f2, z), (f1, y)])) a (exo a C (some dx)) := by
      funext b
      by_cases e1 : b = dx
      · subst e1
        rw [upd_same, upd_ne ne, upd_same]
      · rw [upd_ne e1]
        by_cases e2 : b = a
        · subst e2; rw [upd_same, upd_same]
        · rw [upd_ne e2, upd_ne e2, upd_ne e1, upd_ne e1]
    show Q .non _
    rw [e]
    exact k dx n ne
end
variable [Tabs]
/-- what the written part says of such a class -/
structure XiF (K : PySem.W.Frag) (mg : Str → Option Value) (c : Nat) (x : Str) (fl : List Str) (fI : Addr) : Prop where
  g : mg x = some (.ref (Tabs.C c))
  o : OexC K (Tabs.C c)
  no : ∀ f ∈ fl, PySem.W.findIn K (.ref (Tabs.C c)) f = some none
  i : PySem.W.findIn K (.ref (Tabs.C c)) "__init__" = some (some (.ref fI))
  t : PySem.W.typeIn K (.ref fI) = some (.type "function")
section
variable {X : Cx} {W : WX} {e : Expr} {es : List Expr} {ga : FA} {pos pos' p : Pos}
def sRaiseI (c : Nat) (fl : List Str) (ga : FA) : FS := fun E m => ga m (fun ds m1 => ds.length = fl.length ∧ E.ex ⟨c, (fl.zip ds).reverse⟩ m1) E.ex
theorem zip_rep {K : PySem.W.Frag} {γ : List Addr} {G : Hp} : ∀ {fl : List Str} {vs : List V} {ds : List D}, RepL K γ G vs ds → (fl.zip vs).map (·.1) = (fl.zip ds).map (·.1) ∧ RepL K γ G ((fl.zip vs).map (·.2)) ((fl.zip ds).map (·.2))
  | [], _, _, _ => ⟨by simp, by simpa using RepL.nil⟩
  | _ :: _, _, _, .nil => ⟨by simp, by simpa using RepL.nil⟩
  | f :: fl, _, _, .cons h r => by
    obtain ⟨z1, z2⟩ := zip_rep (fl := fl) r
    refine ⟨?_, ?_⟩
    · simp only [List.zip_cons_cons, List.map_cons, z1]
    · simp only [List.zip_cons_cons, List.map_cons]
      exact .cons h z2
theorem repl_rev {K : PySem.W.Frag} {γ : List Addr} {G : Hp} : ∀ {vs : List V} {ds : List D}, RepL K γ G vs ds → RepL K γ G vs.reverse ds.reverse
  | _, _, .nil => .nil
  | _, _, .cons h r => by
    rw [List.reverse_cons, List.reverse_cons]
    exact (repl_rev r).append (.cons h .nil)
theorem vs_raiseI {c : Nat} {x : Str} {fl ps : List Str} {fI : Addr} {fd : FuncData} (T : XiF X.K X.mg c x fl fI) (F : FnOk X.prog X.w X.K X.mg X.base (L2.CX X.prog X.w) 1 fI fd ps (spIni X.K fl)) (hr : Room 2 X.A) (hb : Binds X.K fd ps []) (hc : X.calm = true) (tk : Takes X W) (hg : Gl X x) (ha : VA X W (e :: es) ga)
    (hd : (x == ("__debug__" : Str)) = false := by decide) (he : starEach (e :: es) X.env = (false, eval e X.env) :: starEach es X.env := by rfl) (hpl : (backTo pos (starEach es X.env)).any (·.1) = false := by rfl) (hl9 : fl.length ≤ 900 := by decide) :
    VS X W (.Raise (some (.Call (.Name x p) (e :: es) [] pos)) none pos') (sRaiseI c fl ga) := by
  obtain ⟨t, pt, st⟩ := ha.ex
  refine ⟨⟨_, ps_raise hc tk (pmk_oex T.o T.i T.t F hr hb .nil (fun _ _ _ _ _ _ _ z => (cx_no z).elim) hg T.g pt hd he hpl), fun w m E D s h k => st w m _ _ _ s h (fun ds m1 w1 vs e1 a1 r1 q => ?_) k.exOk⟩⟩
  obtain ⟨hl, q⟩ := q
  have hlv : vs.length = fl.length := by rw [r1.length, hl]
  refine ⟨by omega, fun a ha => ⟨a, _, vs, by rw [List.append_nil], hlv, upd_same, T.o, T.no, fun d hd nd => ⟨rfl, d, (fl.zip vs).reverse, upd_same, (upd_ne nd).trans upd_same, ?_, ?_⟩⟩⟩
  · rw [upd_ne nd] at hd
    exact hd
  · rw [upd_ne nd] at hd
    have eH : upd (del (upd (upd (upd w1.H a (exo a (Tabs.C c) none)) d (exd d (fl.zip vs).reverse)) a (exo a (Tabs.C c) (some d))) a) d (.xd (fl.zip vs).reverse) = upd w1.H d (.xd (fl.zip vs).reverse) := by
      funext b
      by_cases e1 : b = d
      · subst e1; rw [upd_same, upd_same]
      · rw [upd_ne e1, upd_ne e1]
        by_cases e2 : b = a
        · subst e2
          rw [del_same]
          exact ha.symm
        · rw [del_ne e2, upd_ne e2, upd_ne e1, upd_ne e2]
    rw [eH]
    obtain ⟨s2, st2⟩ := a1.ok.put (o := .xd (fl.zip vs).reverse) hd
    have a2 : Aft X.K w m (w1.put d (.xd (fl.zip vs).reverse)) m1 := a1.trans ⟨s2, st2⟩
    obtain ⟨z1, z2⟩ := zip_rep (fl := fl) r1
    have := k.ex ⟨c, (fl.zip ds).reverse⟩ m1 (w1.put d (.xd (fl.zip vs).reverse)) (some d) a2 (.inr ⟨d, _, rfl, upd_same, ?_, ?_⟩) q
    · rw [show (w1.put d (.xd (fl.zip vs).reverse)).σ = w.σ from e1] at this
      exact this
    · rw [List.map_reverse, List.map_reverse, z1]
    · rw [List.map_reverse, List.map_reverse]
      exact repl_rev z2
/-- e.n of a kept exception -/
def tXfK (K : PySem.W.Frag) (n : Str) (te : TE) : TE := fun σ H Q => te σ H fun x H1 => ∃ (a C dd : Addr) (fs : List (Str × V)) (v : V), x = .ref a ∧ H1 a = some (XcO a C (some dd)) ∧ H1 dd = some (.xd fs) ∧ ExcC K C ∧ PySem.W.findIn K (.ref C) n = some none ∧ fs.lookup n = some v ∧ Q v H1
theorem pe_xfK {te : TE} {n : Str} (he : PE X e te) (hb : attributeBase e n X.env (eval e X.env) = eval e X.env := by rfl) : PE X (.Attribute e n pos) (tXfK X.K n te) := by
  refine ⟨fun pins s σ H Q I h => attr_of hb (thn (he.run pins s σ H _ I h) fun u s1 ⟨x, H1, I1, rx, a, C, dd, fs, v, ex, ha, hd, T, hno, l, q⟩ => ?_)⟩
  subst ex
  obtain rfl : u = Value.ref a := rx
  obtain ⟨oe, od, J, _, j2⟩ := xco_inst I1 ha (fun d z => by cases z; exact ⟨fs, hd⟩)
  obtain ⟨ob, rfl, ho⟩ := j2 dd rfl
  obtain ⟨mA, hns, hr⟩ := (show ObjOk X.prog X.w H1 s1.heap dd (.xd fs) from I1.hok dd _ hd)
  obtain ⟨od, ho', hl⟩ := lookIn_ns hns
  rw [ho] at ho'
  cases ho'
  obtain ⟨u, hu, ru⟩ := RelO.some_of (v := v) (o := mA n) (by rw [← l]; exact hr n)
  exact HandSPX.exc_get I1.kIn J T.hg T.hk T.hs (PySem.W.findObj_own T.hd hno rfl (by rw [hl, hu])) (handed_of ru) ⟨v, H1, I1.tok _, ru, q⟩
theorem lookup_rep {K : PySem.W.Frag} {γ : List Addr} {G : Hp} {n : Str} {y : D} : ∀ {fv : List (Str × V)} {fs : List (Str × D)}, fv.map (·.1) = fs.map (·.1) → RepL K γ G (fv.map (·.2)) (fs.map (·.2)) → fs.lookup n = some y → ∃ v, fv.lookup n = some v ∧ Rep K γ G v y
  | [], [], _, _, h => by cases h
  | [], _ :: _, h, _, _ => by simp at h
  | _ :: _, [], h, _, _ => by simp at h
  | (a, v) :: fv, (b, d) :: fs, h, r, l => by
    simp only [List.map_cons, List.cons.injEq] at h
    obtain ⟨rfl, h⟩ := h
    simp only [List.map_cons] at r
    cases r with
    | cons r1 r2 =>
      by_cases e : n = a
      · subst e
        simp [List.lookup] at l
        subst l
        exact ⟨v, by simp [List.lookup], r1⟩
      · have e' : (n == a) = false := by simpa using e
        simp only [List.lookup, e'] at l ⊢
        exact lookup_rep h r2 l
def fXfP (par : List Nat) (n : Str) (f : FE) : FE := fun m Q Qx => f m (fun r m1 => bindO (view m1 r) fun d => bindO (excOf d) fun x => (0 < x.1 ∧ x.1 < par.length) ∧ bindO (x.2.lookup n) fun y => Q (.fz y) m1) Qx
theorem ve_xf {par : List Nat} {n : Str} {f : FE} (F : XcsF X.K par) (hn : ∀ c, 0 < c → c < par.length → PySem.W.findIn X.K (.ref (Tabs.C c)) n = some none) (he : VE X W e f) (hb : attributeBase e n X.env (eval e X.env) = eval e X.env := by rfl) :
    VE X W (.Attribute e n pos) (fXfP par n f) := by
  obtain ⟨t, pt, st⟩ := he.ex
  refine ⟨⟨_, pe_xfK pt hb, fun w m Q Qx Q' s h k kx => st w m _ _ _ s h (fun r m1 w1 v e1 a1 r1 q => ?_) kx⟩⟩
  obtain ⟨d, hd, q⟩ := bindO_elim q
  obtain ⟨x, hx, ⟨x0, x1⟩, q⟩ := bindO_elim q
  obtain ⟨y, hy, q⟩ := bindO_elim q
  obtain ⟨a, o, rfl, h1, h2, h3⟩ := exc_at a1.ok (a1.ok.view r1 hd) hx
  rcases h3 with z | ⟨dd, fv, rfl, g1, g2, g3⟩
  · rw [z] at hy; cases hy
  · obtain ⟨v, hv, rv⟩ := lookup_rep g2 g3 hy
    exact ⟨a, _, dd, fv, v, rfl, h1, g1, F.ex _ x0 x1, hn _ x0 x1, hv, k _ m1 w1 _ e1 a1 (retFz rv) q⟩
end
def noFldB (K : PySem.W.Frag) (ns : List Str) (par : List Nat) (n : Str) : Bool := (List.range par.length).all fun x => decide (x = 0) || decide (PySem.W.findIn K (.ref (clsOf K ns x)) n = some none)
theorem noFld_of {K : PySem.W.Frag} {ns : List Str} {par : List Nat} {n : Str} {T : List NdefX.NTab} {L : Str → Nat → Option (Arguments × Expr × Scope)} {w : World} (h : noFldB K ns par n = true) : letI : VL.Tabs := ⟨T, L, w, clsOf K ns⟩; ∀ c, 0 < c → c < par.length → PySem.W.findIn K (.ref (Tabs.C c)) n = some none := fun c h0 h1 => by
  have z := List.all_eq_true.mp h c (List.mem_range.mpr h1)
  have n0 : decide (c = 0) = false := by simp; omega
  rw [n0, Bool.false_or] at z
  exact of_decide_eq_true z
/-- the class at a name, by its number -/
theorem cls_same {K : PySem.W.Frag} {ns : List Str} {par : List Nat} (hc : clsChk K ns par = true) (c : Nat) {x : Str} {C : Addr} (h0 : 0 < c) (h1 : c < par.length) (hx : ns.getD c "" = x) (a : PySem.W.nsIn K mainGlobals x = some (some (.ref C))) : clsOf K ns c = C := by
  have z := clsAt_eq (clsChk_at hc h0 h1).1
  rw [hx, a] at z
  cases z
  unfold clsOf
  rw [hx]
end VL

set_option maxHeartbeats 4000000
/-! The value layer: what a loop's body has shared is left behind. -/
namespace VL
open PySem PySem.Spec PyProof.Rows L2
variable [Tabs]
def keepSl (n : Nat) (s : Sl) : Sl := if slB n s then s else .no
def backM (n : Nat) (m : M) : M := ⟨m.env.map (keepSl n), m.gs.take n⟩
theorem keep_some {n i : Nat} {e : List Sl} {s : Sl} (hs : s ≠ .no) (h : (e.map (keepSl n))[i]? = some s) : e[i]? = some s ∧ slB n s = true := by
  rw [List.getElem?_map] at h
  cases z : e[i]? with
  | none => rw [z] at h; cases h
  | some x =>
    rw [z] at h
    have h : keepSl n x = s := Option.some.inj h
    unfold keepSl at h
    split at h
    · rename_i q; subst h; exact ⟨rfl, q⟩
    · exact absurd h.symm hs
theorem Aft.forget {K : PySem.W.Frag} {wz w : Wd} {mz m : M} (a : Aft K wz mz w m) (n : Nat) : Aft K wz mz w ⟨m.env.map (keepSl n), m.gs⟩ := by
  refine ⟨⟨a.ok.sub, by rw [List.length_map]; exact a.ok.len, fun i d q => a.ok.val i d (keep_some (by intro z; cases z) q).1, fun i d q => a.ok.own i d (keep_some (by intro z; cases z) q).1, fun i j d e b h1 h2 => a.ok.inj i j d e b (keep_some (by intro z; cases z) h1).1 (keep_some (by intro z; cases z) h2).1, a.ok.gl, a.ok.gh, a.ok.gnd, a.ok.tb⟩,
    ⟨a.st.gg, a.st.fr, a.st.gn, fun b h => a.st.on b ?_, a.st.al, a.st.gp⟩⟩
  rcases h with h | ⟨i, d, h1, h2⟩
  · exact .inl h
  · exact .inr ⟨i, d, (keep_some (by intro z; cases z) h1).1, h2⟩
theorem Aft.backM {K : PySem.W.Frag} {w w1 : Wd} {m m1 : M} (s : SOk K w m) (a : Aft K w m w1 m1) (h : (m1.gs.take m.gs.length).all (ghB m.gs.length) = true) : Aft K w m ⟨w1.G, w1.H, w.γ, w1.σ⟩ (backM m.gs.length m1) := by
  refine Aft.back (m1 := ⟨m1.env.map (keepSl m.gs.length), m1.gs⟩) s (a.forget _) (List.all_eq_true.mpr fun x hx => ?_) h
  obtain ⟨y, _, rfl⟩ := List.mem_map.mp hx
  unfold keepSl
  split
  · rename_i q; exact q
  · rfl
def sBackS (f : FS) : FS := fun E m => f ⟨fun m' => (m'.gs.take m.gs.length).all (ghB m.gs.length) = true ∧ E.nx (backM m.gs.length m'), E.rt, fun m' => (m'.gs.take m.gs.length).all (ghB m.gs.length) = true ∧ E.bk (backM m.gs.length m'), fun m' => (m'.gs.take m.gs.length).all (ghB m.gs.length) = true ∧ E.ct (backM m.gs.length m'), E.ex⟩ m
theorem vss_back {X : Cx} {W : WX} {st : List Stmt} {f : FS} (h : VSs X W st f) : VSs X W st (sBackS f) := by
  obtain ⟨t, pt, ht⟩ := h.ex
  refine ⟨⟨t, pt, fun w m E D s hh k => ht w m _ D s hh ⟨fun m' w' a q => ?_, k.rt, fun m' w' a q => ?_, fun m' w' a q => ?_, k.ex⟩⟩⟩
  · exact k.nx _ ⟨w'.G, w'.H, w.γ, w'.σ⟩ (Aft.backM s a q.1) q.2
  · exact k.bk _ ⟨w'.G, w'.H, w.γ, w'.σ⟩ (Aft.backM s a q.1) q.2
  · exact k.ct _ ⟨w'.G, w'.H, w.γ, w'.σ⟩ (Aft.backM s a q.1) q.2
/-- a def that makes defs and leaves what it has shared -/
theorem fn_okCG {P : Program} {w : World} {K : PySem.W.Frag} {mg : Str → Option Value} {base : Heap} {x qual : Str} {st : Stmt} {f : Addr} {fd : FuncData} {N ps : List Str} {k : Nat} {fb : List (Str × Addr) → FS} {g : FV} {cc : Value} (F : L2.Fun K x qual st f fd) (S : FnScope N ps (defScope st))
    (hcc : ∀ o fd', K.lookup f = some o → o.data = .func fd' → fd'.code = cc)
    (hbody : ∀ (A : Around) (outer : List Env) (s : Shared) (H : Hp) (E : XK), Room k (A.deeper (envOfC qual (defScope st) s.heap.objs.size f cc)) → VSs (cxOf (L2.CX P w) P w K mg base N qual (defScope st) f cc A outer s H E) (fun cls d _ H => E cls d H) (defBody st) (fb (cxOf (L2.CX P w) P w K mg base N qual (defScope st) f cc A outer s H E).env.cells))
    (hg : ∀ cs ds gs Q Qe, g ds gs Q Qe → bodyG N.length (fb cs) ds gs Q Qe) : FnOk P w K mg base (L2.CX P w) (k + 1) f fd ps (spV K ps.length g) := by
  obtain ⟨oc, od, kV, doc, pm, an, cdv, ct, osl, rfl, lk, hcd⟩ := F.ex
  have ecc : cdv = cc := hcc _ _ lk rfl
  subst ecc
  refine fn_of lk hcd S (fun vs H Q E h => spV_len h) fun A outer s H vs Q E hr h => ?_
  obtain ⟨t, pt, stp⟩ := (hbody A outer s H E hr).ex
  refine ⟨t, pt, ?_⟩
  obtain ⟨G, γ, ds, gs, Qr, Qe, s0, r, hl, q, k1, k2⟩ := spV_imp (hg (cxOf (L2.CX P w) P w K mg base N qual (defScope st) f cdv A outer s H E).env.cells) h
  refine stp ⟨G, H, γ, L2.start N vs⟩ (padM N.length ds gs) _ _ (padM_ok s0 r) q ⟨fun m' w' a' q' => ?_, fun r' m' w' v a' rr q' => ?_, fun _ _ _ q' => q'.elim, fun _ _ _ q' => q'.elim, fun xc m' w' d a' x' q' => ?_⟩
  · exact k1 (.fz .non) _ w'.G w'.H .non (body_endG a') .non q'
  · obtain ⟨r2, e2, q2⟩ := bindO_elim q'
    exact k1 r2 _ w'.G w'.H v (body_endG a') (body_retG a' rr e2) q2
  · exact k2 xc _ w'.G w'.H d (body_endG a') x' q'
/-! list.index of a text -/
section
variable {X : Cx} {W : WX} {a b : Expr} {fa : FE} {gb : FA} {pos : Pos}
def fIdxS (fa : FE) (gb : FA) : FE := fun m Q Qx => fa m (fun ra m1 => bindO (view m1 ra) fun d0 => bindO (lstOf d0) fun _ => gb m1 (fun es m2 => match es with
  | [.str i] => bindO (view m2 ra) fun d => bindO (lstOf d) fun ds => bindO (toStrs ds) fun ns => ∃ j : Nat, ns[j]? = some i ∧ (∀ (q : Nat) (z : Str), q < j → ns[q]? = some z → z ≠ i) ∧ Q (.fz (.int (j : Nat))) m2
  | _ => False) Qx) Qx
theorem ve_idxS {apos : Pos} (ha : VE X W a fa) (hb : VA X W [b] gb)
    (hbase : attributeBase a "index" X.env (eval a X.env) = eval a X.env := by rfl)
    (hfew : ((backTo pos (starEach [b] X.env)).all (fun x => !x.1) && (backToKw pos (keywordEach [] X.env)).all (fun x => x.1.isSome)
      && decide ([b].length + ([] : List Keyword).length + (if ([] : List Keyword).isEmpty then 0 else 1) < 30)) = true := by rfl)
    (hline : (apos.endLine == pos.line) = true := by rfl) (hs : starEach [b] X.env = (false, eval b X.env) :: starEach [] X.env := by rfl) (hplain : (backTo pos (starEach [] X.env)).any (·.1) = false := by rfl) :
    VE X W (.Call (.Attribute a "index" apos) [b] [] pos) (fIdxS fa gb) := by
  obtain ⟨ta, p1, sa⟩ := ha.ex
  obtain ⟨tb, p2, sb⟩ := hb.ex
  refine ⟨⟨_, pe_bm PySem.F.plainAttrs_list PySem.F.slot_list_index PySem.F.type_list_index mt_index p1 p2 hbase hfew hline hs hplain, fun w m Q Qx Q' s h k kx => ?_⟩⟩
  refine sa w m _ Qx _ s h (fun ra m1 w1 v e1 a1 r1 q => ?_) kx
  obtain ⟨d0, hd0, q⟩ := bindO_elim q
  obtain ⟨ds0, hds0, q⟩ := bindO_elim q
  obtain ⟨p, xs, rfl, hq, rr⟩ := lst_at a1.ok (a1.ok.view r1 hd0) hds0
  refine ⟨.inl ⟨rfl, xs, hq⟩, ?_⟩
  rw [← e1]
  refine sb w1 m1 _ Qx _ a1.ok q (fun es m2 w2 vs e2 a2 r2 q => ?_) (kx.aft a1 e1)
  split at q
  rotate_left
  · exact q.elim
  rename_i i
  obtain ⟨d, hd, q⟩ := bindO_elim q
  obtain ⟨ds, hds, q⟩ := bindO_elim q
  obtain ⟨ns, hns, q⟩ := bindO_elim q
  obtain ⟨p', ys, ev, hq2, rr2⟩ := lst_at a2.ok (a2.ok.view (r1.step a2.st e2) hd) hds
  cases ev
  rw [toStrs_of hns] at rr2
  rw [rep_strs rr2] at hq2
  obtain ⟨j, h1, h2, q⟩ := q
  cases r2 with
  | cons rv rn =>
    cases rn
    cases rv
    refine ⟨p, ns.map .str, .str i, j, .str i, rfl, rfl, hq2, rfl, by simp [flatV], by rw [List.getElem?_map, h1]; rfl, by simp [eqV], fun q' z' hl hz => ?_, k _ m2 w2 _ (e2.trans e1) (a1.trans a2) (retFz (.int _)) q⟩
    rw [List.getElem?_map] at hz
    cases e : ns[q']? with
    | none => rw [e] at hz; cases hz
    | some z =>
      rw [e] at hz
      cases hz
      have := h2 q' z hl e
      simpa [eqV] using this
end
end VL

set_option maxHeartbeats 4000000
/-! The value layer: an exception leaves a def that was handed a closure. -/
namespace VL
open PySem PySem.Spec PyProof.Rows L2 NdefX LamX
variable [Tabs]
/-- the cells, laid for a call, are taken out behind an exception -/
theorem cx_show {P : Program} {w : World} {outer : List Env} {s s' : Shared} {S : List Addr} {C H : Hp} {E E' : XK} {u : Value} (hS : ∀ b ∈ S, H b = none) (hC : ∀ b ∈ S, ∃ o, C b = some (HO.cell o) ∧ s.heap.get? b = some o) (hF : ∀ b ∈ S, b ∉ frs outer) (x : L2.CX P w outer (mix S C H) s E' u s')
    (hE : ∀ cls d H', (∀ b ∈ S, H' b = C b) → E' cls d H' → E cls d (mix S emp H')) : L2.CX P w outer H s E u s' := by
  obtain ⟨a, B, H', cls, d, hu, fl, hok, un, na, os, ag, e⟩ := x
  have st : ∀ b ∈ S, H' b = C b := fun b hb => by
    obtain ⟨o, e, _⟩ := hC b hb
    rw [e]
    exact un.frzs b _ _ ((mix_in hb).trans e)
  have hc : ∀ b ∈ S, ∃ o, H' b = some (HO.cell o) := fun b hb => let ⟨o, e, _⟩ := hC b hb; ⟨o, (st b hb).trans e⟩
  have out : ∀ {b : Addr} {o : HO}, H b = some o → b ∉ S := fun {b o} e z => by rw [hS b z] at e; cases e
  refine ⟨a, B, mix S emp H', cls, d, hu, fl, hok_mix hok (fun b hb => .inr (hc b hb)) (fun b hb => .inl rfl), ⟨fun b o g n f => ?_, fun b o g f => ?_, fun b o g n => ?_, un.there, fun b xs e => ?_, fun b o z e => ?_, fun b ps e => ?_⟩, ?_, os, ag, hE cls d H' st e⟩
  · by_cases hb : b ∈ S
    · obtain ⟨o', e, g'⟩ := hC b hb
      obtain ⟨z, _⟩ := hok b _ ((st b hb).trans e)
      rw [g] at g'; cases g'
      exact z
    · exact un.keep b o g ((mix_out hb).trans n) f
  · exact un.slot b o g f
  · by_cases hb : b ∈ S
    · exact mix_in hb
    · exact (mix_out hb).trans (un.free b o g ((mix_out hb).trans n))
  · exact (mix_out (out e)).trans (un.tups b xs ((mix_out (out e)).trans e))
  · exact (mix_out (out e)).trans (un.frzs b o z ((mix_out (out e)).trans e))
  · obtain ⟨more, z⟩ := un.tbls b ps ((mix_out (out e)).trans e)
    exact ⟨more, (mix_out (out e)).trans z⟩
  · by_cases hb : a ∈ S
    · exact mix_in hb
    · exact (mix_out hb).trans na
def tCallCX (cells : List (Str × Addr)) (sc : Scope) (N : List Str) (sp : Sp) (t : TA) (W : WX) : TE := fun σ H Q => t σ H fun vs H1 => ∀ C : Hp, CmOk cells sc N σ C → (∀ b ∈ cellL cells, H1 b = none) →
  sp vs (mix (cellL cells) C H1) (fun v H' => (∀ b ∈ cellL cells, H' b = C b) → Q v (mix (cellL cells) emp H')) fun cls d H' => (∀ b ∈ cellL cells, H' b = C b) → W cls d σ (mix (cellL cells) emp H')
section
variable {X : Cx} {W : WX}
theorem pe_callCX {k : Nat} {f : Addr} {fd : FuncData} {ps : List Str} {sp : Sp} {x : Str} {e : Expr} {es : List Expr} {p pos : Pos} {t : TA} (F : FnOk X.prog X.w X.K X.mg X.base (L2.CX X.prog X.w) k f fd ps sp) (hr : Room k X.A) (hg : Gl X x) (hm : X.mg x = some (.ref f)) (hk : PySem.W.keepIn X.K (.ref f) = true)
    (hb : Binds X.K fd ps []) (hfn : ∀ x, X.fn x = true) (tk : Takes X W) (ha : PA X (e :: es) t) (hdb : (x == ("__debug__" : Str)) = false := by decide)
    (he : starEach (e :: es) X.env = (false, eval e X.env) :: starEach es X.env := by rfl) (hpl : (backTo pos (starEach es X.env)).any (·.1) = false := by rfl) :
    PE X (.Call (.Name x p) (e :: es) [] pos) (tCallCX X.env.cells X.env.scope X.N sp t W) := by
  refine ⟨fun pins s σ H Q I hh => ?_⟩
  refine wpAny_Call_Name_kw (ld_glob I hg hm ?_ hdb)
  refine PySem.W.callWith_K (h₀ := X.base) I.ok.mod.kin hk (thn (ha.run pos pins s σ H _ I hh) fun us s1 ⟨vs, H1, J, r, q⟩ => ⟨J.kIn, ?_⟩) he hpl
  have hno : ∀ b ∈ cellL X.env.cells, H1 b = none := fun b hb => let ⟨y, hy⟩ := mem_cellL.mp hb; J.freeC y b hy
  have q := q _ (cells_cm J) hno
  have hl : us.length = ps.length := by rw [← r.length]; exact F.len _ _ _ _ q
  have hcell : ∀ b ∈ cellL X.env.cells, ∃ o, ((s1.heap.get? b).map HO.cell) = some (HO.cell o) ∧ s1.heap.get? b = some o := fun b hb => by
    obtain ⟨y, hy⟩ := mem_cellL.mp hb
    obtain ⟨v, o, g, d⟩ := J.cell y b hy
    exact ⟨o, by rw [g]; rfl, g⟩
  have e0 := env_mix (C := fun b => (s1.heap.get? b).map HO.cell) J.env0 (fun b hb => .inl (hno b hb)) (fun b hb => .inr (hcell b hb)) fun b hb => .inr (cell_fresh J hfn hb)
  have bd := hb s1 us J.kIn (by rw [List.append_nil]; exact hl)
  rw [List.append_nil] at bd
  refine wpAny_call (codeAny_mono (F.run X.A X.stack s1 _ ⟨us, []⟩ us vs _ _ hr e0 bd r q) fun rs s' hq => ?_)
  cases rs with
  | error e => exact passAt tk σ _ _ _ _ _ J (cx_show hno hcell (fun b hb => (cell_fresh J hfn hb).2) hq fun _ _ _ h1 h2 => h2 h1)
  | ok fl =>
    cases fl with
    | ret u => exact J.after (ce_show hno hcell (fun b hb => (cell_fresh J hfn hb).2) hq fun v H' h1 h2 => h2 h1)
    | next => exact False.elim hq
    | brk => exact False.elim hq
    | cont => exact False.elim hq
/-- f(.., g, ..), g a def made here; an exception may leave f -/
def fCallCX (n : Nat) (g : FV) (cs : List (Str × Addr)) (tbl : List (Str × Nat × List Nat)) (ga : FA) : FE := fun m Q Qx => ga m (fun ds m1 => FnsAt cs ds ∧ bindO (convL tbl m1 ds) fun ds' => ds'.length = n ∧ g ds' m1.gs (fun r gs' => noR r = true ∧ noCL gs' = true ∧ Q r ⟨m1.env, gs'⟩) fun xc gs' => noCL (xc.fs.map (·.2)) = true ∧ noCL gs' = true ∧ Qx xc ⟨m1.env, gs'⟩) Qx
theorem ve_callCX {k n : Nat} {f : Addr} {fd : FuncData} {ps : List Str} {g : FV} {x : Str} {p pos : Pos} {e : Expr} {es : List Expr} {ga : FA} {tbl : List (Str × Nat × List Nat)} (F : FnOk X.prog X.w X.K X.mg X.base (L2.CX X.prog X.w) k f fd ps (spV X.K n g)) (hr : Room k X.A) (hg : Gl X x) (hm : X.mg x = some (.ref f)) (hk : PySem.W.keepIn X.K (.ref f) = true) (hb : Binds X.K fd ps [])
    (hfn : ∀ x, X.fn x = true) (tk : Takes X W) (T : TblOk X tbl) (ha : VA X W (e :: es) ga) (hdb : (x == ("__debug__" : Str)) = false := by decide)
    (he : starEach (e :: es) X.env = (false, eval e X.env) :: starEach es X.env := by rfl) (hpl : (backTo pos (starEach es X.env)).any (·.1) = false := by rfl) :
    VE X W (.Call (.Name x p) (e :: es) [] pos) (fCallCX n g X.env.cells tbl ga) := by
  obtain ⟨t, pt, st⟩ := ha.ex
  refine ⟨⟨_, pe_callCX F hr hg hm hk hb hfn tk pt hdb he hpl, fun w m Q Qx Q' s h k kx => ?_⟩⟩
  refine st w m _ Qx _ s h (fun ds m1 w1 vs e1 a1 r1 q => ?_) kx
  intro C cm hS
  obtain ⟨qf, q⟩ := q
  obtain ⟨ds', hc, hl, q⟩ := bindO_elim q
  have s1 := a1.ok
  rw [← e1] at cm
  have cg := fun b (hb : b ∈ cellL X.env.cells) => mem_cellL.mp hb
  have hC : ∀ b ∈ cellL X.env.cells, ∃ o, C b = some (HO.cell o) := fun b hb => by
    obtain ⟨y, hy⟩ := cg b hb
    obtain ⟨o, v, z, _⟩ := cm.at_ y b hy
    exact ⟨o, z⟩
  have rd := convL_ok s1 rfl T cm hS r1 qf hc
  have exG := lay_ext (C := C) s1.sub hS
  have exH : Ext w1.H (mix (cellL X.env.cells) C w1.H) := fun b o e => (mix_out fun z => by rw [hS b z] at e; cases e).trans e
  have nS : ∀ {b : Addr} {o : HO}, w1.H b = some o → b ∉ cellL X.env.cells := fun {b o} e z => by rw [hS b z] at e; cases e
  have b1 := s1.bare
  have s2 : SOk X.K (w0 (mix (cellL X.env.cells) C w1.G) (mix (cellL X.env.cells) C w1.H) w1.γ) (m0 m1.gs) := by
    refine ⟨fun b o e => ?_, rfl, fun i d h => by simp [m0] at h, fun i d h => by simp [m0] at h, fun i j d e a h => by simp [m0] at h, s1.gl, fun j b d h1 h2 => ?_, s1.gnd, s1.tb.1.ext exH, fun b ps e => ?_⟩
    · have e : mix (cellL X.env.cells) C w1.G b = some o := e
      show mix (cellL X.env.cells) C w1.H b = some o
      by_cases hb : b ∈ cellL X.env.cells
      · rw [mix_in hb] at e ⊢; exact e
      · rw [mix_out hb] at e ⊢; exact s1.sub b o e
    · obtain ⟨e2, o, e3, e4⟩ := s1.gh j b d h1 h2
      exact ⟨(mix_out (nS e3)).trans e2, o, exH b o e3, e4.mono (Pre.refl _) exG⟩
    · have e : mix (cellL X.env.cells) C w1.G b = some (.tbl ps) := e
      by_cases hb : b ∈ cellL X.env.cells
      · rw [mix_in hb] at e
        obtain ⟨o, z⟩ := hC b hb
        rw [z] at e; cases e
      · rw [mix_out hb] at e; exact s1.tb.2 b ps e
  refine ⟨_, w1.γ, ds', m1.gs, _, _, s2, rd, hl, q, fun {γ'} r gs' G' H' v a2 r2 q2 hH => ?_, fun {γ'} xc gs' G' H' d a2 x2 q2 hH => ?_⟩
  · obtain ⟨n1, n2, q2⟩ := q2
    have cS : Cells (cellL X.env.cells) G' := fun b hb => by
      rcases none_or (G' b) with z | ⟨o, z⟩
      · exact .inl z
      · have y := a2.ok.sub b o z
        have y : H' b = some o := y
        rw [hH b hb] at y
        obtain ⟨o', z'⟩ := hC b hb
        rw [z'] at y; cases y
        exact .inr ⟨o', z⟩
    have cSH : Cells (cellL X.env.cells) H' := fun b hb => by
      obtain ⟨o', z'⟩ := hC b hb
      exact .inr ⟨o', (hH b hb).trans z'⟩
    have a3 : Aft X.K (w0 w1.G w1.H w1.γ) (m0 m1.gs) (w0 (mix (cellL X.env.cells) emp G') (mix (cellL X.env.cells) emp H') γ') (m0 gs') := by
      refine ⟨⟨fun b o e => ?_, rfl, fun i d h => by simp [m0] at h, fun i d h => by simp [m0] at h, fun i j d e a h => by simp [m0] at h, a2.ok.gl, fun j b d h1 h2 => ?_, a2.ok.gnd, tabs_out cSH a2.ok.tb.1, fun b ps e => ?_⟩, ⟨fun b o e => ?_, fun b o e n t => ?_, fun b o e => ?_, fun b e => ?_, fun b o e => ?_, a2.st.gp⟩⟩
      · have e : mix (cellL X.env.cells) emp G' b = some o := e
        show mix (cellL X.env.cells) emp H' b = some o
        by_cases hb : b ∈ cellL X.env.cells
        · rw [mix_in hb] at e; cases e
        · rw [mix_out hb] at e ⊢; exact a2.ok.sub b o e
      · obtain ⟨e2, o, e3, e4⟩ := a2.ok.gh j b d h1 h2
        have e3 : H' b = some o := e3
        have hb : b ∉ cellL X.env.cells := fun z => by
          obtain ⟨o', z'⟩ := hC b z
          rw [hH b z, z'] at e3; cases e3
          cases e4
        exact ⟨(mix_out hb).trans e2, o, (mix_out hb).trans e3, e4.out cS (noCL_mem n2 (List.mem_of_getElem? h2))⟩
      · have e : mix (cellL X.env.cells) emp G' b = some (.tbl ps) := e
        by_cases hb : b ∈ cellL X.env.cells
        · rw [mix_in hb] at e; cases e
        · rw [mix_out hb] at e; exact a2.ok.tb.2 b ps e
      · have hb : b ∉ cellL X.env.cells := nS (s1.sub b o e)
        exact (mix_out hb).trans (a2.st.gg b o (exG b o e))
      · have hb := nS e
        exact (mix_out hb).trans (a2.st.fr b o (exH b o e) (fun z => n (own_bare.mpr (own_bare.mp z))) t)
      · have e : mix (cellL X.env.cells) emp G' b = some o := e
        by_cases hb : b ∈ cellL X.env.cells
        · rw [mix_in hb] at e; cases e
        · rw [mix_out hb] at e
          rcases a2.st.gn b o e with z | z | z | ⟨u, z, zu⟩
          · exact .inl ((mix_out hb).symm.trans z)
          · exact .inr (.inl (own_bare.mpr (own_bare.mp z)))
          · exact .inr (.inr (.inl ((mix_out hb).symm.trans z)))
          · exact .inr (.inr (.inr ⟨u, (mix_out hb).symm.trans z, zu⟩))
      · rcases a2.st.on b (own_bare.mpr (own_bare.mp e)) with z | z
        · exact .inl (own_bare.mpr (own_bare.mp z))
        · refine .inr ?_
          rcases none_or (w1.H b) with y | ⟨o, y⟩
          · exact y
          · have := exH b o y
            have z : mix (cellL X.env.cells) C w1.H b = none := z
            rw [z] at this; cases this
      · obtain ⟨o', z⟩ := a2.st.al b o (exH b o e)
        exact ⟨o', (mix_out (nS e)).trans z⟩
    have r3 : RetOk X.K w1.H (w0 (mix (cellL X.env.cells) emp G') (mix (cellL X.env.cells) emp H') γ') (m0 gs') v r := by
      cases r with
      | fz d => exact Rep.out cS r2 n1
      | tmp d =>
        obtain ⟨b, o, rfl, h1, h2, h3, h4, h5⟩ := r2
        have hb : b ∉ cellL X.env.cells := fun z => by
          obtain ⟨o', z'⟩ := hC b z
          have y : mix (cellL X.env.cells) C w1.H b = none := h1
          rw [mix_in z, z'] at y; cases y
        exact ⟨b, o, rfl, (mix_out hb).symm.trans h1, (mix_out hb).trans h2, fun z => h3 (own_bare.mpr (own_bare.mp z)), (mix_out hb).trans h4, h5.out cS n1⟩
      | sl i => cases n1
    exact k r ⟨m1.env, gs'⟩ ⟨_, _, γ', w1.σ⟩ v e1 (a1.trans (call_back s1 a3)) ((ret_back s1 r3).from fun _ z => a1.st.back z) q2
  · obtain ⟨n1, n2, q2⟩ := q2
    have cS : Cells (cellL X.env.cells) G' := fun b hb => by
      rcases none_or (G' b) with z | ⟨o, z⟩
      · exact .inl z
      · have y := a2.ok.sub b o z
        have y : H' b = some o := y
        rw [hH b hb] at y
        obtain ⟨o', z'⟩ := hC b hb
        rw [z'] at y; cases y
        exact .inr ⟨o', z⟩
    have cSH : Cells (cellL X.env.cells) H' := fun b hb => by
      obtain ⟨o', z'⟩ := hC b hb
      exact .inr ⟨o', (hH b hb).trans z'⟩
    have a3 : Aft X.K (w0 w1.G w1.H w1.γ) (m0 m1.gs) (w0 (mix (cellL X.env.cells) emp G') (mix (cellL X.env.cells) emp H') γ') (m0 gs') := by
      refine ⟨⟨fun b o e => ?_, rfl, fun i d h => by simp [m0] at h, fun i d h => by simp [m0] at h, fun i j d e a h => by simp [m0] at h, a2.ok.gl, fun j b d h1 h2 => ?_, a2.ok.gnd, tabs_out cSH a2.ok.tb.1, fun b ps e => ?_⟩, ⟨fun b o e => ?_, fun b o e n t => ?_, fun b o e => ?_, fun b e => ?_, fun b o e => ?_, a2.st.gp⟩⟩
      · have e : mix (cellL X.env.cells) emp G' b = some o := e
        show mix (cellL X.env.cells) emp H' b = some o
        by_cases hb : b ∈ cellL X.env.cells
        · rw [mix_in hb] at e; cases e
        · rw [mix_out hb] at e ⊢; exact a2.ok.sub b o e
      · obtain ⟨e2, o, e3, e4⟩ := a2.ok.gh j b d h1 h2
        have e3 : H' b = some o := e3
        have hb : b ∉ cellL X.env.cells := fun z => by
          obtain ⟨o', z'⟩ := hC b z
          rw [hH b z, z'] at e3; cases e3
          cases e4
        exact ⟨(mix_out hb).trans e2, o, (mix_out hb).trans e3, e4.out cS (noCL_mem n2 (List.mem_of_getElem? h2))⟩
      · have e : mix (cellL X.env.cells) emp G' b = some (.tbl ps) := e
        by_cases hb : b ∈ cellL X.env.cells
        · rw [mix_in hb] at e; cases e
        · rw [mix_out hb] at e; exact a2.ok.tb.2 b ps e
      · have hb : b ∉ cellL X.env.cells := nS (s1.sub b o e)
        exact (mix_out hb).trans (a2.st.gg b o (exG b o e))
      · have hb := nS e
        exact (mix_out hb).trans (a2.st.fr b o (exH b o e) (fun z => n (own_bare.mpr (own_bare.mp z))) t)
      · have e : mix (cellL X.env.cells) emp G' b = some o := e
        by_cases hb : b ∈ cellL X.env.cells
        · rw [mix_in hb] at e; cases e
        · rw [mix_out hb] at e
          rcases a2.st.gn b o e with z | z | z | ⟨u, z, zu⟩
          · exact .inl ((mix_out hb).symm.trans z)
          · exact .inr (.inl (own_bare.mpr (own_bare.mp z)))
          · exact .inr (.inr (.inl ((mix_out hb).symm.trans z)))
          · exact .inr (.inr (.inr ⟨u, (mix_out hb).symm.trans z, zu⟩))
      · rcases a2.st.on b (own_bare.mpr (own_bare.mp e)) with z | z
        · exact .inl (own_bare.mpr (own_bare.mp z))
        · refine .inr ?_
          rcases none_or (w1.H b) with y | ⟨o, y⟩
          · exact y
          · have := exH b o y
            have z : mix (cellL X.env.cells) C w1.H b = none := z
            rw [z] at this; cases this
      · obtain ⟨o', z⟩ := a2.st.al b o (exH b o e)
        exact ⟨o', (mix_out (nS e)).trans z⟩
    have x3 : XRep X.K (w0 (mix (cellL X.env.cells) emp G') (mix (cellL X.env.cells) emp H') γ') xc d := by
      rcases x2 with h | ⟨dd, fv, h1, h2, h3, h4⟩
      · exact .inl h
      · have hb : dd ∉ cellL X.env.cells := fun z => by
          obtain ⟨o', z'⟩ := hC dd z
          have h2 : H' dd = some (.xd fv) := h2
          rw [hH dd z, z'] at h2; cases h2
        exact .inr ⟨dd, fv, h1, (mix_out hb).trans h2, h3, h4.out cS n1⟩
    have z := kx xc ⟨m1.env, gs'⟩ ⟨mix (cellL X.env.cells) emp G', mix (cellL X.env.cells) emp H', γ', w1.σ⟩ d e1 (a1.trans (call_back s1 a3)) x3 q2
    show W _ d w.σ _
    rw [← e1]
    exact z
end
end VL

set_option maxHeartbeats 4000000
/-! The value layer: several clauses of a try. -/
namespace VL
open PySem PySem.Spec PyProof.Rows L2
structure Cl where
  x : Str
  n : Str
  np : Pos
  pos : Pos
  b₀ : Stmt
  suite : List Stmt
  c : Value
  i : Nat
  ts : TS
def Cl.h (l : Cl) : ExceptHandler := .ExceptHandler (some (.Name l.x l.np)) (some l.n) (l.b₀ :: l.suite) l.pos
def Cl.Ok (X : Cx) (l : Cl) : Prop := X.N[l.i]? = some l.n ∧ X.env.kindOf l.n = some .local ∧ Names X l.x l.c ∧ ∀ (a : Addr) (pn : List (Addr × Obj)), PSs (X.suite a pn) (l.b₀ :: l.suite) l.ts
def wKeptL (K : PySem.W.Frag) (Wout : WX) (D : Ends) : List Cl → WX
  | [] => Wout
  | l :: r => fun cls d σ H => ∃ (b : Bool) (C : Addr), cls = .ref C ∧ PySem.W.exmOne K cls l.c = some b ∧
    (b = true → ∀ a, H a = none → l.ts ⟨fun σ' H' => D.nx (σ'.set l.i none) H', D.rt, fun σ' H' => D.bk (σ'.set l.i none) H', fun σ' H' => D.ct (σ'.set l.i none) H'⟩ (σ.set l.i (some (.ref a))) (upd H a (XcO a C d))) ∧ (b = false → wKeptL K Wout D r cls d σ H)
section
variable {X : Cx} {pins : List (Addr × Obj)} {σ' : L2.St} {H' : Hp} {s' sI : Shared} {B : Heap} {Wout : WX} {D : Ends} {a C : Addr} {d : Option Addr} {h3 : Heap}
theorem hand_ok (hs : X.stack = X.env :: X.outer) (hf : X.env.frame = some X.env.locals) (hN : X.N.Nodup) (tk : Takes X Wout) (ok : X.Ok) (J : Inv X pins σ' H' sI) (nb : ∀ b o, sI.heap.get? b = some o → b ∉ frs X.stack → B.get? b = some o)
    (upA : sI.heap.UpToSlots h3) (na : H' a = none) (os : s'.os = sI.os) (ag : AllBare s'.gens) (fl3 : HandSPX.FlyingZ B (X.env :: X.outer) a (Zc (.ref C) d) h3) (J3 : Inv X pins σ' H' { s' with heap := h3 }) (nL : a ≠ X.env.locals)
    (n0 : X.s_0.heap.get? a = none) (npn : ∀ p ∈ X.pn ++ pins, p.1 ≠ a) : ∀ cs : List Cl, (∀ l ∈ cs, l.Ok X) → wKeptL X.K Wout D cs (.ref C) d σ' H' →
    wpAny (model X.prog X.w) X.A (handleBy (.ref a) X.env (cs.map Cl.h)) (SP X pins D) X.xe { s' with heap := h3 }
  | [], _, w => by
    show wpAny _ X.A (handleBy (.ref a) X.env []) _ _ _
    refine wpAny_handleBy_nil ?_
    obtain ⟨_, _, _, oe, vs, T, oT, ts', he, hz, hd, h1, hr⟩ := id fl3
    unfold PySem.passOn
    refine wpAny_bind (wpAny_field he hd h1 ?_)
    rw [if_neg (show ¬ ((Value.ref T == Value.none) = true) from by simp)]
    have go_on : wpAny (model X.prog X.w) X.A (setFlight (.ref a) X.env.frame) (fun _ s4 => wpAny (model X.prog X.w) X.A (throw (.ref a) : Sem Flow) (SP X pins D) X.xe s4) X.xe { s' with heap := h3 } := by
      rw [hf]
      refine HandSPX.setFlight_upZ fl3 fun h4 hh4 up4 => wpAny_throw (tk _ _ ⟨a, B, sI, pins, σ', H', .ref C, d, rfl, J, nb, upA.trans up4, .inr (.inr (by rw [hs]; exact hh4)), na, os, ag, w⟩)
    first
      | exact wpAny_bind (wpAny_pure (wpAny_bind go_on))
      | exact wpAny_bind go_on
  | l :: r, hok, w => by
    obtain ⟨hi, hln, hc, hsu⟩ := hok l (by simp)
    obtain ⟨b, C', e, hb1, yes, no⟩ := w
    cases e
    obtain ⟨oe3, vs3, he3, hz3, hd3⟩ := fl3.there
    refine wpAny_handleBy_cons (codeAny_handlers_test ?_) (by intro q; cases q)
    have ty : PySem.W.Looks (model X.prog X.w) h3 (typeOf (.ref a)) (.ref C) := fun A Q E s k q => wpAny_typeOf_ref (k _ _ he3) (by rw [hz3.1]; exact q)
    have hit := PySem.W.exm_one (M := model X.prog X.w) J3.kIn ty hb1
    have JC := inv_held J3 he3 hd3 hz3 na nL n0 npn
    have name_ : ∀ {Q : Value → Shared → Prop} {E : Value → Shared → Prop}, Q l.c { s' with heap := h3 } → wpAny (model X.prog X.w) (X.A.mark (some (.ref a))) (eval (.Name l.x l.np) X.env) Q E { s' with heap := h3 } := fun {Q E} q => by
      obtain ⟨g1, g2, g3 | ⟨g3, g4, g5⟩⟩ := hc
      · exact ld_glob JC g1 g3 q g2
      · exact ld_blt JC g1 g3 g4 q g5 g2
    refine name_ (hit.here ?_)
    cases b with
    | false => exact hand_ok hs hf hN tk ok J nb upA na os ag fl3 J3 nL n0 npn r (fun l hl => hok l (by simp [hl])) (no rfl)
    | true =>
      refine codeAny_handlers_suite_as (HandSPX.lands_againZ fl3 fun h4 fl4 up4 => ?_)
      have J4 : Inv X pins σ' H' { s' with heap := h4 } := J.landed nb (by exact fl4.1) (upA.trans up4) os ag
      obtain ⟨oe4, vs4, he4, hz4, hd4⟩ := fl4.there
      refine store_ok (X := X.suite a (X.pn ++ pins)) (v := .ref a) (inv_held J4 he4 hd4 hz4 na nL n0 npn) hN hi (.inl hln) rfl (fun s5 S5 => ?_) (.inr hln)
      have behind : ∀ {s6 : Shared} {σ6 : L2.St} {H6 : Hp} {Q : Shared → Prop}, Inv (X.suite a (X.pn ++ pins)) [] σ6 H6 s6 → (∀ s7, Inv X pins (σ6.set l.i none) H6 s7 → Q s7) →
          wpAny (model X.prog X.w) X.A (do bindName X.env l.n .none; unbindBehindTheSuite X.env l.n l.pos) (fun _ s7 => Q s7) X.xe s6 := fun {s6 σ6 H6 Q} S6 hq => gone_ok (inv_let S6 ok) hN hi hln hq
      refine wpAny_mono ((hsu a (X.pn ++ pins)).run [] s5 _ _ _ S5 (yes rfl a na)) (fun f s6 q => ?_) fun _ _ z => z.elim
      cases f with
      | next => obtain ⟨σ6, H6, S6, q6⟩ := q; exact behind S6 fun s7 J7 => ⟨_, _, J7, q6⟩
      | brk => obtain ⟨σ6, H6, S6, q6⟩ := q; exact behind S6 fun s7 J7 => ⟨_, _, J7, q6⟩
      | cont => obtain ⟨σ6, H6, S6, q6⟩ := q; exact behind S6 fun s7 J7 => ⟨_, _, J7, q6⟩
      | ret w6 => obtain ⟨v6, σ6, H6, S6, r6, q6⟩ := q; exact behind S6 fun s7 J7 => ⟨_, _, _, J7, r6, q6⟩
theorem ps_try_L {body : List Stmt} {pos : Pos} {tb : WX → TS} {l : Cl} {r : List Cl} (hs : X.stack = X.env :: X.outer) (hf : X.env.frame = some X.env.locals) (hex : X.ex = []) (hN : X.N.Nodup) (tk : Takes X Wout)
    (hb : ∀ (W : WX) (pn : List (Addr × Obj)) (xe : Value → Shared → Prop), Takes (X.tr pn xe) W → PassesOwn (model X.prog X.w) X.A X.env xe → PSs (X.tr pn xe) body (tb W))
    (hok : ∀ x ∈ l :: r, x.Ok X) :
    PS X (.Try body ((l :: r).map Cl.h) [] [] pos) (fun D σ H => tb (wKeptL X.K Wout D (l :: r)) D σ H) := by
  constructor
  intro pins s σ H D I h
  have ok := I.ok
  have hfr := ok.frames.trans (congrArg some hs)
  rw [List.map_cons]
  refine wpAny_Try_except ?_
  have run := (hb (wKeptL X.K Wout D (l :: r)) (X.pn ++ pins) (fun e s₁ => wpAny (model X.prog X.w) X.A (noteFrame e X.env) (fun _ s₂ => wpAny (model X.prog X.w) X.A (setFlight e none)
    (fun _ s₃ => wpAny (model X.prog X.w) X.A (handleBy e X.env (l.h :: r.map Cl.h)) (SP X pins D) X.xe s₃) X.xe s₂) X.xe s₁) ?_ PassesOwn.looking).run [] s σ H D (I.toTry _) h
  · refine wpAny_mono run (fun f s1 q => ?_) fun _ _ q => q
    cases f with
    | next => obtain ⟨σ', H', J, q⟩ := q; exact wpAny_execs_nil ⟨σ', H', J.ofTry ok, q⟩
    | brk => obtain ⟨σ', H', J, q⟩ := q; exact ⟨σ', H', J.ofTry ok, q⟩
    | cont => obtain ⟨σ', H', J, q⟩ := q; exact ⟨σ', H', J.ofTry ok, q⟩
    | ret u => obtain ⟨v, σ', H', J, r, q⟩ := q; exact ⟨v, σ', H', J.ofTry ok, r, q⟩
  · rintro u s' ⟨a, B, sI, pins', σ', H', cls, d, rfl, J', nb, up, sky, na, os, ag, w⟩
    obtain ⟨b, C, rfl, hb1⟩ := id w
    have J : Inv X pins σ' H' sI := J'.ofTry ok
    rw [show (X.tr (X.pn ++ pins) _).stack = X.env :: X.outer from hs] at sky
    show wpAny (model X.prog X.w) X.A (noteFrame (.ref a) X.env) _ _ _
    refine Sky.land Zc.steady hfr hf sky fun h3 fl3 up3 => ?_
    have upA := up.trans up3
    have J3 : Inv X pins σ' H' { s' with heap := h3 } := J.landed nb fl3.1 upA os ag
    obtain ⟨oe3, vs3, he3, hz3, hd3⟩ := fl3.there
    have nfr : a ∉ frs (X.env :: X.outer) := fun m => by
      obtain ⟨_, o, e, g⟩ := fl3.2.2.1.mem m
      rw [he3] at e
      cases e
      exact g _ hd3
    have nL : a ≠ X.env.locals := fun q => nfr (List.mem_filterMap.mpr ⟨X.env, List.mem_cons_self, by rw [hf, q]⟩)
    have fresh : ∀ o, sI.heap.get? a ≠ some o := fun o e => by
      have z := nb a o e (by rw [show (X.tr (X.pn ++ pins) _).stack = X.env :: X.outer from hs]; exact nfr)
      rw [fl3.2.1] at z
      cases z
    have n0 : X.s_0.heap.get? a = none := by
      cases e : X.s_0.heap.get? a with
      | none => rfl
      | some o =>
        obtain ⟨o', e'⟩ := J.base.there a o e (by rw [hex]; simp)
        exact absurd e' (fresh o')
    have npn : ∀ p ∈ X.pn ++ pins, p.1 ≠ a := fun p hp q => by
      have z := (J.pin p hp).1
      rw [q] at z
      exact fresh _ z
    exact hand_ok hs hf hN tk ok J nb upA na os ag fl3 J3 nL n0 npn (l :: r) hok w
end
section
variable [Tabs] {X : Cx} {W : WX} {body suite suite2 : List Stmt} {b₀ b₂ : Stmt} {fb fs fs2 : FS} {np np2 pos pos' pos2 : Pos}
/-- try .. except A as n: .. except B as k: .. -/
def sTryAs2 (par : List Nat) (c i c2 i2 : Nat) (fb fs fs2 : FS) : FS := fun E m => fb { E with ex := fun xc m1 => (0 < xc.C ∧ xc.C < par.length) ∧ iteP (subN par 4 xc.C c) (i < m1.env.length ∧ fs (E.gone i) (m1.set i (.val (.exc xc.C xc.fs)))) (iteP (subN par 4 xc.C c2) (i2 < m1.env.length ∧ fs2 (E.gone i2) (m1.set i2 (.val (.exc xc.C xc.fs)))) (E.ex xc m1)) } m
theorem vs_tryAs2 {x n x2 n2 : Str} {par : List Nat} {c i c2 i2 : Nat} (F : XcsF X.K par) (hcl : 0 < c ∧ c < par.length) (hcl2 : 0 < c2 ∧ c2 < par.length) (hgx : X.mg x = some (.ref (Tabs.C c))) (hgx2 : X.mg x2 = some (.ref (Tabs.C c2))) (hg : Gl X x) (hg2 : Gl X x2) (tk : Takes X W) (hN : X.N.Nodup) 
    (hb : ∀ (W' : WX) (pn : List (Addr × Obj)) (xe : Value → Shared → Prop), Takes (X.tr pn xe) W' → PassesOwn (model X.prog X.w) X.A X.env xe → VSs (X.tr pn xe) W' body fb)
    (hsu : ∀ (a : Addr) (pn : List (Addr × Obj)), VSs (X.suite a pn) (fun _ _ _ _ => False) (b₀ :: suite) fs) (hsu2 : ∀ (a : Addr) (pn : List (Addr × Obj)), VSs (X.suite a pn) (fun _ _ _ _ => False) (b₂ :: suite2) fs2)
    (hs : X.stack = X.env :: X.outer := by rfl) (hf : X.env.frame = some X.env.locals := by rfl) (hex : X.ex = [] := by rfl) (hi : X.N[i]? = some n := by rfl) (hi2 : X.N[i2]? = some n2 := by rfl) (hln : X.env.kindOf n = some .local := by rfl) (hln2 : X.env.kindOf n2 = some .local := by rfl)
    (hd : (x == ("__debug__" : Str)) = false := by decide) (hd2 : (x2 == ("__debug__" : Str)) = false := by decide) :
    VS X W (.Try body [.ExceptHandler (some (.Name x np)) (some n) (b₀ :: suite) pos', .ExceptHandler (some (.Name x2 np2)) (some n2) (b₂ :: suite2) pos2] [] [] pos) (sTryAs2 par c i c2 i2 fb fs fs2) := by
  have hu : ∀ {c : Nat}, 0 < c → clsU c = .ref (Tabs.C c) := fun {c} h => by
    cases c with
    | zero => exact absurd h (Nat.lt_irrefl _)
    | succ n => rfl
  refine ⟨⟨_, ps_try_L (l := ⟨x, n, np, pos', b₀, suite, .ref (Tabs.C c), i, canSs X.K (fun _ _ _ _ => False) fs⟩) (r := [⟨x2, n2, np2, pos2, b₂, suite2, .ref (Tabs.C c2), i2, canSs X.K (fun _ _ _ _ => False) fs2⟩]) (tb := fun W' => canSs X.K W' fb) hs hf hex hN tk (fun W' pn xe t po => (hb W' pn xe t po).can) (fun l hl => ?_), fun w m E D s h k => ?_⟩⟩
  · rcases List.mem_cons.mp hl with rfl | hl
    · exact ⟨hi, hln, ⟨hg, hd, .inl hgx⟩, fun a pn => (hsu a pn).can⟩
    · rcases List.mem_cons.mp hl with rfl | hl
      · exact ⟨hi2, hln2, ⟨hg2, hd2, .inl hgx2⟩, fun a pn => (hsu2 a pn).can⟩
      · cases hl
  refine ⟨w, m, _, rfl, rfl, s, h, k.nx, k.rt, k.bk, k.ct, fun xc m1 w1 d a1 x1 q => ?_⟩
  obtain ⟨⟨q0, q1⟩, q2, q3⟩ := q
  have suit : ∀ {j : Nat} {g : FS}, (j < m1.env.length ∧ g (E.gone j) (m1.set j (.val (.exc xc.C xc.fs)))) → ∀ a, w1.H a = none → canSs X.K (fun _ _ _ _ => False) g ⟨fun σ' H' => D.nx (σ'.set j none) H', D.rt, fun σ' H' => D.bk (σ'.set j none) H', fun σ' H' => D.ct (σ'.set j none) H'⟩ (w1.σ.set j (some (.ref a))) (upd w1.H a (XcO a (Tabs.C xc.C) d)) := fun {j g} hq a na => by
    obtain ⟨hil, hfs⟩ := hq
    obtain ⟨w2, e2, eH, a2, r2⟩ := a1.ok.caught x1 na
    obtain ⟨s3, t3⟩ := a2.ok.setVal (i := j) (by rw [e2, ← a1.ok.len]; exact hil) r2
    have a13 := (a1.trans a2).trans ⟨s3, t3⟩
    have k3 := k.aft a13
    refine ⟨w2.slot j (.ref a), _, _, by rw [← e2]; rfl, eH, s3, hfs, fun m4 w4 a4 q4 => ?_, fun r m4 w4 v a4 r4 q4 => k3.rt r m4 w4 v a4 r4 q4, fun m4 w4 a4 q4 => ?_, fun m4 w4 a4 q4 => ?_, fun _ _ _ _ _ _ q4 => q4.elim⟩
    · exact k3.nx _ (w4.wip [j]) (aft_gone a4 j) q4
    · exact k3.bk _ (w4.wip [j]) (aft_gone a4 j) q4
    · exact k3.ct _ (w4.wip [j]) (aft_gone a4 j) q4
  refine ⟨subN par 4 xc.C c, Tabs.C xc.C, rfl, by rw [← hu hcl.1]; exact F.exm _ _ q0 q1 hcl.2, fun hb a na => suit (q2 hb) a na, fun hb => ?_⟩
  have q3 := q3 hb
  exact ⟨subN par 4 xc.C c2, Tabs.C xc.C, rfl, by rw [← hu hcl2.1]; exact F.exm _ _ q0 q1 hcl2.2, fun hb a na => suit (q3.1 hb) a na, fun hb => k.ex xc m1 w1 d a1 x1 (q3.2 hb)⟩
end
section
variable [Tabs] {X : Cx} {W : WX} {es : List Expr} {pos : Pos}
/-- (a, b, ..) = a list of that length -/
def gLs (n : Nat) (g : FGs) : FG := fun m d Q => match d with
  | .lst ds => ds.length = n ∧ g m ds Q
  | .kl ds => ds.length = n ∧ g m ds Q
  | _ => False
theorem vg_lst {k n : Nat} {g : FGs} {is : List Nat} (hc : X.calm = true) (hg : VGs X is es g) (hn : (assignEach es X.env).length = n := by rfl) (hst : (assignEach es X.env).findIdx? (·.1) = none := by rfl) : VG X is (.Tuple es k pos) (gLs n g) := by
  obtain ⟨t, p, q⟩ := hg.ex
  refine ⟨⟨_, pg_lst hc p hn hst, fun w m v d Q Q' s r h k => ?_⟩⟩
  unfold gLs at h
  split at h
  · cases r with
    | lst h1 r1 => exact ⟨_, _, rfl, .inl (.inl (s.sub _ _ h1)), by rw [r1.length]; exact h.1, q w m _ _ Q Q' s r1 h.2 k⟩
  · cases r with
    | kl h1 r1 => exact ⟨_, _, rfl, sqL_ext s.sub h1, by rw [r1.length]; exact h.1, q w m _ _ Q Q' s r1 h.2 k⟩
  · exact h.elim
end
end VL

set_option maxHeartbeats 8000000
namespace LW
open PySem PySem.Spec PyProof.Rows L2 VL
variable [VL.Tabs]
def cls_par : List Nat := [0, 0, 1]
abbrev c_ValueError : Nat := 0
abbrev c_GrowthError : Nat := 1
abbrev c_Stuck : Nat := 2
/-! the tables of a grammar; rows read by them -/
structure Tab where
  plain : List (GK × List GK × Int)
  goes : List (List (GK × Nat))
  acts : List (List (Str × Str × Nat))
def natD (n : Nat) : D := .int (n : Int)
def plD (p : GK × List GK × Int) : D := .tup [gkD p.1, .tup (p.2.1.map gkD), .int p.2.2]
def goD (r : List (GK × Nat)) : D := .dM (r.map fun e => (e.1, natD e.2))
def acV (e : Str × Nat) : D := .tup [.str e.1, natD e.2]
def acD (r : List (Str × Str × Nat)) : D := .dM (r.map fun e => (.s e.1, acV e.2))
def tabD (T : Tab) : D := .tup [.lst (T.plain.map plD), .lst (T.goes.map goD), .lst (T.acts.map acD)]
/-- the stack's states, the words of the things that lie on it, the way -/
structure Cf where
  st : List Nat
  sp : List Nat
  wy : List (Int × Nat × Nat)
def wyD (w : Int × Nat × Nat) : D := .tup [.int w.1, natD w.2.1, natD w.2.2]
def cfG (c : Cf) : List D := [.lst (c.st.map natD), .lst (c.sp.map natD), .lst (c.wy.map wyD)]
def P3 (pre : List D) : Prop := pre = [] ∨ ∃ A, pre = [A]
def goN (T : Tab) (s : Nat) (k : GK) : Option Nat := (T.goes[s]?).bind fun r => (r.find? fun e => decide (e.1 = k)).map (·.2)
def acN (T : Tab) (s : Nat) (k : Str) : Option (Option (Str × Nat)) := (T.acts[s]?).map fun r => (r.find? fun e => decide (e.1 = k)).map (·.2)
def layC (T : Tab) (c : Cf) (sym : GK) (words : Nat) : Option Cf := c.st.getLast?.bind fun top => (goN T top sym).map fun n => ⟨c.st ++ [n], c.sp ++ [words], c.wy⟩
def putC (T : Tab) (c : Cf) (n : Nat) : Option Cf := (T.plain[n]?).bind fun p =>
  if p.2.1.length ≤ c.sp.length ∧ p.2.1.length < c.st.length then
    (c.st.take (c.st.length - p.2.1.length)).getLast?.bind fun top =>
      layC T ⟨c.st.take (c.st.length - p.2.1.length), c.sp.take (c.sp.length - p.2.1.length), if 0 ≤ p.2.2 then c.wy ++ [(p.2.2, (c.sp.drop (c.sp.length - p.2.1.length)).sum, top)] else c.wy⟩ p.1 (c.sp.drop (c.sp.length - p.2.1.length)).sum
  else none
def deedK (T : Tab) (go : Cf → Option (Option (Str × Nat) × Cf)) (c : Cf) : Option (Str × Nat) → Option (Option (Str × Nat) × Cf)
  | none => some (none, c)
  | some e => if e.1 = ("reduce" : Str) then (putC T c e.2).bind go else some (some e, c)
theorem deedK_some (T : Tab) (go : Cf → Option (Option (Str × Nat) × Cf)) (c : Cf) (e : Str × Nat) : deedK T go c (some e) = if e.1 = ("reduce" : Str) then (putC T c e.2).bind go else some (some e, c) := rfl
theorem deedK_none (T : Tab) (go : Cf → Option (Option (Str × Nat) × Cf)) (c : Cf) : deedK T go c none = some (none, c) := rfl
def deedC (T : Tab) : Nat → Cf → Str → Option (Option (Str × Nat) × Cf)
  | 0, _, _ => none
  | f + 1, c, k => c.st.getLast?.bind fun top => (acN T top k).bind (deedK T (fun c' => deedC T f c' k) c)
def takeC (T : Tab) (c : Cf) (k : Str) : Option Cf := c.st.getLast?.bind fun top => layC T ⟨c.st, c.sp, c.wy ++ [(-1, 1, top)]⟩ (.s k) 1
def readC (T : Tab) (ks : List Str) : Nat → Cf → Nat → Option (List (Int × Nat × Nat) ⊕ Nat)
  | 0, _, _ => none
  | f + 1, c, i => (deedC T 1000 c (ks.getD i ("end" : Str))).bind fun r => match r.1 with
    | none => some (.inr i)
    | some e => if e.1 = ("accept" : Str) then some (.inl r.2.wy) else (takeC T r.2 (ks.getD i ("end" : Str))).bind fun c' => readC T ks f c' (i + 1)
/-- symbols that are keys -/
def TabOk (T : Tab) : Prop := ∀ p ∈ T.plain, gkDep p.1 ≤ 8
theorem goD_val (r : List (GK × Nat)) (k : GK) : mval (r.map fun e => (e.1, natD e.2)) k = ((r.find? fun e => decide (e.1 = k)).map (·.2)).map natD := by
  unfold mval
  rw [List.find?_map]
  cases h : List.find? ((fun p : GK × D => decide (p.1 = k)) ∘ fun e : GK × Nat => (e.1, natD e.2)) r with
  | none =>
    have : r.find? (fun e => decide (e.1 = k)) = none := h
    rw [this]; rfl
  | some e =>
    have : r.find? (fun e => decide (e.1 = k)) = some e := h
    rw [this]; rfl
theorem acD_val (r : List (Str × Str × Nat)) (k : Str) : mval (r.map fun e => (GK.s e.1, acV e.2)) (.s k) = ((r.find? fun e => decide (e.1 = k)).map (·.2)).map acV := by
  unfold mval
  rw [List.find?_map]
  have e : ((fun p : GK × D => decide (p.1 = GK.s k)) ∘ fun e : Str × Str × Nat => (GK.s e.1, acV e.2)) = fun e => decide (e.1 = k) := by
    funext e
    show decide (GK.s e.1 = GK.s k) = decide (e.1 = k)
    by_cases h : e.1 = k
    · simp [h]
    · simp [h]
  rw [e]
  cases r.find? fun e => decide (e.1 = k) with
  | none => rfl
  | some e => rfl
theorem last_cut {α : Type} {l : List α} {x : α} (h : l.getLast? = some x) : ∃ l', l = l' ++ [x] := List.getLast?_eq_some_iff.mp h
theorem goN_at {T : Tab} {s n : Nat} {k : GK} (h : goN T s k = some n) : ∃ r, T.goes[s]? = some r ∧ ((r.find? fun e => decide (e.1 = k)).map (·.2)) = some n := by
  unfold goN at h
  cases z : T.goes[s]? with
  | none => rw [z] at h; cases h
  | some r => rw [z] at h; exact ⟨r, rfl, h⟩
theorem acN_at {T : Tab} {s : Nat} {k : Str} {a : Option (Str × Nat)} (h : acN T s k = some a) : ∃ r, T.acts[s]? = some r ∧ ((r.find? fun e => decide (e.1 = k)).map (·.2)) = a := by
  unfold acN at h
  cases z : T.acts[s]? with
  | none => rw [z] at h; cases h
  | some r => rw [z] at h; exact ⟨r, rfl, Option.some.inj h⟩
theorem vw_gk (m : M) (k : GK) : view m (.fz (gkD k)) = some (gkD k) := by cases k <;> rfl
theorem pop_at {α β : Type} (f : α → β) (l : List α) (x : α) : ((l ++ [x]).map f)[((l ++ [x]).map f).length - 1]? = some (f x) := by simp
theorem pop_dl {α β : Type} (f : α → β) (l : List α) (x : α) : ((l ++ [x]).map f).dropLast = l.map f := by simp
theorem map_sn {α β : Type} (f : α → β) (l : List α) (x : α) : (l ++ [x]).map f = l.map f ++ [f x] := by simp
theorem nat_add (a b : Nat) : D.int ((a : Int) + (b : Int)) = natD (b + a) := by unfold natD; congr 1; omega
/-- the end of a body whose shared containers are as many as they were -/
theorem finL {gs gs' : List D} {r : Ret} {Q : Ret → List D → Prop} {m : M} (e : m.gs = gs') (hl : gs'.length = gs.length := by simp) (h : Q r gs') : Clean gs.length m r ∧ Q r (m.gs.take gs.length) := by
  subst e
  exact ⟨.inl hl, by rw [List.take_of_length_le (by omega)]; exact h⟩
theorem readC_succ (T : Tab) (ks : List Str) (f : Nat) (c : Cf) (i : Nat) : readC T ks (f + 1) c i = (deedC T 1000 c (ks.getD i ("end" : Str))).bind fun r => match r.1 with
    | none => some (.inr i)
    | some e => if e.1 = ("accept" : Str) then some (.inl r.2.wy) else (takeC T r.2 (ks.getD i ("end" : Str))).bind fun c' => readC T ks f c' (i + 1) := rfl
/-! the tables of rules of one word each -/
def kAt (ks : List Str) (j : Nat) : Str := ks.getD j ""
def sgK (sort : Str) (rank : Int) : GK := .t [.s sort, .i rank]
def sgP (sort : Str) (rank : Int) (ks : List Str) (n : Nat) : List (GK × List GK × Int) := (.t [.s "", .i 0], [sgK sort rank], -1) :: (List.range n).map fun j => (sgK sort rank, [.s (kAt ks j)], (j : Int))
def sgG (sort : Str) (rank : Int) (ks : List Str) (n : Nat) : List (GK × Nat) := (sgK sort rank, 1) :: (List.range n).map fun j => (.s (kAt ks j), j + 2)
def sgA (ks : List Str) (n : Nat) : List (Str × Str × Nat) := (List.range n).map fun j => (kAt ks j, "shift", j + 2)
def sgT (sort : Str) (rank : Int) (ks : List Str) : Tab := ⟨sgP sort rank ks ks.length, sgG sort rank ks ks.length :: [] :: (List.range ks.length).map fun _ => [], sgA ks ks.length :: [("end", "accept", 0)] :: (List.range ks.length).map fun j => [("end", "reduce", j + 1)]⟩
theorem kAt_ne {ks : List Str} (nd : ks.Nodup) {i j : Nat} (hj : j < i) (hi : i < ks.length) : kAt ks j ≠ kAt ks i := fun e => by
  unfold kAt at e
  rw [List.getD_eq_getElem?_getD, List.getD_eq_getElem?_getD, List.getElem?_eq_getElem (by omega), List.getElem?_eq_getElem hi] at e
  have := (List.getElem_inj nd).mp e
  omega
theorem mset_new {es : List (GK × D)} {k : GK} (x : D) (h : ∀ e ∈ es, e.1 ≠ k) : mset es k x = es ++ [(k, x)] := by
  have : mval es k = none := by
    unfold mval
    rw [Option.map_eq_none_iff, List.find?_eq_none]
    intro e he
    simp [h e he]
  unfold mset
  rw [this]
  rfl
theorem sgG_new {sort : Str} {rank : Int} {ks : List Str} (nd : ks.Nodup) {i : Nat} (hi : i < ks.length) : ∀ e ∈ (sgG sort rank ks i).map (fun e => (e.1, natD e.2)), e.1 ≠ GK.s (kAt ks i) := by
  intro e he
  obtain ⟨p, hp, rfl⟩ := List.mem_map.mp he
  rcases List.mem_cons.mp hp with z | z
  · subst z
    intro q
    cases q
  · obtain ⟨j, hj, rfl⟩ := List.mem_map.mp z
    intro q
    exact kAt_ne nd (List.mem_range.mp hj) hi (GK.s.inj q)
theorem sgA_new {ks : List Str} (nd : ks.Nodup) {i : Nat} (hi : i < ks.length) : ∀ e ∈ (sgA ks i).map (fun e => (GK.s e.1, acV e.2)), e.1 ≠ GK.s (kAt ks i) := by
  intro e he
  obtain ⟨p, hp, rfl⟩ := List.mem_map.mp he
  obtain ⟨j, hj, rfl⟩ := List.mem_map.mp hp
  intro q
  exact kAt_ne nd (List.mem_range.mp hj) hi (GK.s.inj q)
theorem sgT_ok (sort : Str) (rank : Int) (ks : List Str) : TabOk (sgT sort rank ks) := by
  intro p hp
  rcases List.mem_cons.mp hp with z | z
  · subst z; simp [gkDep, gkDepL]
  · obtain ⟨j, hj, rfl⟩ := List.mem_map.mp z
    simp [sgK, gkDep, gkDepL]

/-! drawn names of seventy signs, unlike at one place alone -/
def n7L : List Nat := (Str.ofString "abcdfghijklmnopqrstuvwxzABCDFGHIJKLMNOPQRSTUVWXZ0123456789+-*/=<>!?().").cps.toList
theorem n7L_len : n7L.length = 70 := by decide +kernel
theorem n7L_nd : n7L.Nodup := by decide +kernel
theorem n7L_e : 101 ∉ n7L := by decide +kernel
def n7S (M c : Int) (j : Nat) : Int := (c / ((j : Int) + 1) + M * j * j) % 70
def n7St (c p : Int) (k j : Nat) : Int := (k : Int) * (if (j : Int) = p % (1 + c % 12) then 1 else 0)
def n7C (M c p : Int) (k j : Nat) : Nat := n7L.getD ((n7S M c j + n7St c p k j) % 70).toNat 0
def n7N (M c p : Int) (k : Nat) : Str := ⟨((List.range (1 + c % 12).toNat).map (n7C M c p k)).toArray⟩
def n7Ns (M c p : Int) (n : Nat) : List Str := (List.range n).map (n7N M c p)
theorem n7Ix (x : Int) : (x % 70).toNat < n7L.length := by rw [n7L_len]; omega
theorem n7C_mem (M c p : Int) (k j : Nat) : n7C M c p k j ∈ n7L := by
  unfold n7C
  have h := n7Ix (n7S M c j + n7St c p k j)
  rw [List.getD_eq_getElem?_getD, List.getElem?_eq_getElem h]
  exact List.getElem_mem h
theorem n7N_list (M c p : Int) (k : Nat) : (n7N M c p k).cps.toList = (List.range (1 + c % 12).toNat).map (n7C M c p k) := rfl
theorem n7N_end (M c p : Int) (k : Nat) : n7N M c p k ≠ "end" := fun e => by
  have h : 101 ∈ (n7N M c p k).cps.toList := by rw [e]; decide
  rw [n7N_list] at h
  obtain ⟨j, _, hj⟩ := List.mem_map.mp h
  exact n7L_e (hj ▸ n7C_mem M c p k j)
theorem n7N_inj {M c p : Int} {k k' : Nat} (h1 : k < 70) (h2 : k' < 70) (h : n7N M c p k = n7N M c p k') : k = k' := by
  have e : (List.range (1 + c % 12).toNat).map (n7C M c p k) = (List.range (1 + c % 12).toNat).map (n7C M c p k') := by
    rw [← n7N_list, ← n7N_list, h]
  have a2 := Int.emod_nonneg p (show 1 + c % 12 ≠ 0 by omega)
  have a3 := Int.emod_lt_of_pos p (show 0 < 1 + c % 12 by omega)
  have hj : (p % (1 + c % 12)).toNat < (1 + c % 12).toNat := by omega
  have e2 := congrArg (fun l : List Nat => l[(p % (1 + c % 12)).toNat]?) e
  simp only [List.getElem?_map, List.getElem?_range hj, Option.map_some, Option.some.injEq] at e2
  have hc : (((p % (1 + c % 12)).toNat : Nat) : Int) = p % (1 + c % 12) := by omega
  unfold n7C n7St at e2
  rw [if_pos hc, Int.mul_one, Int.mul_one] at e2
  generalize n7S M c (p % (1 + c % 12)).toNat = t at *
  have b1 := n7Ix (t + (k : Int))
  have b2 := n7Ix (t + (k' : Int))
  rw [List.getD_eq_getElem?_getD, List.getD_eq_getElem?_getD, List.getElem?_eq_getElem b1, List.getElem?_eq_getElem b2] at e2
  have e3 := (List.getElem_inj n7L_nd).mp (show n7L[((t + (k : Int)) % 70).toNat] = n7L[((t + (k' : Int)) % 70).toNat] from e2)
  omega
theorem n7Ns_len (M c p : Int) (n : Nat) : (n7Ns M c p n).length = n := by simp [n7Ns]
theorem n7Ns_snoc (M c p : Int) (n : Nat) : n7Ns M c p (n + 1) = n7Ns M c p n ++ [n7N M c p n] := by simp [n7Ns, List.range_succ]
theorem n7Ns_nd (M c p : Int) {n : Nat} (h : n ≤ 70) : (n7Ns M c p n).Nodup := by
  refine List.pairwise_iff_getElem.mpr fun i j hi hj hij e => ?_
  rw [n7Ns_len] at hi hj
  have a1 : (n7Ns M c p n)[i]? = some (n7N M c p i) := by unfold n7Ns; rw [List.getElem?_map, List.getElem?_range hi]; rfl
  have a2 : (n7Ns M c p n)[j]? = some (n7N M c p j) := by unfold n7Ns; rw [List.getElem?_map, List.getElem?_range hj]; rfl
  rw [List.getElem?_eq_getElem (by rw [n7Ns_len]; exact hi)] at a1
  rw [List.getElem?_eq_getElem (by rw [n7Ns_len]; exact hj)] at a2
  rw [Option.some.inj a1, Option.some.inj a2] at e
  have := n7N_inj (by omega) (by omega) e
  omega
theorem n7Ns_end (M c p : Int) (n : Nat) : ("end" : Str) ∉ n7Ns M c p n := fun h => by
  obtain ⟨k, _, e⟩ := List.mem_map.mp h
  exact n7N_end M c p k e
theorem n7_snoc (l : List Nat) (x : Nat) : (⟨l.toArray⟩ : Str) ++ ⟨#[x]⟩ = ⟨(l ++ [x]).toArray⟩ := by
  apply TL.ext_tl
  rw [TL.tl_append]

/-! what the tables of single words do -/
theorem kAt_idx {ks : List Str} {w : Str} (h : w ∈ ks) : kAt ks (ks.idxOf w) = w := by
  unfold kAt
  have hl := List.idxOf_lt_length_of_mem h
  rw [List.getD_eq_getElem?_getD, List.getElem?_eq_getElem hl]
  exact List.getElem_idxOf hl
theorem kAt_mem {ks : List Str} {j : Nat} (h : j < ks.length) : kAt ks j ∈ ks := by
  unfold kAt
  rw [List.getD_eq_getElem?_getD, List.getElem?_eq_getElem h]
  exact List.getElem_mem h
theorem find_rng {α : Type} [DecidableEq α] {f : Nat → α} {n j : Nat} (hj : j < n) (inj : ∀ i, i < n → f i = f j → i = j) : (List.range n).find? (fun i => decide (f i = f j)) = some j := by
  rw [List.find?_eq_some_iff_append]
  refine ⟨by simp, List.range j, (List.range' (j + 1) (n - (j + 1))), ?_, ?_⟩
  · have e : n = j + 1 + (n - (j + 1)) := by omega
    conv => lhs; rw [e, List.range_eq_range', List.range'_append.symm]
    rw [List.range_eq_range', List.range'_concat]
    simp
  · intro i hi
    have := List.mem_range.mp hi
    simp only [Bool.not_eq_true', decide_eq_false_iff_not]
    intro e
    have := inj i (by omega) e
    omega
theorem find_rng0 {α : Type} [DecidableEq α] {f : Nat → α} {n : Nat} {x : α} (h : ∀ i, i < n → f i ≠ x) : (List.range n).find? (fun i => decide (f i = x)) = none := by
  rw [List.find?_eq_none]
  intro i hi
  simp [h i (List.mem_range.mp hi)]
section
variable {sort : Str} {rank : Int} {ks : List Str}
theorem sg_a0 (nd : ks.Nodup) {j : Nat} (hj : j < ks.length) : acN (sgT sort rank ks) 0 (kAt ks j) = some (some (("shift" : Str), j + 2)) := by
  have e := find_rng (f := kAt ks) hj (fun i hi e => by
    by_cases h : i = j
    · exact h
    · exfalso
      rcases Nat.lt_or_gt_of_ne h with z | z
      · exact kAt_ne nd z hj e
      · exact kAt_ne nd z hi e.symm)
  show some (((sgA ks ks.length).find? fun e => decide (e.1 = kAt ks j)).map (·.2)) = _
  unfold sgA
  rw [List.find?_map]
  show some (((((List.range ks.length).find? fun i => decide (kAt ks i = kAt ks j))).map _).map _) = _
  rw [e]
  rfl
theorem sg_a0n {k : Str} (h : k ∉ ks) : acN (sgT sort rank ks) 0 k = some none := by
  show some (((sgA ks ks.length).find? fun e => decide (e.1 = k)).map (·.2)) = _
  unfold sgA
  rw [List.find?_map]
  show some (((((List.range ks.length).find? fun i => decide (kAt ks i = k))).map _).map _) = _
  rw [find_rng0 (f := kAt ks) (x := k) fun i hi e => h (by rw [← e]; exact kAt_mem hi)]
  rfl
theorem sg_a1 : acN (sgT sort rank ks) 1 "end" = some (some (("accept" : Str), 0)) := by
  show some ((([("end", "accept", 0)] : List (Str × Str × Nat)).find? fun e => decide (e.1 = ("end" : Str))).map (·.2)) = _
  rfl
theorem sg_at (j : Nat) (hj : j < ks.length) : (sgT sort rank ks).acts[j + 2]? = some [(("end" : Str), ("reduce" : Str), j + 1)] := by
  show (sgA ks ks.length :: [("end", "accept", 0)] :: (List.range ks.length).map fun j => [(("end" : Str), ("reduce" : Str), j + 1)])[j + 2]? = _
  rw [List.getElem?_cons_succ, List.getElem?_cons_succ, List.getElem?_map, List.getElem?_range hj]
  rfl
theorem sg_a2 {j : Nat} (hj : j < ks.length) : acN (sgT sort rank ks) (j + 2) "end" = some (some (("reduce" : Str), j + 1)) := by
  unfold acN
  rw [sg_at j hj]
  rfl
theorem sg_a2n {j : Nat} (hj : j < ks.length) {k : Str} (h : k ≠ "end") : acN (sgT sort rank ks) (j + 2) k = some none := by
  unfold acN
  rw [sg_at j hj]
  have : decide (("end" : Str) = k) = false := decide_eq_false fun e => h e.symm
  simp [List.find?_cons, this]
theorem sg_g0 (nd : ks.Nodup) {j : Nat} (hj : j < ks.length) : goN (sgT sort rank ks) 0 (.s (kAt ks j)) = some (j + 2) := by
  have e := find_rng (f := fun i => GK.s (kAt ks i)) hj (fun i hi e => by
    by_cases h : i = j
    · exact h
    · exfalso
      rcases Nat.lt_or_gt_of_ne h with z | z
      · exact kAt_ne nd z hj (GK.s.inj e)
      · exact kAt_ne nd z hi (GK.s.inj e).symm)
  show ((sgG sort rank ks ks.length).find? fun e => decide (e.1 = GK.s (kAt ks j))).map (·.2) = _
  unfold sgG
  rw [List.find?_cons]
  have : decide (sgK sort rank = GK.s (kAt ks j)) = false := decide_eq_false (by intro q; cases q)
  rw [this, List.find?_map]
  show (((List.range ks.length).find? fun i => decide (GK.s (kAt ks i) = GK.s (kAt ks j))).map _).map _ = _
  rw [e]
  rfl
theorem sg_g1 : goN (sgT sort rank ks) 0 (sgK sort rank) = some 1 := by
  show ((sgG sort rank ks ks.length).find? fun e => decide (e.1 = sgK sort rank)).map (·.2) = _
  unfold sgG
  rw [List.find?_cons]
  simp
theorem sg_p {j : Nat} (hj : j < ks.length) : (sgT sort rank ks).plain[j + 1]? = some (sgK sort rank, [.s (kAt ks j)], (j : Int)) := by
  show (sgP sort rank ks ks.length)[j + 1]? = _
  unfold sgP
  rw [List.getElem?_cons_succ, List.getElem?_map, List.getElem?_range hj]
  rfl
def sgRes (ks row : List Str) : List (Int × Nat × Nat) ⊕ Nat := match row with
  | [] => .inr 0
  | w :: r => if w ∈ ks then (if r = [] then .inl [(-1, 1, 0), ((ks.idxOf w : Nat), 1, 0)] else .inr 1) else .inr 0
theorem sgRes_cons (ks : List Str) (w : Str) (r : List Str) : sgRes ks (w :: r) = if w ∈ ks then (if r = [] then .inl [(-1, 1, 0), ((ks.idxOf w : Nat), 1, 0)] else .inr 1) else .inr 0 := rfl
theorem deedC_at {T : Tab} {f : Nat} {c : Cf} {k : Str} {top : Nat} {a : Option (Str × Nat)} (ht : c.st.getLast? = some top) (ha : acN T top k = some a) : deedC T (f + 1) c k = deedK T (fun c' => deedC T f c' k) c a := by
  show (c.st.getLast?.bind fun top => (acN T top k).bind (deedK T (fun c' => deedC T f c' k) c)) = _
  rw [ht, Option.bind_some, ha, Option.bind_some]
theorem sg_read (nd : ks.Nodup) (ne : ("end" : Str) ∉ ks) {row : List Str} (nr : ("end" : Str) ∉ row) (f : Nat) : readC (sgT sort rank ks) row (f + 3) ⟨[0], [], []⟩ 0 = some (sgRes ks row) := by
  rw [readC_succ]
  cases row with
  | nil =>
    rw [show ([] : List Str).getD 0 ("end" : Str) = "end" from rfl, deedC_at (c := ⟨[0], [], []⟩) (top := 0) rfl (sg_a0n ne), deedK_none]
    rfl
  | cons w r =>
    rw [show (w :: r).getD 0 ("end" : Str) = w from rfl]
    by_cases hw : w ∈ ks
    · have hj := List.idxOf_lt_length_of_mem hw
      have ew := kAt_idx hw
      rw [sgRes_cons, if_pos hw]
      generalize ks.idxOf w = j at *
      subst ew
      rw [deedC_at (c := ⟨[0], [], []⟩) (top := 0) rfl (sg_a0 nd hj), deedK_some, if_neg (show ¬ (("shift" : Str) = "reduce") by decide)]
      rw [Option.bind_some]
      dsimp only
      rw [if_neg (by decide)]
      have et : takeC (sgT sort rank ks) ⟨[0], [], []⟩ (kAt ks j) = some ⟨[0, j + 2], [1], [(-1, 1, 0)]⟩ := by
        show (some 0).bind _ = _
        rw [Option.bind_some]
        unfold layC
        show (some 0).bind _ = _
        rw [Option.bind_some, sg_g0 nd hj]
        rfl
      rw [et, Option.bind_some, readC_succ]
      cases r with
      | nil =>
        rw [if_pos rfl, show [kAt ks j].getD (0 + 1) ("end" : Str) = "end" from rfl, deedC_at (c := ⟨[0, j + 2], [1], [(-1, 1, 0)]⟩) (top := j + 2) rfl (sg_a2 hj), deedK_some, if_pos rfl]
        have ep : putC (sgT sort rank ks) ⟨[0, j + 2], [1], [(-1, 1, 0)]⟩ (j + 1) = some ⟨[0, 1], [1], [(-1, 1, 0), ((j : Nat), 1, 0)]⟩ := by
          unfold putC
          rw [sg_p hj, Option.bind_some]
          show (if 1 ≤ 1 ∧ 1 < 2 then (some 0).bind _ else _) = _
          rw [if_pos (by decide), Option.bind_some]
          unfold layC
          show (some 0).bind _ = _
          rw [Option.bind_some, sg_g1, Option.map_some]
          dsimp only
          rw [if_pos (Int.natCast_nonneg j)]
          rfl
        rw [ep, Option.bind_some, deedC_at (c := ⟨[0, 1], [1], [(-1, 1, 0), ((j : Nat), 1, 0)]⟩) (top := 1) rfl sg_a1, deedK_some, if_neg (by decide), Option.bind_some]
        dsimp only
        rw [if_pos rfl]
      | cons x r =>
        have hx : x ≠ "end" := fun e => nr (by rw [e]; simp)
        rw [if_neg (by simp), show (kAt ks j :: x :: r).getD (0 + 1) ("end" : Str) = x from rfl, deedC_at (c := ⟨[0, j + 2], [1], [(-1, 1, 0)]⟩) (top := j + 2) rfl (sg_a2n hj hx), deedK_none]
        rfl
    · rw [sgRes_cons, if_neg hw, deedC_at (c := ⟨[0], [], []⟩) (top := 0) rfl (sg_a0n hw), deedK_none]
      rfl
end

/-! tables that can be compared with themselves -/
theorem sm_lst {α : Type} {f : α → D} {n : Nat} {xs : List α} (h : ∀ x ∈ xs, Sm n (f x)) : Sm (n + 1) (.lst (xs.map f)) := by
  intro d hd
  obtain ⟨x, hx, rfl⟩ := List.mem_map.mp hd
  exact h x hx
theorem gk_s_sm (n : Nat) (x : Str) : Sm n (gkD (.s x)) := by cases n <;> exact True.intro
theorem gk_t2_sm (n : Nat) (x : Str) (r : Int) : Sm (n + 1) (gkD (.t [.s x, .i r])) := by
  intro d hd
  rcases List.mem_cons.mp hd with rfl | hd
  · cases n <;> exact True.intro
  rcases List.mem_cons.mp hd with rfl | hd
  · cases n <;> exact True.intro
  · cases hd
theorem int_sm (n : Nat) (i : Int) : Sm n (.int i) := by cases n <;> exact True.intro
theorem str_sm (n : Nat) (x : Str) : Sm n (.str x) := by cases n <;> exact True.intro
theorem go_sm (n : Nat) (r : List (GK × Nat)) : Sm (n + 1) (goD r) := by
  intro e he
  obtain ⟨x, _, rfl⟩ := List.mem_map.mp he
  exact int_sm _ _
theorem ac_sm (n : Nat) (r : List (Str × Str × Nat)) : Sm (n + 2) (acD r) := by
  intro e he
  obtain ⟨x, _, rfl⟩ := List.mem_map.mp he
  intro d hd
  rcases List.mem_cons.mp hd with rfl | hd
  · exact str_sm _ _
  rcases List.mem_cons.mp hd with rfl | hd
  · exact int_sm _ _
  · cases hd
theorem sgT_sm (sort : Str) (rank : Int) (ks : List Str) : ∃ n, n ≤ 50 ∧ Sm (n + 1) (tabD (sgT sort rank ks)) := by
  refine ⟨5, by decide, fun d hd => ?_⟩
  rcases List.mem_cons.mp hd with rfl | hd
  · refine sm_lst fun p hp => ?_
    have key : ∀ (k : GK) (l : List GK) (i : Int), Sm 3 (gkD k) → (∀ x ∈ l, Sm 2 (gkD x)) → Sm 4 (plD (k, l, i)) := fun k l i h1 h2 d hd => by
      rcases List.mem_cons.mp hd with rfl | hd
      · exact h1
      rcases List.mem_cons.mp hd with rfl | hd
      · intro d hd
        obtain ⟨x, hx, rfl⟩ := List.mem_map.mp hd
        exact h2 x hx
      rcases List.mem_cons.mp hd with rfl | hd
      · exact int_sm _ _
      · cases hd
    rcases List.mem_cons.mp hp with rfl | hp
    · refine key _ _ _ (gk_t2_sm _ _ _) fun x hx => ?_
      rcases List.mem_cons.mp hx with rfl | hx
      · exact gk_t2_sm _ _ _
      · cases hx
    · obtain ⟨j, _, rfl⟩ := List.mem_map.mp hp
      refine key _ _ _ (gk_t2_sm _ _ _) fun x hx => ?_
      rcases List.mem_cons.mp hx with rfl | hx
      · exact gk_s_sm _ _
      · cases hx
  rcases List.mem_cons.mp hd with rfl | hd
  · exact sm_lst fun r _ => go_sm _ r
  rcases List.mem_cons.mp hd with rfl | hd
  · exact sm_lst fun r _ => ac_sm _ r
  · cases hd

/-! the stacks of the tables of single words -/
def Df (ks : List Str) (st : List Nat) (k : Str) (r : Option (Str × Nat)) (st' : List Nat) : Prop :=
  (st = [0] ∧ ∃ j, j < ks.length ∧ k = kAt ks j ∧ r = some (("shift" : Str), j + 2) ∧ st' = [0]) ∨ (st = [0] ∧ k ∉ ks ∧ r = none ∧ st' = [0]) ∨
  (∃ j, j < ks.length ∧ st = [0, j + 2] ∧ k ≠ "end" ∧ r = none ∧ st' = st) ∨ (∃ j, j < ks.length ∧ st = [0, j + 2] ∧ k = "end" ∧ r = some (("accept" : Str), 0) ∧ st' = [0, 1])
def rtD : Option (Str × Nat) → D
  | none => .non
  | some e => acV e
def StOk (ks : List Str) (st : List Nat) : Prop := st = [0] ∨ ∃ j, j < ks.length ∧ st = [0, j + 2]
def roB (ks : List Str) : List Nat → List Str → Bool
  | [_], [w] => decide (w ∈ ks)
  | [_, _], [] => true
  | _, _ => false
def stk (ks row : List Str) (fault : Nat) : List (List Nat) := if fault = 0 then [[0]] else [[0], [0, ks.idxOf (row.headD "") + 2]]
def lsP (ks row : List Str) : Int × Int := if row.length ≤ 1 then (0, row.length) else if row.getLastD "" ∈ ks then (0, (row.length : Int) - 1) else if row.headD "" ∈ ks then (1, row.length) else (0, row.length)
def dueP (ks row : List Str) : Int × Int := if row = [] ∨ (row.length = 1 ∧ row.headD "" ∈ ks) then (0, 0) else if 40 < row.length then (0, row.length) else lsP ks row
def prD (p : Int × Int) : D := .tup [.int p.1, .int p.2]
def flD (ks row : List Str) : D := match sgRes ks row with
  | .inl _ => .non
  | .inr i => .int (i : Nat)

/-- who is asked: it tells the kind -/
def askR (ks : List Str) : D := .clo "fault_of" 0 [.lst (ks.map .str)]
def preA (_ : List Int) : List D := []
def noteA (l : List Int) (_ : Nat) : List Int := l
theorem capsR_no (ks : List Str) : noCL [.lst (ks.map .str)] = true := by simp [noCL, noC, noCL_map (f := D.str) (fun _ => rfl)]
theorem preA_P3 (l : List Int) : P3 (preA l) := .inl rfl
theorem preA_no (l : List Int) : noCL (preA l) = true := rfl
theorem preA_gh (l : List Int) (n : Nat) : (preA l).all (ghB n) = true := rfl
theorem preA_len (l l' : List Int) : (preA l).length = (preA l').length := rfl
theorem noteA_mem {l : List Int} {i : Nat} {y : Int} (h : y ∈ noteA l i) : y ∈ l ∨ y = i := .inl h
theorem noteA_len (l : List Int) (i : Nat) : (noteA l i).length ≤ l.length + 1 := Nat.le_succ _
def sp_ask : List D → FV := fun caps ds gs Q _ => ∃ (ks : List Str) (i : Nat) (k : Str) (l : List Int) (tl : List D), caps = [.lst (ks.map .str)] ∧ ds = [.int i] ∧ gs = preA l ++ tl ∧ ks[i]? = some k ∧ ks.length ≤ 1000000 ∧ l.length ≤ 1000000 ∧ Q (.fz (.str k)) (preA (noteA l i) ++ tl)

def fb_ask : FS := sRet (fOp gIx (fVar 1) (fVar 0))
theorem bd_ask : ∀ caps ds gs Q Qe, sp_ask caps ds gs Q Qe → bodyV 2 fb_ask (ds ++ caps) gs Q Qe := by
  rintro caps ds gs Q Qe ⟨ks, i, k, l, tl, rfl, rfl, rfl, hk, hz, hl, h⟩
  (try conv => whnf); repeat (first | (refine And.intro (fun e => Bool.noConfusion (show (false : Bool) = true from e)) (fun _ => ?_); conv => whnf) | (refine And.intro (fun _ => ?_) (fun e => Bool.noConfusion (show (true : Bool) = false from e)); conv => whnf) | (refine And.intro (by first | exact True.intro | ((try dsimp only [CDiv, CMul, CDivN, CPow] at *) <;> omega) | ((try dsimp only [CDiv, CMul, CDivN, CPow] at *) <;> (simp only [List.length_map, List.length_append, List.length_cons, List.length_nil, List.length_reverse, strApp_len, len1, szl] at *) <;> omega) | rfl | exact of_decide_eq_true rfl) ?_; conv => whnf))
  refine bindO_atk D.str rfl hk ?_
  (try conv => whnf); repeat (first | (refine And.intro (fun e => Bool.noConfusion (show (false : Bool) = true from e)) (fun _ => ?_); conv => whnf) | (refine And.intro (fun _ => ?_) (fun e => Bool.noConfusion (show (true : Bool) = false from e)); conv => whnf) | (refine And.intro (by first | exact True.intro | ((try dsimp only [CDiv, CMul, CDivN, CPow] at *) <;> omega) | ((try dsimp only [CDiv, CMul, CDivN, CPow] at *) <;> (simp only [List.length_map, List.length_append, List.length_cons, List.length_nil, List.length_reverse, strApp_len, len1, szl] at *) <;> omega) | rfl | exact of_decide_eq_true rfl) ?_; conv => whnf))
  exact finL (gs' := gs) rfl rfl h

def clo_tbl : CTbl := [("fault_of", 0, 1, sp_ask)]
/-- the script's k-th number, or nought -/
def sp__law_cell_at : FV := fun ds gs Q _ => ∃ (ns : List Int) (k : Nat), ds = [.kl (ns.map .int), .int k] ∧ Q (.fz (.int (ns.getD k 0))) gs

def fb__law_cell_at : FS := sSeq (sIf (fTest (fOp gLt (fVar 1) (fUn gLen (fVar 0)))) (sRet (fOp gIx (fVar 0) (fVar 1))) (sNil))
  (sRet (fC (.int 0)))
theorem bd__law_cell_at : ∀ ds gs Q Qe, sp__law_cell_at ds gs Q Qe → bodyV 2 fb__law_cell_at ds gs Q Qe := by
  rintro ds gs Q Qe ⟨ns, k, rfl, h⟩
  conv => whnf
  refine ⟨fun c => ?_, fun c => ?_⟩
  · have c : (k : Int) < (ns.map D.int).length := of_decide_eq_true c
    rw [List.length_map] at c
    have hk : k < ns.length := by omega
    refine bindO_of (at_map (List.getElem?_eq_getElem hk)) (fin0 rfl ?_)
    have e : ns.getD k 0 = ns[k] := by simp [List.getD, hk]
    rw [← e]; exact h
  · have c : ¬ (k : Int) < (ns.map D.int).length := of_decide_eq_false c
    rw [List.length_map] at c
    have e : ns.getD k 0 = 0 := by simp [List.getD, List.getElem?_eq_none (show ns.length ≤ k by omega)]
    rw [e] at h
    exact fin0 rfl h

def sp__law_due : FV := fun ds gs Q _ => ∃ (ks row : List Str), ds = [.lst (row.map .str), .lst (ks.map .str)] ∧ Q (.fz (prD (dueP ks row))) gs

def fb__law_due : FS := sSeq (sAsg 2 (fUn gLen (fVar 0)))
  (sSeq (sIf (fOr (fTest (fOp (gEq false) (fVar 2) (fC (.int 0)))) (fAnd (fTest (fOp (gEq false) (fVar 2) (fC (.int 1)))) (fTest (fOp (gIn false) (fOp gIx (fVar 0) (fC (.int 0))) (fVar 1))))) (sRet (fTup (aCons (fC (.int 0)) (aCons (fC (.int 0)) (aNil))))) (sNil))
  (sSeq (sIf (fOr (fTest (fOp (gEq false) (fVar 2) (fC (.int 1)))) (fTest (fOp gGt (fVar 2) (fC (.int 40))))) (sRet (fTup (aCons (fC (.int 0)) (aCons (fVar 2) (aNil))))) (sNil))
  (sSeq (sIf (fTest (fOp (gIn false) (fOp gIx (fVar 0) (fUn gNeg (fC (.int 1)))) (fVar 1))) (sRet (fTup (aCons (fC (.int 0)) (aCons (fOp gSub (fVar 2) (fC (.int 1))) (aNil))))) (sNil))
  (sSeq (sIf (fTest (fOp (gIn false) (fOp gIx (fVar 0) (fC (.int 0))) (fVar 1))) (sRet (fTup (aCons (fC (.int 1)) (aCons (fVar 2) (aNil))))) (sNil))
  (sRet (fTup (aCons (fC (.int 0)) (aCons (fVar 2) (aNil)))))))))
theorem last_at {row : List Str} (h : row ≠ []) : atI (row.map D.str) (-1) = some (.str (row.getLastD "")) := by
  obtain ⟨l, x, rfl⟩ : ∃ l x, row = l ++ [x] := ⟨row.dropLast, row.getLast h, (List.dropLast_concat_getLast h).symm⟩
  rw [at_lastm D.str l x]
  simp
theorem bd__law_due : ∀ ds gs Q Qe, sp__law_due ds gs Q Qe → bodyV 3 fb__law_due ds gs Q Qe := by
  rintro ds gs Q Qe ⟨ks, row, rfl, h⟩
  have el : ((row.map D.str).length : Int) = row.length := by rw [List.length_map]
  cases row with
  | nil =>
    (try conv => whnf); repeat (first | (refine And.intro (fun e => Bool.noConfusion (show (false : Bool) = true from e)) (fun _ => ?_); conv => whnf) | (refine And.intro (fun _ => ?_) (fun e => Bool.noConfusion (show (true : Bool) = false from e)); conv => whnf) | (refine And.intro (by first | exact True.intro | ((try dsimp only [CDiv, CMul, CDivN, CPow] at *) <;> omega) | ((try dsimp only [CDiv, CMul, CDivN, CPow] at *) <;> (simp only [List.length_map, List.length_append, List.length_cons, List.length_nil, List.length_reverse, strApp_len, len1, szl] at *) <;> omega) | rfl | exact of_decide_eq_true rfl) ?_; conv => whnf))
    exact fin0 rfl h
  | cons w r =>
    cases r with
    | nil =>
      (try conv => whnf); repeat (first | (refine And.intro (fun e => Bool.noConfusion (show (false : Bool) = true from e)) (fun _ => ?_); conv => whnf) | (refine And.intro (fun _ => ?_) (fun e => Bool.noConfusion (show (true : Bool) = false from e)); conv => whnf) | (refine And.intro (by first | exact True.intro | ((try dsimp only [CDiv, CMul, CDivN, CPow] at *) <;> omega) | ((try dsimp only [CDiv, CMul, CDivN, CPow] at *) <;> (simp only [List.length_map, List.length_append, List.length_cons, List.length_nil, List.length_reverse, strApp_len, len1, szl] at *) <;> omega) | rfl | exact of_decide_eq_true rfl) ?_; conv => whnf))
      refine bindO_of (inO_e ks w (by decide)) ?_
      by_cases hw : w ∈ ks
      · rw [show dueP ks [w] = (0, 0) by simp [dueP, hw]] at h
        refine yes_of (by simp [hw]) ?_
        (try conv => whnf); repeat (first | (refine And.intro (fun e => Bool.noConfusion (show (false : Bool) = true from e)) (fun _ => ?_); conv => whnf) | (refine And.intro (fun _ => ?_) (fun e => Bool.noConfusion (show (true : Bool) = false from e)); conv => whnf) | (refine And.intro (by first | exact True.intro | ((try dsimp only [CDiv, CMul, CDivN, CPow] at *) <;> omega) | ((try dsimp only [CDiv, CMul, CDivN, CPow] at *) <;> (simp only [List.length_map, List.length_append, List.length_cons, List.length_nil, List.length_reverse, strApp_len, len1, szl] at *) <;> omega) | rfl | exact of_decide_eq_true rfl) ?_; conv => whnf))
        exact fin0 rfl h
      · rw [show dueP ks [w] = (0, 1) by simp [dueP, lsP, hw]] at h
        refine no_of (by simp [hw]) ?_
        (try conv => whnf); repeat (first | (refine And.intro (fun e => Bool.noConfusion (show (false : Bool) = true from e)) (fun _ => ?_); conv => whnf) | (refine And.intro (fun _ => ?_) (fun e => Bool.noConfusion (show (true : Bool) = false from e)); conv => whnf) | (refine And.intro (by first | exact True.intro | ((try dsimp only [CDiv, CMul, CDivN, CPow] at *) <;> omega) | ((try dsimp only [CDiv, CMul, CDivN, CPow] at *) <;> (simp only [List.length_map, List.length_append, List.length_cons, List.length_nil, List.length_reverse, strApp_len, len1, szl] at *) <;> omega) | rfl | exact of_decide_eq_true rfl) ?_; conv => whnf))
        exact fin0 rfl h
    | cons x r =>
      have e2 : dueP ks (w :: x :: r) = if 40 < (w :: x :: r).length then (0, ((w :: x :: r).length : Int)) else if (w :: x :: r).getLastD "" ∈ ks then (0, ((w :: x :: r).length : Int) - 1) else if w ∈ ks then (1, ((w :: x :: r).length : Int)) else (0, ((w :: x :: r).length : Int)) := by
        unfold dueP lsP
        rw [if_neg (by simp)]
        rw [if_neg (show ¬ (w :: x :: r).length ≤ 1 by simp)]
        rfl
      rw [e2] at h
      have la := last_at (row := w :: x :: r) (by simp)
      have ln : 2 ≤ (w :: x :: r).length := by simp
      have h0 : atI ((w :: x :: r).map D.str) 0 = some (.str w) := atI_nat (show ((w :: x :: r).map D.str)[(0 : Nat)]? = some (.str w) from rfl)
      generalize hR : w :: x :: r = R at *
      have t0 : ∀ k : Int, k < 2 → decide (((R.map D.str).length : Int) = k) = false := fun k hk => decide_eq_false (by rw [el]; omega)
      (try conv => whnf); repeat (first | (refine And.intro (fun e => Bool.noConfusion (show (false : Bool) = true from e)) (fun _ => ?_); conv => whnf) | (refine And.intro (fun _ => ?_) (fun e => Bool.noConfusion (show (true : Bool) = false from e)); conv => whnf) | (refine And.intro (by first | exact True.intro | ((try dsimp only [CDiv, CMul, CDivN, CPow] at *) <;> omega) | ((try dsimp only [CDiv, CMul, CDivN, CPow] at *) <;> (simp only [List.length_map, List.length_append, List.length_cons, List.length_nil, List.length_reverse, strApp_len, len1, szl] at *) <;> omega) | rfl | exact of_decide_eq_true rfl) ?_; conv => whnf))
      refine no_of (t0 0 (by decide)) ?_
      (try conv => whnf); repeat (first | (refine And.intro (fun e => Bool.noConfusion (show (false : Bool) = true from e)) (fun _ => ?_); conv => whnf) | (refine And.intro (fun _ => ?_) (fun e => Bool.noConfusion (show (true : Bool) = false from e)); conv => whnf) | (refine And.intro (by first | exact True.intro | ((try dsimp only [CDiv, CMul, CDivN, CPow] at *) <;> omega) | ((try dsimp only [CDiv, CMul, CDivN, CPow] at *) <;> (simp only [List.length_map, List.length_append, List.length_cons, List.length_nil, List.length_reverse, strApp_len, len1, szl] at *) <;> omega) | rfl | exact of_decide_eq_true rfl) ?_; conv => whnf))
      refine no_of (t0 1 (by decide)) ?_
      (try conv => whnf); repeat (first | (refine And.intro (fun e => Bool.noConfusion (show (false : Bool) = true from e)) (fun _ => ?_); conv => whnf) | (refine And.intro (fun _ => ?_) (fun e => Bool.noConfusion (show (true : Bool) = false from e)); conv => whnf) | (refine And.intro (by first | exact True.intro | ((try dsimp only [CDiv, CMul, CDivN, CPow] at *) <;> omega) | ((try dsimp only [CDiv, CMul, CDivN, CPow] at *) <;> (simp only [List.length_map, List.length_append, List.length_cons, List.length_nil, List.length_reverse, strApp_len, len1, szl] at *) <;> omega) | rfl | exact of_decide_eq_true rfl) ?_; conv => whnf))
      refine no_of (t0 1 (by decide)) ?_
      (try conv => whnf); repeat (first | (refine And.intro (fun e => Bool.noConfusion (show (false : Bool) = true from e)) (fun _ => ?_); conv => whnf) | (refine And.intro (fun _ => ?_) (fun e => Bool.noConfusion (show (true : Bool) = false from e)); conv => whnf) | (refine And.intro (by first | exact True.intro | ((try dsimp only [CDiv, CMul, CDivN, CPow] at *) <;> omega) | ((try dsimp only [CDiv, CMul, CDivN, CPow] at *) <;> (simp only [List.length_map, List.length_append, List.length_cons, List.length_nil, List.length_reverse, strApp_len, len1, szl] at *) <;> omega) | rfl | exact of_decide_eq_true rfl) ?_; conv => whnf))
      by_cases c : 40 < R.length
      · rw [if_pos c] at h
        refine yes_of (decide_eq_true (by rw [el]; omega)) ?_
        (try conv => whnf); repeat (first | (refine And.intro (fun e => Bool.noConfusion (show (false : Bool) = true from e)) (fun _ => ?_); conv => whnf) | (refine And.intro (fun _ => ?_) (fun e => Bool.noConfusion (show (true : Bool) = false from e)); conv => whnf) | (refine And.intro (by first | exact True.intro | ((try dsimp only [CDiv, CMul, CDivN, CPow] at *) <;> omega) | ((try dsimp only [CDiv, CMul, CDivN, CPow] at *) <;> (simp only [List.length_map, List.length_append, List.length_cons, List.length_nil, List.length_reverse, strApp_len, len1, szl] at *) <;> omega) | rfl | exact of_decide_eq_true rfl) ?_; conv => whnf))
        exact fin0 rfl (by rw [el]; exact h)
      rw [if_neg c] at h
      refine no_of (decide_eq_false (by rw [el]; omega)) ?_
      (try conv => whnf); repeat (first | (refine And.intro (fun e => Bool.noConfusion (show (false : Bool) = true from e)) (fun _ => ?_); conv => whnf) | (refine And.intro (fun _ => ?_) (fun e => Bool.noConfusion (show (true : Bool) = false from e)); conv => whnf) | (refine And.intro (by first | exact True.intro | ((try dsimp only [CDiv, CMul, CDivN, CPow] at *) <;> omega) | ((try dsimp only [CDiv, CMul, CDivN, CPow] at *) <;> (simp only [List.length_map, List.length_append, List.length_cons, List.length_nil, List.length_reverse, strApp_len, len1, szl] at *) <;> omega) | rfl | exact of_decide_eq_true rfl) ?_; conv => whnf))
      refine bindO_of la ?_
      (try conv => whnf); repeat (first | (refine And.intro (fun e => Bool.noConfusion (show (false : Bool) = true from e)) (fun _ => ?_); conv => whnf) | (refine And.intro (fun _ => ?_) (fun e => Bool.noConfusion (show (true : Bool) = false from e)); conv => whnf) | (refine And.intro (by first | exact True.intro | ((try dsimp only [CDiv, CMul, CDivN, CPow] at *) <;> omega) | ((try dsimp only [CDiv, CMul, CDivN, CPow] at *) <;> (simp only [List.length_map, List.length_append, List.length_cons, List.length_nil, List.length_reverse, strApp_len, len1, szl] at *) <;> omega) | rfl | exact of_decide_eq_true rfl) ?_; conv => whnf))
      refine bindO_of (inO_e ks _ (by decide)) ?_
      by_cases c1 : R.getLastD "" ∈ ks
      · rw [if_pos c1] at h
        refine yes_of (by simpa using c1) ?_
        (try conv => whnf); repeat (first | (refine And.intro (fun e => Bool.noConfusion (show (false : Bool) = true from e)) (fun _ => ?_); conv => whnf) | (refine And.intro (fun _ => ?_) (fun e => Bool.noConfusion (show (true : Bool) = false from e)); conv => whnf) | (refine And.intro (by first | exact True.intro | ((try dsimp only [CDiv, CMul, CDivN, CPow] at *) <;> omega) | ((try dsimp only [CDiv, CMul, CDivN, CPow] at *) <;> (simp only [List.length_map, List.length_append, List.length_cons, List.length_nil, List.length_reverse, strApp_len, len1, szl] at *) <;> omega) | rfl | exact of_decide_eq_true rfl) ?_; conv => whnf))
        exact fin0 rfl (by rw [el]; exact h)
      rw [if_neg c1] at h
      refine no_of (by simpa using c1) ?_
      (try conv => whnf); repeat (first | (refine And.intro (fun e => Bool.noConfusion (show (false : Bool) = true from e)) (fun _ => ?_); conv => whnf) | (refine And.intro (fun _ => ?_) (fun e => Bool.noConfusion (show (true : Bool) = false from e)); conv => whnf) | (refine And.intro (by first | exact True.intro | ((try dsimp only [CDiv, CMul, CDivN, CPow] at *) <;> omega) | ((try dsimp only [CDiv, CMul, CDivN, CPow] at *) <;> (simp only [List.length_map, List.length_append, List.length_cons, List.length_nil, List.length_reverse, strApp_len, len1, szl] at *) <;> omega) | rfl | exact of_decide_eq_true rfl) ?_; conv => whnf))
      refine bindO_of h0 ?_
      (try conv => whnf); repeat (first | (refine And.intro (fun e => Bool.noConfusion (show (false : Bool) = true from e)) (fun _ => ?_); conv => whnf) | (refine And.intro (fun _ => ?_) (fun e => Bool.noConfusion (show (true : Bool) = false from e)); conv => whnf) | (refine And.intro (by first | exact True.intro | ((try dsimp only [CDiv, CMul, CDivN, CPow] at *) <;> omega) | ((try dsimp only [CDiv, CMul, CDivN, CPow] at *) <;> (simp only [List.length_map, List.length_append, List.length_cons, List.length_nil, List.length_reverse, strApp_len, len1, szl] at *) <;> omega) | rfl | exact of_decide_eq_true rfl) ?_; conv => whnf))
      refine bindO_of (inO_e ks _ (by decide)) ?_
      by_cases c2 : w ∈ ks
      · rw [if_pos c2] at h
        refine yes_of (by simpa using c2) ?_
        (try conv => whnf); repeat (first | (refine And.intro (fun e => Bool.noConfusion (show (false : Bool) = true from e)) (fun _ => ?_); conv => whnf) | (refine And.intro (fun _ => ?_) (fun e => Bool.noConfusion (show (true : Bool) = false from e)); conv => whnf) | (refine And.intro (by first | exact True.intro | ((try dsimp only [CDiv, CMul, CDivN, CPow] at *) <;> omega) | ((try dsimp only [CDiv, CMul, CDivN, CPow] at *) <;> (simp only [List.length_map, List.length_append, List.length_cons, List.length_nil, List.length_reverse, strApp_len, len1, szl] at *) <;> omega) | rfl | exact of_decide_eq_true rfl) ?_; conv => whnf))
        exact fin0 rfl (by rw [el]; exact h)
      rw [if_neg c2] at h
      refine no_of (by simpa using c2) ?_
      (try conv => whnf); repeat (first | (refine And.intro (fun e => Bool.noConfusion (show (false : Bool) = true from e)) (fun _ => ?_); conv => whnf) | (refine And.intro (fun _ => ?_) (fun e => Bool.noConfusion (show (true : Bool) = false from e)); conv => whnf) | (refine And.intro (by first | exact True.intro | ((try dsimp only [CDiv, CMul, CDivN, CPow] at *) <;> omega) | ((try dsimp only [CDiv, CMul, CDivN, CPow] at *) <;> (simp only [List.length_map, List.length_append, List.length_cons, List.length_nil, List.length_reverse, strApp_len, len1, szl] at *) <;> omega) | rfl | exact of_decide_eq_true rfl) ?_; conv => whnf))
      exact fin0 rfl (by rw [el]; exact h)

def sp__law_kind : FV := fun ds gs Q _ => ∃ (c : Int) (ks os : List Str), ds = [.int c, .lst (ks.map .str), .lst (os.map .str)] ∧ ks ≠ [] ∧ os ≠ [] ∧ ks.length ≤ 100 ∧ os.length ≤ 100 ∧ ∀ w, (w ∈ ks ∨ w ∈ os) → Q (.fz (.str w)) gs

def fb__law_kind : FS := sSeq (sIf (fTest (fOp (gEq false) (fOp gMod (fVar 0) (fC (.int 2))) (fC (.int 0)))) (sRet (fOp gIx (fVar 2) (fOp gMod (fOp gDiv (fVar 0) (fC (.int 2))) (fUn gLen (fVar 2))))) (sNil))
  (sRet (fOp gIx (fVar 1) (fOp gMod (fOp gDiv (fVar 0) (fC (.int 2))) (fUn gLen (fVar 1)))))
theorem bd__law_kind : ∀ ds gs Q Qe, sp__law_kind ds gs Q Qe → bodyV 3 fb__law_kind ds gs Q Qe := by
  rintro ds gs Q Qe ⟨c, ks, os, rfl, h1, h2, h3, h4, h⟩
  have e1 : (ks.map D.str).length = ks.length := List.length_map ..
  have e2 : (os.map D.str).length = os.length := List.length_map ..
  have p1 : 0 < ks.length := List.length_pos_iff.mpr h1
  have p2 : 0 < os.length := List.length_pos_iff.mpr h2
  (try conv => whnf); repeat (first | (refine And.intro (fun e => Bool.noConfusion (show (false : Bool) = true from e)) (fun _ => ?_); conv => whnf) | (refine And.intro (fun _ => ?_) (fun e => Bool.noConfusion (show (true : Bool) = false from e)); conv => whnf) | (refine And.intro (by first | exact True.intro | ((try dsimp only [CDiv, CMul, CDivN, CPow] at *) <;> omega) | ((try dsimp only [CDiv, CMul, CDivN, CPow] at *) <;> (simp only [List.length_map, List.length_append, List.length_cons, List.length_nil, List.length_reverse, strApp_len, len1, szl] at *) <;> omega) | rfl | exact of_decide_eq_true rfl) ?_; conv => whnf))
  by_cases cc : c % 2 = 0
  · refine yes_of (by simp [cc]) ?_
    have n1 := Int.emod_nonneg (c / 2) (show ((os.length : Nat) : Int) ≠ 0 by omega)
    have n2 := Int.emod_lt_of_pos (c / 2) (show 0 < ((os.length : Nat) : Int) by omega)
    (try conv => whnf); repeat (first | (refine And.intro (fun e => Bool.noConfusion (show (false : Bool) = true from e)) (fun _ => ?_); conv => whnf) | (refine And.intro (fun _ => ?_) (fun e => Bool.noConfusion (show (true : Bool) = false from e)); conv => whnf) | (refine And.intro (by first | exact True.intro | ((try dsimp only [CDiv, CMul, CDivN, CPow] at *) <;> omega) | ((try dsimp only [CDiv, CMul, CDivN, CPow] at *) <;> (simp only [List.length_map, List.length_append, List.length_cons, List.length_nil, List.length_reverse, strApp_len, len1, szl] at *) <;> omega) | rfl | exact of_decide_eq_true rfl) ?_; conv => whnf))
    rw [e2]
    refine bindO_atm D.str n1 n2 fun x hx => ?_
    (try conv => whnf); repeat (first | (refine And.intro (fun e => Bool.noConfusion (show (false : Bool) = true from e)) (fun _ => ?_); conv => whnf) | (refine And.intro (fun _ => ?_) (fun e => Bool.noConfusion (show (true : Bool) = false from e)); conv => whnf) | (refine And.intro (by first | exact True.intro | ((try dsimp only [CDiv, CMul, CDivN, CPow] at *) <;> omega) | ((try dsimp only [CDiv, CMul, CDivN, CPow] at *) <;> (simp only [List.length_map, List.length_append, List.length_cons, List.length_nil, List.length_reverse, strApp_len, len1, szl] at *) <;> omega) | rfl | exact of_decide_eq_true rfl) ?_; conv => whnf))
    exact fin0 rfl (h x (.inr hx))
  · refine no_of (by simpa using cc) ?_
    have n1 := Int.emod_nonneg (c / 2) (show ((ks.length : Nat) : Int) ≠ 0 by omega)
    have n2 := Int.emod_lt_of_pos (c / 2) (show 0 < ((ks.length : Nat) : Int) by omega)
    (try conv => whnf); repeat (first | (refine And.intro (fun e => Bool.noConfusion (show (false : Bool) = true from e)) (fun _ => ?_); conv => whnf) | (refine And.intro (fun _ => ?_) (fun e => Bool.noConfusion (show (true : Bool) = false from e)); conv => whnf) | (refine And.intro (by first | exact True.intro | ((try dsimp only [CDiv, CMul, CDivN, CPow] at *) <;> omega) | ((try dsimp only [CDiv, CMul, CDivN, CPow] at *) <;> (simp only [List.length_map, List.length_append, List.length_cons, List.length_nil, List.length_reverse, strApp_len, len1, szl] at *) <;> omega) | rfl | exact of_decide_eq_true rfl) ?_; conv => whnf))
    rw [e1]
    refine bindO_atm D.str n1 n2 fun x hx => ?_
    (try conv => whnf); repeat (first | (refine And.intro (fun e => Bool.noConfusion (show (false : Bool) = true from e)) (fun _ => ?_); conv => whnf) | (refine And.intro (fun _ => ?_) (fun e => Bool.noConfusion (show (true : Bool) = false from e)); conv => whnf) | (refine And.intro (by first | exact True.intro | ((try dsimp only [CDiv, CMul, CDivN, CPow] at *) <;> omega) | ((try dsimp only [CDiv, CMul, CDivN, CPow] at *) <;> (simp only [List.length_map, List.length_append, List.length_cons, List.length_nil, List.length_reverse, strApp_len, len1, szl] at *) <;> omega) | rfl | exact of_decide_eq_true rfl) ?_; conv => whnf))
    exact fin0 rfl (h x (.inl hx))

def sp__law_names : FV := fun ds gs Q _ => ∃ (c p : Int) (n : Nat), ds = [.int c, .int p, .int n] ∧ n ≤ 57 ∧ Q (.tmp (.lst ((n7Ns 19 c p n).map .str))) gs

def fb__law_names : FS := sSeq (sAsg 3 (fC (.str "abcdfghijklmnopqrstuvwxzABCDFGHIJKLMNOPQRSTUVWXZ0123456789+-*/=<>!?().")))
  (sSeq (sAsg 4 (fOp gAdd (fC (.int 1)) (fOp gMod (fVar 0) (fC (.int 12)))))
  (sSeq (sAsg 5 (fLc (iRange1 (fVar 4)) (gNm 10) (tYesV) (fOp gMod (fOp gAdd (fOp gDiv (fVar 0) (fOp gAdd (fVar 10) (fC (.int 1)))) (fOp gMul (fOp gMul (fC (.int 19)) (fVar 10)) (fVar 10))) (fUn gLen (fVar 3))) [10]))
  (sSeq (sAsg 6 (fOp gMod (fVar 1) (fVar 4)))
  (sSeq (sAsg 7 (fLst (aNil)))
  (sSeq (sFor (iRange1 (fVar 2)) (gNm 8) (sSeq (sAsg 9 (fC (.str "")))
  (sSeq (sFor (iRange1 (fVar 4)) (gNm 10) (sAsg 9 (fOp gAdd (fVar 9) (fOp gIx (fVar 3) (fOp gMod (fOp gAdd (fOp gIx (fVar 5) (fVar 10)) (fOp gMul (fVar 8) (fUn gToInt (fOp (gEq false) (fVar 10) (fVar 6))))) (fUn gLen (fVar 3)))))))
  (sExpr (fMm "list" gAppend (fVar 7) (aCons (fVar 9) (aNil)))))))
  (sRet (fVar 7)))))))
theorem bd__law_names : ∀ ds gs Q Qe, sp__law_names ds gs Q Qe → bodyV 11 fb__law_names ds gs Q Qe := by
  rintro ds gs Q Qe ⟨c, p, n, rfl, hn, h⟩
  have hs : 1 ≤ 1 + c % 12 ∧ 1 + c % 12 ≤ 12 := by omega
  have hzl : (Str.ofString "abcdfghijklmnopqrstuvwxzABCDFGHIJKLMNOPQRSTUVWXZ0123456789+-*/=<>!?().").length = 70 := by decide +kernel
  have hzc : (Str.ofString "abcdfghijklmnopqrstuvwxzABCDFGHIJKLMNOPQRSTUVWXZ0123456789+-*/=<>!?().").cps.toList = n7L := rfl
  (try conv => whnf); repeat (first | (refine And.intro (fun e => Bool.noConfusion (show (false : Bool) = true from e)) (fun _ => ?_); conv => whnf) | (refine And.intro (fun _ => ?_) (fun e => Bool.noConfusion (show (true : Bool) = false from e)); conv => whnf) | (refine And.intro (by first | exact True.intro | ((try dsimp only [CDiv, CMul, CDivN, CPow] at *) <;> omega) | ((try dsimp only [CDiv, CMul, CDivN, CPow] at *) <;> (simp only [List.length_map, List.length_append, List.length_cons, List.length_nil, List.length_reverse, strApp_len, len1, szl] at *) <;> omega) | rfl | exact of_decide_eq_true rfl) ?_; conv => whnf))
  generalize Str.ofString "abcdfghijklmnopqrstuvwxzABCDFGHIJKLMNOPQRSTUVWXZ0123456789+-*/=<>!?()." = z at *
  refine lcR_range (β := Int) D.int (fun i acc m => acc = (List.range i).map (n7S 19 c) ∧ m = (⟨[.val (.int c), .val (.int p), .val (.int n), .val (.str z), .val (.int (1 + c % 12)), .no, .no, .no, .no, .no, .no], gs⟩ : M)) ?_ ?_ (acc := []) ⟨rfl, rfl⟩
  · rintro S m ⟨hS, rfl⟩
    have hS : S = (List.range (1 + c % 12).toNat).map (n7S 19 c) := hS
    refine ⟨trivial, ?_⟩
    have p0 := Int.emod_nonneg p (show 1 + c % 12 ≠ 0 by omega)
    have p1 := Int.emod_lt_of_pos p (show 0 < 1 + c % 12 by omega)
    (try conv => whnf); repeat (first | (refine And.intro (fun e => Bool.noConfusion (show (false : Bool) = true from e)) (fun _ => ?_); conv => whnf) | (refine And.intro (fun _ => ?_) (fun e => Bool.noConfusion (show (true : Bool) = false from e)); conv => whnf) | (refine And.intro (by first | exact True.intro | ((try dsimp only [CDiv, CMul, CDivN, CPow] at *) <;> omega) | ((try dsimp only [CDiv, CMul, CDivN, CPow] at *) <;> (simp only [List.length_map, List.length_append, List.length_cons, List.length_nil, List.length_reverse, strApp_len, len1, szl] at *) <;> omega) | rfl | exact of_decide_eq_true rfl) ?_; conv => whnf))
    refine forR_range (fun i m => ∃ (x8 x9 x10 : Sl), m = (⟨[.val (.int c), .val (.int p), .val (.int n), .val (.str z), .val (.int (1 + c % 12)), .own (.lst (S.map .int)), .val (.int (p % (1 + c % 12))), .own (.lst ((n7Ns 19 c p i).map .str)), x8, x9, x10], gs⟩ : M)) ?_ ?_ ⟨.no, .no, .no, rfl⟩
    · rintro m ⟨x8, x9, x10, rfl⟩
      refine ⟨trivial, ?_⟩
      conv => whnf
      exact fin0 rfl h
    · rintro i m hi ⟨x8, x9, x10, rfl⟩
      refine ⟨trivial, fun k hk => ?_⟩
      have hi : i < n := by omega
      have hl := n7Ns_len 19 c p i
      rw [n7Ns_snoc] at hk
      (try conv => whnf); repeat (first | (refine And.intro (fun e => Bool.noConfusion (show (false : Bool) = true from e)) (fun _ => ?_); conv => whnf) | (refine And.intro (fun _ => ?_) (fun e => Bool.noConfusion (show (true : Bool) = false from e)); conv => whnf) | (refine And.intro (by first | exact True.intro | ((try dsimp only [CDiv, CMul, CDivN, CPow] at *) <;> omega) | ((try dsimp only [CDiv, CMul, CDivN, CPow] at *) <;> (simp only [List.length_map, List.length_append, List.length_cons, List.length_nil, List.length_reverse, strApp_len, len1, szl] at *) <;> omega) | rfl | exact of_decide_eq_true rfl) ?_; conv => whnf))
      refine forR_range (fun j m => ∃ (x10 : Sl), m = (⟨[.val (.int c), .val (.int p), .val (.int n), .val (.str z), .val (.int (1 + c % 12)), .own (.lst (S.map .int)), .val (.int (p % (1 + c % 12))), .own (.lst ((n7Ns 19 c p i).map .str)), .val (.int (0 + i)), .val (.str ⟨((List.range j).map (n7C 19 c p i)).toArray⟩), x10], gs⟩ : M)) ?_ ?_ ⟨_, rfl⟩
      · rintro m ⟨x10, rfl⟩
        refine ⟨trivial, ?_⟩
        (try conv => whnf); repeat (first | (refine And.intro (fun e => Bool.noConfusion (show (false : Bool) = true from e)) (fun _ => ?_); conv => whnf) | (refine And.intro (fun _ => ?_) (fun e => Bool.noConfusion (show (true : Bool) = false from e)); conv => whnf) | (refine And.intro (by first | exact True.intro | ((try dsimp only [CDiv, CMul, CDivN, CPow] at *) <;> omega) | ((try dsimp only [CDiv, CMul, CDivN, CPow] at *) <;> (simp only [List.length_map, List.length_append, List.length_cons, List.length_nil, List.length_reverse, strApp_len, len1, szl] at *) <;> omega) | rfl | exact of_decide_eq_true rfl) ?_; conv => whnf))
        rw [List.map_append] at hk
        exact hk _ ⟨_, _, _, rfl⟩
      · rintro j m hj ⟨x10, rfl⟩
        refine ⟨trivial, fun k hk => ?_⟩
        have hz : (⟨((List.range j).map (n7C 19 c p i)).toArray⟩ : Str).length = j := by simp [Str.length]
        have e2 : ((List.range (j + 1)).map (n7C 19 c p i)) = (List.range j).map (n7C 19 c p i) ++ [n7C 19 c p i j] := by simp [List.range_succ]
        rw [e2, ← n7_snoc] at hk
        try dsimp only at hj
        have hSj : S[j]? = some (n7S 19 c j) := by rw [hS, List.getElem?_map, List.getElem?_range (by omega)]; rfl
        have code : ∀ s : Int, s = n7St c p i j → atI z.cps.toList ((n7S 19 c j + s) % (z.length : Nat)) = some (n7C 19 c p i j) := by
          intro s hs
          subst hs
          rw [hzc, hzl]
          have b1 := n7Ix (n7S 19 c j + n7St c p i j)
          have := at_nat b1
          have e3 : ((((n7S 19 c j + n7St c p i j) % 70).toNat : Nat) : Int) = (n7S 19 c j + n7St c p i j) % (70 : Nat) := by omega
          rw [e3] at this
          unfold n7C
          rw [List.getD_eq_getElem?_getD, List.getElem?_eq_getElem b1]
          exact this
        (try conv => whnf); repeat (first | (refine And.intro (fun e => Bool.noConfusion (show (false : Bool) = true from e)) (fun _ => ?_); conv => whnf) | (refine And.intro (fun _ => ?_) (fun e => Bool.noConfusion (show (true : Bool) = false from e)); conv => whnf) | (refine And.intro (by first | exact True.intro | ((try dsimp only [CDiv, CMul, CDivN, CPow] at *) <;> omega) | ((try dsimp only [CDiv, CMul, CDivN, CPow] at *) <;> (simp only [List.length_map, List.length_append, List.length_cons, List.length_nil, List.length_reverse, strApp_len, len1, szl] at *) <;> omega) | rfl | exact of_decide_eq_true rfl) ?_; conv => whnf))
        refine bindO_atk D.int (n := j) (by omega) hSj ?_
        (try conv => whnf); repeat (first | (refine And.intro (fun e => Bool.noConfusion (show (false : Bool) = true from e)) (fun _ => ?_); conv => whnf) | (refine And.intro (fun _ => ?_) (fun e => Bool.noConfusion (show (true : Bool) = false from e)); conv => whnf) | (refine And.intro (by first | exact True.intro | ((try dsimp only [CDiv, CMul, CDivN, CPow] at *) <;> omega) | ((try dsimp only [CDiv, CMul, CDivN, CPow] at *) <;> (simp only [List.length_map, List.length_append, List.length_cons, List.length_nil, List.length_reverse, strApp_len, len1, szl] at *) <;> omega) | rfl | exact of_decide_eq_true rfl) ?_; conv => whnf))
        by_cases t : (j : Int) = p % (1 + c % 12)
        · have e4 : decide (0 + (j : Int) = p % (1 + c % 12)) = true := by simp [t]
          refine bindO_of (code _ ?_) ?_
          · unfold n7St
            rw [if_pos t]
            try dsimp only
            rw [e4, Int.zero_add]
            rfl
          (try conv => whnf); repeat (first | (refine And.intro (fun e => Bool.noConfusion (show (false : Bool) = true from e)) (fun _ => ?_); conv => whnf) | (refine And.intro (fun _ => ?_) (fun e => Bool.noConfusion (show (true : Bool) = false from e)); conv => whnf) | (refine And.intro (by first | exact True.intro | ((try dsimp only [CDiv, CMul, CDivN, CPow] at *) <;> omega) | ((try dsimp only [CDiv, CMul, CDivN, CPow] at *) <;> (simp only [List.length_map, List.length_append, List.length_cons, List.length_nil, List.length_reverse, strApp_len, len1, szl] at *) <;> omega) | rfl | exact of_decide_eq_true rfl) ?_; conv => whnf))
          exact hk _ ⟨_, rfl⟩
        · have e4 : decide (0 + (j : Int) = p % (1 + c % 12)) = false := by simp [t]
          refine bindO_of (code _ ?_) ?_
          · unfold n7St
            rw [if_neg t]
            try dsimp only
            rw [e4, Int.zero_add]
            rfl
          (try conv => whnf); repeat (first | (refine And.intro (fun e => Bool.noConfusion (show (false : Bool) = true from e)) (fun _ => ?_); conv => whnf) | (refine And.intro (fun _ => ?_) (fun e => Bool.noConfusion (show (true : Bool) = false from e)); conv => whnf) | (refine And.intro (by first | exact True.intro | ((try dsimp only [CDiv, CMul, CDivN, CPow] at *) <;> omega) | ((try dsimp only [CDiv, CMul, CDivN, CPow] at *) <;> (simp only [List.length_map, List.length_append, List.length_cons, List.length_nil, List.length_reverse, strApp_len, len1, szl] at *) <;> omega) | rfl | exact of_decide_eq_true rfl) ?_; conv => whnf))
          exact hk _ ⟨_, rfl⟩
  · rintro j acc m hj ⟨rfl, rfl⟩
    refine ⟨trivial, fun k hk => ?_⟩
    have hj : j < (1 + c % 12).toNat := hj
    have hk := hk ((List.range j).map (n7S 19 c) ++ [n7S 19 c j]) _ ⟨by simp [List.range_succ], rfl⟩
    have e5 : n7S 19 c j = (c / (0 + (j : Int) + 1) + 19 * (0 + (j : Int)) * (0 + (j : Int))) % (z.length : Nat) := by rw [hzl]; unfold n7S; rw [Int.zero_add]; rfl
    have el : ((List.range j).map (n7S 19 c)).length = j := by simp
    rw [List.map_append, List.map_cons, List.map_nil, e5] at hk
    (try conv => whnf); repeat (first | (refine And.intro (fun e => Bool.noConfusion (show (false : Bool) = true from e)) (fun _ => ?_); conv => whnf) | (refine And.intro (fun _ => ?_) (fun e => Bool.noConfusion (show (true : Bool) = false from e)); conv => whnf) | (refine And.intro (by first | exact True.intro | ((try dsimp only [CDiv, CMul, CDivN, CPow] at *) <;> omega) | ((try dsimp only [CDiv, CMul, CDivN, CPow] at *) <;> (simp only [List.length_map, List.length_append, List.length_cons, List.length_nil, List.length_reverse, strApp_len, len1, szl] at *) <;> omega) | rfl | exact of_decide_eq_true rfl) ?_; conv => whnf))
    exact hk

def sp__law_tables : FV := fun ds gs Q _ => ∃ (sort : Str) (rank : Int) (ks : List Str), ds = [.str sort, .int rank, .lst (ks.map .str)] ∧ (gs = [] ∨ ∃ A, gs = [A] ∧ ghB 1 A = true) ∧ ks.Nodup ∧ ks.length ≤ 100 ∧ Q (.fz (tabD (sgT sort rank ks))) gs

def fb__law_tables : FS := sSeq (sAsg 3 (fLst (aCons (fTup (aCons (fTup (aCons (fC (.str "")) (aCons (fC (.int 0)) (aNil)))) (aCons (fTup (aCons (fTup (aCons (fVar 0) (aCons (fVar 1) (aNil)))) (aNil))) (aCons (fUn gNeg (fC (.int 1))) (aNil))))) (aNil))))
  (sSeq (sAsg 4 (fLst (aCons (fGh (fMDisp (pmCons (fTup (aCons (fVar 0) (aCons (fVar 1) (aNil)))) (fC (.int 1)) (pmNil)))) (aCons (fMNew) (aNil)))))
  (sSeq (sAsg 5 (fLst (aCons (fGh (fMNew)) (aCons (fMDisp (pmCons (fC (.str "end")) (fTup (aCons (fC (.str "accept")) (aCons (fC (.int 0)) (aNil)))) (pmNil))) (aNil)))))
  (sSeq (sFor (iRange1 (fUn gLen (fVar 2))) (gNm 6) (sSeq (sExpr (fMm "list" gAppend (fVar 3) (aCons (fTup (aCons (fTup (aCons (fVar 0) (aCons (fVar 1) (aNil)))) (aCons (fTup (aCons (fOp gIx (fVar 2) (fVar 6)) (aNil))) (aCons (fVar 6) (aNil))))) (aNil))))
  (sSeq (sMPutV (fOp gAdd (fVar 6) (fC (.int 2))) (fOp gIx (fVar 4) (fC (.int 0))) (fOp gIx (fVar 2) (fVar 6)))
  (sSeq (sExpr (fMm "list" gAppend (fVar 4) (aCons (fMNew) (aNil))))
  (sSeq (sMPutV (fTup (aCons (fC (.str "shift")) (aCons (fOp gAdd (fVar 6) (fC (.int 2))) (aNil)))) (fOp gIx (fVar 5) (fC (.int 0))) (fOp gIx (fVar 2) (fVar 6)))
  (sExpr (fMm "list" gAppend (fVar 5) (aCons (fMDisp (pmCons (fC (.str "end")) (fTup (aCons (fC (.str "reduce")) (aCons (fOp gAdd (fVar 6) (fC (.int 1))) (aNil)))) (pmNil))) (aNil)))))))))
  (sRet (fTup (aCons (fVar 3) (aCons (fVar 4) (aCons (fVar 5) (aNil)))))))))
theorem at_hd {α : Type} (x : α) (xs : List α) : atI (x :: xs) 0 = some x := by
  have h : (x :: xs)[(0 : Nat)]? = some x := rfl
  exact atI_nat h
theorem sm_gh0 {α : Type} {f : α → D} (h : ∀ x, ghB 0 (f x) = true) (gs : List D) : ∀ xs : List α, SubRL 0 gs (xs.map f) (xs.map f)
  | [] => .nil
  | x :: xs => .cons (.same (h x)) (sm_gh0 h gs xs)
theorem goD_gh (n : Nat) (r : List (GK × Nat)) : ghB n (goD r) = true := by
  unfold goD
  induction r with
  | nil => rfl
  | cons e r ih => simp only [List.map_cons, ghB, ghBM, Bool.and_eq_true] at ih ⊢; exact ⟨rfl, ih⟩
theorem acD_gh (n : Nat) (r : List (Str × Str × Nat)) : ghB n (acD r) = true := by
  unfold acD
  induction r with
  | nil => rfl
  | cons e r ih => simp only [List.map_cons, ghB, ghBM, Bool.and_eq_true] at ih ⊢; exact ⟨rfl, ih⟩
theorem plD_gh (n : Nat) (p : GK × List GK × Int) : ghB n (plD p) = true := by
  simp only [plD, ghB, ghBL, Bool.and_eq_true]
  exact ⟨ghB_gk n _, ghBL_mapD (fun k => ghB_gk n k) _, trivial, trivial⟩
theorem sm_gh1 {α : Type} {f : α → D} (h : ∀ x, ghB 1 (f x) = true) (gs : List D) : ∀ xs : List α, SubRL 1 gs (xs.map f) (xs.map f)
  | [] => .nil
  | x :: xs => .cons (.same (h x)) (sm_gh1 h gs xs)
theorem bd__law_tables : ∀ ds gs Q Qe, sp__law_tables ds gs Q Qe → bodyF 7 fb__law_tables ds gs Q Qe := by
  rintro ds gs Q Qe ⟨sort, rank, ks, rfl, rfl | ⟨A, rfl, hA⟩, nd, hl, h⟩
  · have el : (ks.map D.str).length = ks.length := List.length_map ..
    have en : ((ks.map D.str).length : Int).toNat = ks.length := by rw [el]; rfl
    (try conv => whnf); repeat (first | (refine And.intro (fun e => Bool.noConfusion (show (false : Bool) = true from e)) (fun _ => ?_); conv => whnf) | (refine And.intro (fun _ => ?_) (fun e => Bool.noConfusion (show (true : Bool) = false from e)); conv => whnf) | (refine And.intro (by first | exact True.intro | ((try dsimp only [CDiv, CMul, CDivN, CPow] at *) <;> omega) | ((try dsimp only [CDiv, CMul, CDivN, CPow] at *) <;> (simp only [List.length_map, List.length_append, List.length_cons, List.length_nil, List.length_reverse, strApp_len, len1, szl] at *) <;> omega) | rfl | exact of_decide_eq_true rfl) ?_; conv => whnf))
    refine forR_range (fun i m => ∃ x6 : Sl, m = (⟨[.val (.str sort), .val (.int rank), .val (.lst (ks.map .str)), .own (.lst ((sgP sort rank ks i).map plD)), .own (.lst (.gh 0 :: .dM [] :: (List.range i).map fun _ => .dM [])), .own (.lst (.gh 1 :: acD [("end", "accept", 0)] :: (List.range i).map fun j => acD [("end", "reduce", j + 1)])), x6], [.dM ((sgG sort rank ks i).map fun e => (e.1, natD e.2)), .dM ((sgA ks i).map fun e => (.s e.1, acV e.2))]⟩ : M)) ?_ ?_ ⟨.no, rfl⟩
    · rintro m ⟨x6, rfl⟩
      rw [en]
      refine ⟨trivial, ?_⟩
      (try conv => whnf); repeat (first | (refine And.intro (fun e => Bool.noConfusion (show (false : Bool) = true from e)) (fun _ => ?_); conv => whnf) | (refine And.intro (fun _ => ?_) (fun e => Bool.noConfusion (show (true : Bool) = false from e)); conv => whnf) | (refine And.intro (by first | exact True.intro | ((try dsimp only [CDiv, CMul, CDivN, CPow] at *) <;> omega) | ((try dsimp only [CDiv, CMul, CDivN, CPow] at *) <;> (simp only [List.length_map, List.length_append, List.length_cons, List.length_nil, List.length_reverse, strApp_len, len1, szl] at *) <;> omega) | rfl | exact of_decide_eq_true rfl) ?_; conv => whnf))
      refine ⟨_, .inr ⟨?_, .inr ⟨_, _, rfl, rfl, .tup (.cons (.same ?_) (.cons (.lst (.cons (.gh (Nat.le_refl _) rfl) (.cons (.same rfl) (sm_gh0 (fun _ => rfl) _ _)))) (.cons (.lst (.cons (.gh (Nat.zero_le _) rfl) (.cons (.same (acD_gh 0 _)) (sm_gh0 (fun _ => acD_gh 0 _) _ _)))) .nil)))⟩⟩, ?_⟩
      · refine List.all_eq_true.mpr fun d hd => ?_
        rcases List.mem_cons.mp hd with z | z
        · subst z; exact goD_gh 0 _
        · rcases List.mem_cons.mp z with z | z
          · subst z; exact acD_gh 0 _
          · cases z
      · simp only [ghB]
        exact ghBL_mapD (fun p => plD_gh 0 p) _
      · have e : tabD (sgT sort rank ks) = .tup [.lst ((sgP sort rank ks ks.length).map plD), .lst (goD (sgG sort rank ks ks.length) :: goD [] :: (List.range ks.length).map fun _ => .dM []), .lst (acD (sgA ks ks.length) :: acD [("end", "accept", 0)] :: (List.range ks.length).map fun j => acD [("end", "reduce", j + 1)])] := by
          unfold tabD sgT
          simp only [List.map_cons, List.map_map]
          rfl
        rw [e] at h
        exact h
    · rintro i m hi ⟨x6, rfl⟩
      refine ⟨trivial, fun k hk => ?_⟩
      have hki : ks[i]? = some (kAt ks i) := by unfold kAt; rw [List.getD_eq_getElem?_getD, List.getElem?_eq_getElem (by omega)]; rfl
      have l1 : ((sgP sort rank ks i).map plD).length = i + 1 := by simp [sgP]
      have l2 : ((sgG sort rank ks i).map fun e => (e.1, natD e.2)).length = i + 1 := by simp [sgG]
      have l3 : ((sgA ks i).map fun e => (GK.s e.1, acV e.2)).length = i := by simp [sgA]
      have l4 : ((List.range i).map fun _ => D.dM []).length = i := by simp
      have l5 : ((List.range i).map fun j => acD [("end", "reduce", j + 1)]).length = i := by simp
      have n1 := mset_new (natD (i + 2)) (sgG_new (sort := sort) (rank := rank) nd (show i < ks.length by omega))
      have n2 := mset_new (acV ("shift", i + 2)) (sgA_new nd (show i < ks.length by omega))
      have v2 : D.int (0 + (i : Int) + 2) = natD (i + 2) := by unfold natD; congr 1; omega
      have v1 : D.int (0 + (i : Int) + 1) = natD (i + 1) := by unfold natD; congr 1; omega
      have v0 : D.int (0 + (i : Int)) = D.int i := by congr 1; omega
      have hk := hk ⟨[.val (.str sort), .val (.int rank), .val (.lst (ks.map .str)), .own (.lst ((sgP sort rank ks i).map plD ++ [plD (sgK sort rank, [.s (kAt ks i)], (i : Int))])), .own (.lst (.gh 0 :: .dM [] :: ((List.range i).map fun _ => .dM []) ++ [.dM []])), .own (.lst (.gh 1 :: acD [("end", "accept", 0)] :: ((List.range i).map fun j => acD [("end", "reduce", j + 1)]) ++ [acD [("end", "reduce", i + 1)]])), .val (.int (0 + i))], [.dM ((sgG sort rank ks i).map (fun e => (e.1, natD e.2)) ++ [(.s (kAt ks i), natD (i + 2))]), .dM ((sgA ks i).map (fun e => (.s e.1, acV e.2)) ++ [(.s (kAt ks i), acV ("shift", i + 2))])]⟩ ⟨.val (.int (0 + i)), by
        simp only [sgP, sgG, sgA, List.range_succ, List.map_append, List.map_cons, List.map_nil, List.cons_append]⟩
      (try conv => whnf); repeat (first | (refine And.intro (fun e => Bool.noConfusion (show (false : Bool) = true from e)) (fun _ => ?_); conv => whnf) | (refine And.intro (fun _ => ?_) (fun e => Bool.noConfusion (show (true : Bool) = false from e)); conv => whnf) | (refine And.intro (by first | exact True.intro | ((try dsimp only [CDiv, CMul, CDivN, CPow] at *) <;> omega) | ((try dsimp only [CDiv, CMul, CDivN, CPow] at *) <;> (simp only [List.length_map, List.length_append, List.length_cons, List.length_nil, List.length_reverse, strApp_len, len1, szl] at *) <;> omega) | rfl | exact of_decide_eq_true rfl) ?_; conv => whnf))
      refine bindO_atk D.str (n := i) (by omega) hki ?_
      (try conv => whnf); repeat (first | (refine And.intro (fun e => Bool.noConfusion (show (false : Bool) = true from e)) (fun _ => ?_); conv => whnf) | (refine And.intro (fun _ => ?_) (fun e => Bool.noConfusion (show (true : Bool) = false from e)); conv => whnf) | (refine And.intro (by first | exact True.intro | ((try dsimp only [CDiv, CMul, CDivN, CPow] at *) <;> omega) | ((try dsimp only [CDiv, CMul, CDivN, CPow] at *) <;> (simp only [List.length_map, List.length_append, List.length_cons, List.length_nil, List.length_reverse, strApp_len, len1, szl] at *) <;> omega) | rfl | exact of_decide_eq_true rfl) ?_; conv => whnf))
      refine bindO_of (at_hd _ _) ?_
      (try conv => whnf); repeat (first | (refine And.intro (fun e => Bool.noConfusion (show (false : Bool) = true from e)) (fun _ => ?_); conv => whnf) | (refine And.intro (fun _ => ?_) (fun e => Bool.noConfusion (show (true : Bool) = false from e)); conv => whnf) | (refine And.intro (by first | exact True.intro | ((try dsimp only [CDiv, CMul, CDivN, CPow] at *) <;> omega) | ((try dsimp only [CDiv, CMul, CDivN, CPow] at *) <;> (simp only [List.length_map, List.length_append, List.length_cons, List.length_nil, List.length_reverse, strApp_len, len1, szl] at *) <;> omega) | rfl | exact of_decide_eq_true rfl) ?_; conv => whnf))
      refine bindO_atk D.str (n := i) (by omega) hki ?_
      (try conv => whnf); repeat (first | (refine And.intro (fun e => Bool.noConfusion (show (false : Bool) = true from e)) (fun _ => ?_); conv => whnf) | (refine And.intro (fun _ => ?_) (fun e => Bool.noConfusion (show (true : Bool) = false from e)); conv => whnf) | (refine And.intro (by first | exact True.intro | ((try dsimp only [CDiv, CMul, CDivN, CPow] at *) <;> omega) | ((try dsimp only [CDiv, CMul, CDivN, CPow] at *) <;> (simp only [List.length_map, List.length_append, List.length_cons, List.length_nil, List.length_reverse, strApp_len, len1, szl] at *) <;> omega) | rfl | exact of_decide_eq_true rfl) ?_; conv => whnf))
      refine bindO_of (at_hd _ _) ?_
      (try conv => whnf); repeat (first | (refine And.intro (fun e => Bool.noConfusion (show (false : Bool) = true from e)) (fun _ => ?_); conv => whnf) | (refine And.intro (fun _ => ?_) (fun e => Bool.noConfusion (show (true : Bool) = false from e)); conv => whnf) | (refine And.intro (by first | exact True.intro | ((try dsimp only [CDiv, CMul, CDivN, CPow] at *) <;> omega) | ((try dsimp only [CDiv, CMul, CDivN, CPow] at *) <;> (simp only [List.length_map, List.length_append, List.length_cons, List.length_nil, List.length_reverse, strApp_len, len1, szl] at *) <;> omega) | rfl | exact of_decide_eq_true rfl) ?_; conv => whnf))
      refine bindO_atk D.str (n := i) (by omega) hki ?_
      (try conv => whnf); repeat (first | (refine And.intro (fun e => Bool.noConfusion (show (false : Bool) = true from e)) (fun _ => ?_); conv => whnf) | (refine And.intro (fun _ => ?_) (fun e => Bool.noConfusion (show (true : Bool) = false from e)); conv => whnf) | (refine And.intro (by first | exact True.intro | ((try dsimp only [CDiv, CMul, CDivN, CPow] at *) <;> omega) | ((try dsimp only [CDiv, CMul, CDivN, CPow] at *) <;> (simp only [List.length_map, List.length_append, List.length_cons, List.length_nil, List.length_reverse, strApp_len, len1, szl] at *) <;> omega) | rfl | exact of_decide_eq_true rfl) ?_; conv => whnf))
      have v3 : acV ("shift", i + 2) = .tup [.str "shift", .int (0 + (i : Int) + 2)] := by unfold acV; rw [v2]
      have v4 : plD (sgK sort rank, [GK.s (kAt ks i)], (i : Int)) = .tup [.tup [.str sort, .int rank], .tup [.str (kAt ks i)], .int (0 + (i : Int))] := by rw [v0]; rfl
      have v5 : acD [("end", "reduce", i + 1)] = .dM [(.s "end", .tup [.str "reduce", .int (0 + (i : Int) + 1)])] := by rw [v1]; rfl
      rw [← n1, ← n2, v3, v4, v5, ← v2] at hk
      exact hk
  · have el : (ks.map D.str).length = ks.length := List.length_map ..
    have en : ((ks.map D.str).length : Int).toNat = ks.length := by rw [el]; rfl
    (try conv => whnf); repeat (first | (refine And.intro (fun e => Bool.noConfusion (show (false : Bool) = true from e)) (fun _ => ?_); conv => whnf) | (refine And.intro (fun _ => ?_) (fun e => Bool.noConfusion (show (true : Bool) = false from e)); conv => whnf) | (refine And.intro (by first | exact True.intro | ((try dsimp only [CDiv, CMul, CDivN, CPow] at *) <;> omega) | ((try dsimp only [CDiv, CMul, CDivN, CPow] at *) <;> (simp only [List.length_map, List.length_append, List.length_cons, List.length_nil, List.length_reverse, strApp_len, len1, szl] at *) <;> omega) | rfl | exact of_decide_eq_true rfl) ?_; conv => whnf))
    refine forR_range (fun i m => ∃ x6 : Sl, m = (⟨[.val (.str sort), .val (.int rank), .val (.lst (ks.map .str)), .own (.lst ((sgP sort rank ks i).map plD)), .own (.lst (.gh 1 :: .dM [] :: (List.range i).map fun _ => .dM [])), .own (.lst (.gh 2 :: acD [("end", "accept", 0)] :: (List.range i).map fun j => acD [("end", "reduce", j + 1)])), x6], [A, .dM ((sgG sort rank ks i).map fun e => (e.1, natD e.2)), .dM ((sgA ks i).map fun e => (.s e.1, acV e.2))]⟩ : M)) ?_ ?_ ⟨.no, rfl⟩
    · rintro m ⟨x6, rfl⟩
      rw [en]
      refine ⟨trivial, ?_⟩
      (try conv => whnf); repeat (first | (refine And.intro (fun e => Bool.noConfusion (show (false : Bool) = true from e)) (fun _ => ?_); conv => whnf) | (refine And.intro (fun _ => ?_) (fun e => Bool.noConfusion (show (true : Bool) = false from e)); conv => whnf) | (refine And.intro (by first | exact True.intro | ((try dsimp only [CDiv, CMul, CDivN, CPow] at *) <;> omega) | ((try dsimp only [CDiv, CMul, CDivN, CPow] at *) <;> (simp only [List.length_map, List.length_append, List.length_cons, List.length_nil, List.length_reverse, strApp_len, len1, szl] at *) <;> omega) | rfl | exact of_decide_eq_true rfl) ?_; conv => whnf))
      refine ⟨_, .inr ⟨?_, .inr ⟨_, _, rfl, rfl, .tup (.cons (.same ?_) (.cons (.lst (.cons (.gh (Nat.le_refl 1) rfl) (.cons (.same rfl) (sm_gh1 (fun _ => rfl) _ _)))) (.cons (.lst (.cons (.gh (Nat.le_succ 1) rfl) (.cons (.same (acD_gh 1 _)) (sm_gh1 (fun _ => acD_gh 1 _) _ _)))) .nil)))⟩⟩, ?_⟩
      · refine List.all_eq_true.mpr fun d hd => ?_
        rcases List.mem_cons.mp hd with z | z
        · subst z; exact hA
        rcases List.mem_cons.mp z with z | z
        · subst z; exact goD_gh 1 _
        · rcases List.mem_cons.mp z with z | z
          · subst z; exact acD_gh 1 _
          · cases z
      · simp only [ghB]
        exact ghBL_mapD (fun p => plD_gh 1 p) _
      · have e : tabD (sgT sort rank ks) = .tup [.lst ((sgP sort rank ks ks.length).map plD), .lst (goD (sgG sort rank ks ks.length) :: goD [] :: (List.range ks.length).map fun _ => .dM []), .lst (acD (sgA ks ks.length) :: acD [("end", "accept", 0)] :: (List.range ks.length).map fun j => acD [("end", "reduce", j + 1)])] := by
          unfold tabD sgT
          simp only [List.map_cons, List.map_map]
          rfl
        rw [e] at h
        exact h
    · rintro i m hi ⟨x6, rfl⟩
      refine ⟨trivial, fun k hk => ?_⟩
      have hki : ks[i]? = some (kAt ks i) := by unfold kAt; rw [List.getD_eq_getElem?_getD, List.getElem?_eq_getElem (by omega)]; rfl
      have l1 : ((sgP sort rank ks i).map plD).length = i + 1 := by simp [sgP]
      have l2 : ((sgG sort rank ks i).map fun e => (e.1, natD e.2)).length = i + 1 := by simp [sgG]
      have l3 : ((sgA ks i).map fun e => (GK.s e.1, acV e.2)).length = i := by simp [sgA]
      have l4 : ((List.range i).map fun _ => D.dM []).length = i := by simp
      have l5 : ((List.range i).map fun j => acD [("end", "reduce", j + 1)]).length = i := by simp
      have n1 := mset_new (natD (i + 2)) (sgG_new (sort := sort) (rank := rank) nd (show i < ks.length by omega))
      have n2 := mset_new (acV ("shift", i + 2)) (sgA_new nd (show i < ks.length by omega))
      have v2 : D.int (0 + (i : Int) + 2) = natD (i + 2) := by unfold natD; congr 1; omega
      have v1 : D.int (0 + (i : Int) + 1) = natD (i + 1) := by unfold natD; congr 1; omega
      have v0 : D.int (0 + (i : Int)) = D.int i := by congr 1; omega
      have hk := hk ⟨[.val (.str sort), .val (.int rank), .val (.lst (ks.map .str)), .own (.lst ((sgP sort rank ks i).map plD ++ [plD (sgK sort rank, [.s (kAt ks i)], (i : Int))])), .own (.lst (.gh 1 :: .dM [] :: ((List.range i).map fun _ => .dM []) ++ [.dM []])), .own (.lst (.gh 2 :: acD [("end", "accept", 0)] :: ((List.range i).map fun j => acD [("end", "reduce", j + 1)]) ++ [acD [("end", "reduce", i + 1)]])), .val (.int (0 + i))], [A, .dM ((sgG sort rank ks i).map (fun e => (e.1, natD e.2)) ++ [(.s (kAt ks i), natD (i + 2))]), .dM ((sgA ks i).map (fun e => (.s e.1, acV e.2)) ++ [(.s (kAt ks i), acV ("shift", i + 2))])]⟩ ⟨.val (.int (0 + i)), by
        simp only [sgP, sgG, sgA, List.range_succ, List.map_append, List.map_cons, List.map_nil, List.cons_append]⟩
      (try conv => whnf); repeat (first | (refine And.intro (fun e => Bool.noConfusion (show (false : Bool) = true from e)) (fun _ => ?_); conv => whnf) | (refine And.intro (fun _ => ?_) (fun e => Bool.noConfusion (show (true : Bool) = false from e)); conv => whnf) | (refine And.intro (by first | exact True.intro | ((try dsimp only [CDiv, CMul, CDivN, CPow] at *) <;> omega) | ((try dsimp only [CDiv, CMul, CDivN, CPow] at *) <;> (simp only [List.length_map, List.length_append, List.length_cons, List.length_nil, List.length_reverse, strApp_len, len1, szl] at *) <;> omega) | rfl | exact of_decide_eq_true rfl) ?_; conv => whnf))
      refine bindO_atk D.str (n := i) (by omega) hki ?_
      (try conv => whnf); repeat (first | (refine And.intro (fun e => Bool.noConfusion (show (false : Bool) = true from e)) (fun _ => ?_); conv => whnf) | (refine And.intro (fun _ => ?_) (fun e => Bool.noConfusion (show (true : Bool) = false from e)); conv => whnf) | (refine And.intro (by first | exact True.intro | ((try dsimp only [CDiv, CMul, CDivN, CPow] at *) <;> omega) | ((try dsimp only [CDiv, CMul, CDivN, CPow] at *) <;> (simp only [List.length_map, List.length_append, List.length_cons, List.length_nil, List.length_reverse, strApp_len, len1, szl] at *) <;> omega) | rfl | exact of_decide_eq_true rfl) ?_; conv => whnf))
      refine bindO_of (at_hd _ _) ?_
      (try conv => whnf); repeat (first | (refine And.intro (fun e => Bool.noConfusion (show (false : Bool) = true from e)) (fun _ => ?_); conv => whnf) | (refine And.intro (fun _ => ?_) (fun e => Bool.noConfusion (show (true : Bool) = false from e)); conv => whnf) | (refine And.intro (by first | exact True.intro | ((try dsimp only [CDiv, CMul, CDivN, CPow] at *) <;> omega) | ((try dsimp only [CDiv, CMul, CDivN, CPow] at *) <;> (simp only [List.length_map, List.length_append, List.length_cons, List.length_nil, List.length_reverse, strApp_len, len1, szl] at *) <;> omega) | rfl | exact of_decide_eq_true rfl) ?_; conv => whnf))
      refine bindO_atk D.str (n := i) (by omega) hki ?_
      (try conv => whnf); repeat (first | (refine And.intro (fun e => Bool.noConfusion (show (false : Bool) = true from e)) (fun _ => ?_); conv => whnf) | (refine And.intro (fun _ => ?_) (fun e => Bool.noConfusion (show (true : Bool) = false from e)); conv => whnf) | (refine And.intro (by first | exact True.intro | ((try dsimp only [CDiv, CMul, CDivN, CPow] at *) <;> omega) | ((try dsimp only [CDiv, CMul, CDivN, CPow] at *) <;> (simp only [List.length_map, List.length_append, List.length_cons, List.length_nil, List.length_reverse, strApp_len, len1, szl] at *) <;> omega) | rfl | exact of_decide_eq_true rfl) ?_; conv => whnf))
      refine bindO_of (at_hd _ _) ?_
      (try conv => whnf); repeat (first | (refine And.intro (fun e => Bool.noConfusion (show (false : Bool) = true from e)) (fun _ => ?_); conv => whnf) | (refine And.intro (fun _ => ?_) (fun e => Bool.noConfusion (show (true : Bool) = false from e)); conv => whnf) | (refine And.intro (by first | exact True.intro | ((try dsimp only [CDiv, CMul, CDivN, CPow] at *) <;> omega) | ((try dsimp only [CDiv, CMul, CDivN, CPow] at *) <;> (simp only [List.length_map, List.length_append, List.length_cons, List.length_nil, List.length_reverse, strApp_len, len1, szl] at *) <;> omega) | rfl | exact of_decide_eq_true rfl) ?_; conv => whnf))
      refine bindO_atk D.str (n := i) (by omega) hki ?_
      (try conv => whnf); repeat (first | (refine And.intro (fun e => Bool.noConfusion (show (false : Bool) = true from e)) (fun _ => ?_); conv => whnf) | (refine And.intro (fun _ => ?_) (fun e => Bool.noConfusion (show (true : Bool) = false from e)); conv => whnf) | (refine And.intro (by first | exact True.intro | ((try dsimp only [CDiv, CMul, CDivN, CPow] at *) <;> omega) | ((try dsimp only [CDiv, CMul, CDivN, CPow] at *) <;> (simp only [List.length_map, List.length_append, List.length_cons, List.length_nil, List.length_reverse, strApp_len, len1, szl] at *) <;> omega) | rfl | exact of_decide_eq_true rfl) ?_; conv => whnf))
      have v3 : acV ("shift", i + 2) = .tup [.str "shift", .int (0 + (i : Int) + 2)] := by unfold acV; rw [v2]
      have v4 : plD (sgK sort rank, [GK.s (kAt ks i)], (i : Int)) = .tup [.tup [.str sort, .int rank], .tup [.str (kAt ks i)], .int (0 + (i : Int))] := by rw [v0]; rfl
      have v5 : acD [("end", "reduce", i + 1)] = .dM [(.s "end", .tup [.str "reduce", .int (0 + (i : Int) + 1)])] := by rw [v1]; rfl
      rw [← n1, ← n2, v3, v4, v5, ← v2] at hk
      exact hk

def sp_lay : FV := fun ds gs Q _ => ∃ (T : Tab) (pre : List D) (c c' : Cf) (sym : GK) (words : Nat), ds = [tabD T, .gh pre.length, .gh (pre.length + 1), gkD sym, natD words] ∧ gs = pre ++ cfG c ∧ P3 pre ∧ gkDep sym ≤ 8 ∧ c.st.length ≤ 1000000 ∧ c.sp.length ≤ 1000000 ∧ layC T c sym words = some c' ∧ Q (.fz .non) (pre ++ cfG c')

def fb_lay : FS := sSeq (sExpr (fMm "list" gAppend (fVar 1) (aCons (fMGet (fOp gIx (fOp gIx (fVar 0) (fC (.int 1))) (fOp gIx (fVar 1) (fUn gNeg (fC (.int 1))))) (fVar 3)) (aNil))))
  (sExpr (fMm "list" gAppend (fVar 2) (aCons (fVar 4) (aNil))))
theorem bd_lay : ∀ ds gs Q Qe, sp_lay ds gs Q Qe → bodyV 5 fb_lay ds gs Q Qe := by
  rintro ds gs Q Qe ⟨T, pre, c, c', sym, words, rfl, rfl, hp, hd, l1, l2, hl, h⟩
  unfold layC at hl
  obtain ⟨top, ht, hl⟩ := Option.bind_eq_some_iff.mp hl
  obtain ⟨n, hn, rfl⟩ := Option.map_eq_some_iff.mp hl
  obtain ⟨st', hst⟩ := last_cut ht
  obtain ⟨row, hr, hv⟩ := goN_at hn
  have hv2 := goD_val row sym
  rw [hv] at hv2
  obtain ⟨st, sp, wy⟩ := c
  dsimp only at *
  subst hst
  have el : (List.map natD (st' ++ [top])).length = (st' ++ [top]).length := List.length_map ..
  have e1 : atI (T.goes.map goD) (top : Nat) = some (goD row) := atI_nat (by rw [List.getElem?_map, hr]; rfl)
  have e2 : atI ((st' ++ [top]).map natD) (-1) = some (natD top) := at_lastm natD st' top
  have ec : ∀ (x : List Nat) (y : Nat), (x ++ [y]).map natD = x.map natD ++ [natD y] := fun x y => by rw [List.map_append]; rfl
  unfold cfG at h ⊢
  dsimp only at h ⊢
  rw [ec (st' ++ [top]) n, ec sp words] at h
  rcases hp with rfl | ⟨A, rfl⟩ <;>
  · (try conv => whnf); repeat (first | (refine And.intro (fun e => Bool.noConfusion (show (false : Bool) = true from e)) (fun _ => ?_); conv => whnf) | (refine And.intro (fun _ => ?_) (fun e => Bool.noConfusion (show (true : Bool) = false from e)); conv => whnf) | (refine And.intro (by first | exact True.intro | ((try dsimp only [CDiv, CMul, CDivN, CPow] at *) <;> omega) | ((try dsimp only [CDiv, CMul, CDivN, CPow] at *) <;> (simp only [List.length_map, List.length_append, List.length_cons, List.length_nil, List.length_reverse, strApp_len, len1, szl] at *) <;> omega) | rfl | exact of_decide_eq_true rfl) ?_; conv => whnf))
    refine bindO_of e2 ?_
    (try conv => whnf); repeat (first | (refine And.intro (fun e => Bool.noConfusion (show (false : Bool) = true from e)) (fun _ => ?_); conv => whnf) | (refine And.intro (fun _ => ?_) (fun e => Bool.noConfusion (show (true : Bool) = false from e)); conv => whnf) | (refine And.intro (by first | exact True.intro | ((try dsimp only [CDiv, CMul, CDivN, CPow] at *) <;> omega) | ((try dsimp only [CDiv, CMul, CDivN, CPow] at *) <;> (simp only [List.length_map, List.length_append, List.length_cons, List.length_nil, List.length_reverse, strApp_len, len1, szl] at *) <;> omega) | rfl | exact of_decide_eq_true rfl) ?_; conv => whnf))
    refine bindO_of e1 ?_
    (try conv => whnf); repeat (first | (refine And.intro (fun e => Bool.noConfusion (show (false : Bool) = true from e)) (fun _ => ?_); conv => whnf) | (refine And.intro (fun _ => ?_) (fun e => Bool.noConfusion (show (true : Bool) = false from e)); conv => whnf) | (refine And.intro (by first | exact True.intro | ((try dsimp only [CDiv, CMul, CDivN, CPow] at *) <;> omega) | ((try dsimp only [CDiv, CMul, CDivN, CPow] at *) <;> (simp only [List.length_map, List.length_append, List.length_cons, List.length_nil, List.length_reverse, strApp_len, len1, szl] at *) <;> omega) | rfl | exact of_decide_eq_true rfl) ?_; conv => whnf))
    refine bindO_of (vw_gk _ sym) ?_
    refine bindO_of (gkOf_D sym) ⟨hd, ?_⟩
    refine bindO_of hv2 ?_
    (try conv => whnf); repeat (first | (refine And.intro (fun e => Bool.noConfusion (show (false : Bool) = true from e)) (fun _ => ?_); conv => whnf) | (refine And.intro (fun _ => ?_) (fun e => Bool.noConfusion (show (true : Bool) = false from e)); conv => whnf) | (refine And.intro (by first | exact True.intro | ((try dsimp only [CDiv, CMul, CDivN, CPow] at *) <;> omega) | ((try dsimp only [CDiv, CMul, CDivN, CPow] at *) <;> (simp only [List.length_map, List.length_append, List.length_cons, List.length_nil, List.length_reverse, strApp_len, len1, szl] at *) <;> omega) | rfl | exact of_decide_eq_true rfl) ?_; conv => whnf))
    exact ⟨.inl rfl, h⟩

def sp_put_together : FV := fun ds gs Q _ => ∃ (T : Tab) (pre : List D) (c c' : Cf) (n : Nat), ds = [tabD T, .gh pre.length, .gh (pre.length + 1), .gh (pre.length + 2), natD n] ∧ gs = pre ++ cfG c ∧ P3 pre ∧ TabOk T ∧ c.st.length ≤ 1000000 ∧ c.sp.length ≤ 1000000 ∧ c.wy.length ≤ 1000000 ∧ putC T c n = some c' ∧ Q (.fz .non) (pre ++ cfG c')

def fb_put_together : FS := sSeq (sAsgG (fOp gIx (fOp gIx (fVar 0) (fC (.int 0))) (fVar 4)) (gTp 3 (gsCons (gNm 5) (gsCons (gNm 6) (gsCons (gNm 7) (gsNil))))))
  (sSeq (sAsg 8 (fC (.int 0)))
  (sSeq (sFor (iTupD (fVar 6)) (gNm 9) (sSeq (sExpr (fMm0 "list" gPop (fVar 1)))
  (sAug 8 gAddI (fMm0 "list" gPop (fVar 2)))))
  (sSeq (sIf (fTest (fOp gGe (fVar 7) (fC (.int 0)))) (sExpr (fMm "list" gAppend (fVar 3) (aCons (fTup (aCons (fVar 7) (aCons (fVar 8) (aCons (fOp gIx (fVar 1) (fUn gNeg (fC (.int 1)))) (aNil))))) (aNil)))) (sNil))
  (sExpr (fCall 5 sp_lay (aCons (fVar 0) (aCons (fShare 1) (aCons (fShare 2) (aCons (fVar 5) (aCons (fVar 8) (aNil)))))))))))
theorem bd_put_together : ∀ ds gs Q Qe, sp_put_together ds gs Q Qe → bodyV 10 fb_put_together ds gs Q Qe := by
  rintro ds gs Q Qe ⟨T, pre, c, c', n, rfl, rfl, hp, ok, l1, l2, l3, hc, h⟩
  unfold putC at hc
  obtain ⟨p, hpl, hc⟩ := Option.bind_eq_some_iff.mp hc
  split at hc
  case isFalse => cases hc
  rename_i hlen
  obtain ⟨top, ht, hl⟩ := Option.bind_eq_some_iff.mp hc
  obtain ⟨st', hst⟩ := last_cut ht
  have okp := ok p (List.mem_of_getElem? hpl)
  have e1 : atI (T.plain.map plD) (n : Nat) = some (plD p) := atI_nat (by rw [List.getElem?_map, hpl]; rfl)
  obtain ⟨st, sp, wy⟩ := c
  obtain ⟨sym, parts, rule⟩ := p
  dsimp only at *
  have hS : st = st.take (st.length - parts.length) ++ st.drop (st.length - parts.length) := (List.take_append_drop ..).symm
  have hB : sp = sp.take (sp.length - parts.length) ++ sp.drop (sp.length - parts.length) := (List.take_append_drop ..).symm
  have lU : (st.drop (st.length - parts.length)).length = parts.length := by rw [List.length_drop]; omega
  have lB : (sp.drop (sp.length - parts.length)).length = parts.length := by rw [List.length_drop]; omega
  generalize st.take (st.length - parts.length) = S at *
  generalize st.drop (st.length - parts.length) = U at *
  generalize sp.take (sp.length - parts.length) = A at *
  generalize sp.drop (sp.length - parts.length) = B at *
  subst hS hB hst
  rw [List.length_append] at l1 l2
  have e2 : atI ((st' ++ [top]).map natD) (-1) = some (natD top) := at_lastm natD st' top
  have step : ∀ r, r < parts.length → ∃ u b, U[r]? = some u ∧ B[r]? = some b ∧ U.take (r + 1) = U.take r ++ [u] ∧ B.take (r + 1) = B.take r ++ [b] ∧ (B.drop r).sum = b + (B.drop (r + 1)).sum := fun r hr => by
    have h1 : U[r]? = some U[r] := List.getElem?_eq_getElem (by omega)
    have h2 : B[r]? = some B[r] := List.getElem?_eq_getElem (by omega)
    exact ⟨_, _, h1, h2, by rw [List.take_succ, h1]; rfl, by rw [List.take_succ, h2]; rfl, by rw [List.drop_eq_getElem_cons (by omega), List.sum_cons]⟩
  unfold cfG at h ⊢
  dsimp only at h ⊢
  obtain ⟨q, hq⟩ : ∃ q, q = pre := ⟨_, rfl⟩
  rcases hp with rfl | ⟨A0, rfl⟩ <;>
  · (try conv => whnf); repeat (first | (refine And.intro (fun e => Bool.noConfusion (show (false : Bool) = true from e)) (fun _ => ?_); conv => whnf) | (refine And.intro (fun _ => ?_) (fun e => Bool.noConfusion (show (true : Bool) = false from e)); conv => whnf) | (refine And.intro (by first | exact True.intro | ((try dsimp only [CDiv, CMul, CDivN, CPow] at *) <;> omega) | ((try dsimp only [CDiv, CMul, CDivN, CPow] at *) <;> (simp only [List.length_map, List.length_append, List.length_cons, List.length_nil, List.length_reverse, strApp_len, len1, szl] at *) <;> omega) | rfl | exact of_decide_eq_true rfl) ?_; conv => whnf))
    refine bindO_of e1 ?_
    (try conv => whnf); repeat (first | (refine And.intro (fun e => Bool.noConfusion (show (false : Bool) = true from e)) (fun _ => ?_); conv => whnf) | (refine And.intro (fun _ => ?_) (fun e => Bool.noConfusion (show (true : Bool) = false from e)); conv => whnf) | (refine And.intro (by first | exact True.intro | ((try dsimp only [CDiv, CMul, CDivN, CPow] at *) <;> omega) | ((try dsimp only [CDiv, CMul, CDivN, CPow] at *) <;> (simp only [List.length_map, List.length_append, List.length_cons, List.length_nil, List.length_reverse, strApp_len, len1, szl] at *) <;> omega) | rfl | exact of_decide_eq_true rfl) ?_; conv => whnf))
    refine forR_map gkD (fun rest m => ∃ (x9 : Sl), rest.length ≤ parts.length ∧ m = ⟨[.val (tabD T), .val (.gh q.length), .val (.gh (q.length + 1)), .val (.gh (q.length + 2)), .val (natD n), .val (gkD sym), .val (.tup (parts.map gkD)), .val (.int rule), .val (natD (B.drop rest.length).sum), x9], q ++ [.lst ((st' ++ [top] ++ U.take rest.length).map natD), .lst ((A ++ B.take rest.length).map natD), .lst (wy.map wyD)]⟩) ?_ ?_ parts _ ⟨.no, Nat.le_refl _, ?_⟩
    · rintro m ⟨x9, _, rfl⟩
      subst hq
      rw [show ([] : List GK).length = 0 from rfl, List.take_zero, List.take_zero, List.drop_zero, List.append_nil, List.append_nil]
      refine ⟨trivial, ?_⟩
      (try conv => whnf); repeat (first | (refine And.intro (fun e => Bool.noConfusion (show (false : Bool) = true from e)) (fun _ => ?_); conv => whnf) | (refine And.intro (fun _ => ?_) (fun e => Bool.noConfusion (show (true : Bool) = false from e)); conv => whnf) | (refine And.intro (by first | exact True.intro | ((try dsimp only [CDiv, CMul, CDivN, CPow] at *) <;> omega) | ((try dsimp only [CDiv, CMul, CDivN, CPow] at *) <;> (simp only [List.length_map, List.length_append, List.length_cons, List.length_nil, List.length_reverse, strApp_len, len1, szl] at *) <;> omega) | rfl | exact of_decide_eq_true rfl) ?_; conv => whnf))
      by_cases c : 0 ≤ rule
      · rw [if_pos c] at hl
        refine yes_of (by simp [c]) ?_
        (try conv => whnf); repeat (first | (refine And.intro (fun e => Bool.noConfusion (show (false : Bool) = true from e)) (fun _ => ?_); conv => whnf) | (refine And.intro (fun _ => ?_) (fun e => Bool.noConfusion (show (true : Bool) = false from e)); conv => whnf) | (refine And.intro (by first | exact True.intro | ((try dsimp only [CDiv, CMul, CDivN, CPow] at *) <;> omega) | ((try dsimp only [CDiv, CMul, CDivN, CPow] at *) <;> (simp only [List.length_map, List.length_append, List.length_cons, List.length_nil, List.length_reverse, strApp_len, len1, szl] at *) <;> omega) | rfl | exact of_decide_eq_true rfl) ?_; conv => whnf))
        refine bindO_of e2 ?_
        (try conv => whnf); repeat (first | (refine And.intro (fun e => Bool.noConfusion (show (false : Bool) = true from e)) (fun _ => ?_); conv => whnf) | (refine And.intro (fun _ => ?_) (fun e => Bool.noConfusion (show (true : Bool) = false from e)); conv => whnf) | (refine And.intro (by first | exact True.intro | ((try dsimp only [CDiv, CMul, CDivN, CPow] at *) <;> omega) | ((try dsimp only [CDiv, CMul, CDivN, CPow] at *) <;> (simp only [List.length_map, List.length_append, List.length_cons, List.length_nil, List.length_reverse, strApp_len, len1, szl] at *) <;> omega) | rfl | exact of_decide_eq_true rfl) ?_; conv => whnf))
        first | refine ⟨T, [], ⟨st' ++ [top], A, wy ++ [(rule, B.sum, top)]⟩, c', sym, B.sum, rfl, by unfold cfG; dsimp only; rw [map_sn wyD]; rfl, ?_, okp, by simp at l1 ⊢; omega, by simp at l2 ⊢; omega, hl, ?_⟩ | refine ⟨T, [A0], ⟨st' ++ [top], A, wy ++ [(rule, B.sum, top)]⟩, c', sym, B.sum, rfl, by unfold cfG; dsimp only; rw [map_sn wyD]; rfl, ?_, okp, by simp at l1 ⊢; omega, by simp at l2 ⊢; omega, hl, ?_⟩
        · first | exact .inl rfl | exact .inr ⟨_, rfl⟩
        (try conv => whnf); repeat (first | (refine And.intro (fun e => Bool.noConfusion (show (false : Bool) = true from e)) (fun _ => ?_); conv => whnf) | (refine And.intro (fun _ => ?_) (fun e => Bool.noConfusion (show (true : Bool) = false from e)); conv => whnf) | (refine And.intro (by first | exact True.intro | ((try dsimp only [CDiv, CMul, CDivN, CPow] at *) <;> omega) | ((try dsimp only [CDiv, CMul, CDivN, CPow] at *) <;> (simp only [List.length_map, List.length_append, List.length_cons, List.length_nil, List.length_reverse, strApp_len, len1, szl] at *) <;> omega) | rfl | exact of_decide_eq_true rfl) ?_; conv => whnf))
        exact ⟨.inl rfl, h⟩
      · rw [if_neg c] at hl
        refine no_of (by simp [c]) ?_
        (try conv => whnf); repeat (first | (refine And.intro (fun e => Bool.noConfusion (show (false : Bool) = true from e)) (fun _ => ?_); conv => whnf) | (refine And.intro (fun _ => ?_) (fun e => Bool.noConfusion (show (true : Bool) = false from e)); conv => whnf) | (refine And.intro (by first | exact True.intro | ((try dsimp only [CDiv, CMul, CDivN, CPow] at *) <;> omega) | ((try dsimp only [CDiv, CMul, CDivN, CPow] at *) <;> (simp only [List.length_map, List.length_append, List.length_cons, List.length_nil, List.length_reverse, strApp_len, len1, szl] at *) <;> omega) | rfl | exact of_decide_eq_true rfl) ?_; conv => whnf))
        first | refine ⟨T, [], ⟨st' ++ [top], A, wy⟩, c', sym, B.sum, rfl, rfl, ?_, okp, by simp at l1 ⊢; omega, by simp at l2 ⊢; omega, hl, ?_⟩ | refine ⟨T, [A0], ⟨st' ++ [top], A, wy⟩, c', sym, B.sum, rfl, rfl, ?_, okp, by simp at l1 ⊢; omega, by simp at l2 ⊢; omega, hl, ?_⟩
        · first | exact .inl rfl | exact .inr ⟨_, rfl⟩
        (try conv => whnf); repeat (first | (refine And.intro (fun e => Bool.noConfusion (show (false : Bool) = true from e)) (fun _ => ?_); conv => whnf) | (refine And.intro (fun _ => ?_) (fun e => Bool.noConfusion (show (true : Bool) = false from e)); conv => whnf) | (refine And.intro (by first | exact True.intro | ((try dsimp only [CDiv, CMul, CDivN, CPow] at *) <;> omega) | ((try dsimp only [CDiv, CMul, CDivN, CPow] at *) <;> (simp only [List.length_map, List.length_append, List.length_cons, List.length_nil, List.length_reverse, strApp_len, len1, szl] at *) <;> omega) | rfl | exact of_decide_eq_true rfl) ?_; conv => whnf))
        exact ⟨.inl rfl, h⟩
    · rintro x rest m ⟨x9, hr, rfl⟩
      subst hq
      rw [List.length_cons] at hr
      obtain ⟨u, b, h1, h2, h3, h4, h5⟩ := step rest.length (by omega)
      simp only [List.length_cons]
      rw [h3, h4, ← List.append_assoc, ← List.append_assoc]
      refine ⟨trivial, fun k hk => ?_⟩
      (try conv => whnf); repeat (first | (refine And.intro (fun e => Bool.noConfusion (show (false : Bool) = true from e)) (fun _ => ?_); conv => whnf) | (refine And.intro (fun _ => ?_) (fun e => Bool.noConfusion (show (true : Bool) = false from e)); conv => whnf) | (refine And.intro (by first | exact True.intro | ((try dsimp only [CDiv, CMul, CDivN, CPow] at *) <;> omega) | ((try dsimp only [CDiv, CMul, CDivN, CPow] at *) <;> (simp only [List.length_map, List.length_append, List.length_cons, List.length_nil, List.length_reverse, strApp_len, len1, szl] at *) <;> omega) | rfl | exact of_decide_eq_true rfl) ?_; conv => whnf))
      refine bindO_of (pop_at natD _ u) ?_
      (try conv => whnf); repeat (first | (refine And.intro (fun e => Bool.noConfusion (show (false : Bool) = true from e)) (fun _ => ?_); conv => whnf) | (refine And.intro (fun _ => ?_) (fun e => Bool.noConfusion (show (true : Bool) = false from e)); conv => whnf) | (refine And.intro (by first | exact True.intro | ((try dsimp only [CDiv, CMul, CDivN, CPow] at *) <;> omega) | ((try dsimp only [CDiv, CMul, CDivN, CPow] at *) <;> (simp only [List.length_map, List.length_append, List.length_cons, List.length_nil, List.length_reverse, strApp_len, len1, szl] at *) <;> omega) | rfl | exact of_decide_eq_true rfl) ?_; conv => whnf))
      refine bindO_of (pop_at natD _ b) ?_
      (try conv => whnf); repeat (first | (refine And.intro (fun e => Bool.noConfusion (show (false : Bool) = true from e)) (fun _ => ?_); conv => whnf) | (refine And.intro (fun _ => ?_) (fun e => Bool.noConfusion (show (true : Bool) = false from e)); conv => whnf) | (refine And.intro (by first | exact True.intro | ((try dsimp only [CDiv, CMul, CDivN, CPow] at *) <;> omega) | ((try dsimp only [CDiv, CMul, CDivN, CPow] at *) <;> (simp only [List.length_map, List.length_append, List.length_cons, List.length_nil, List.length_reverse, strApp_len, len1, szl] at *) <;> omega) | rfl | exact of_decide_eq_true rfl) ?_; conv => whnf))
      rw [pop_dl, pop_dl]
      refine hk _ ⟨.val (gkD x), by omega, ?_⟩
      rw [h5, ← nat_add]
      rfl
    · subst hq
      rw [List.take_of_length_le (by omega), List.take_of_length_le (by omega), List.drop_eq_nil_of_le (by omega)]
      rfl

def dnD : Option (Str × Nat) → D
  | none => .non
  | some e => acV e
def sp_deed_behind : FV := fun ds gs Q _ => ∃ (T : Tab) (pre : List D) (c c' : Cf) (k : Str) (r : Option (Str × Nat)) (f : Nat), ds = [tabD T, .gh pre.length, .gh (pre.length + 1), .gh (pre.length + 2), .str k] ∧ gs = pre ++ cfG c ∧ P3 pre ∧ TabOk T ∧ c.st.length + f ≤ 1000000 ∧ c.sp.length + f ≤ 1000000 ∧ c.wy.length + f ≤ 1000000 ∧
  deedC T f c k = some (r, c') ∧ Q (.fz (dnD r)) (pre ++ cfG c')

def fb_deed_behind : FS := sSeq (sAsg 5 (fMGet1 (fOp gIx (fOp gIx (fVar 0) (fC (.int 2))) (fOp gIx (fVar 1) (fUn gNeg (fC (.int 1))))) (fVar 4)))
  (sSeq (sWhile (fAnd (fTest (fOp (gIs true) (fVar 5) (fC .non))) (fTest (fOp (gEq false) (fOp gIx (fVar 5) (fC (.int 0))) (fC (.str "reduce"))))) (sSeq (sExpr (fCall 5 sp_put_together (aCons (fVar 0) (aCons (fShare 1) (aCons (fShare 2) (aCons (fShare 3) (aCons (fOp gIx (fVar 5) (fC (.int 1))) (aNil))))))))
  (sAsg 5 (fMGet1 (fOp gIx (fOp gIx (fVar 0) (fC (.int 2))) (fOp gIx (fVar 1) (fUn gNeg (fC (.int 1))))) (fVar 4)))))
  (sRet (fVar 5)))
theorem lay_len {T : Tab} {c c' : Cf} {sym : GK} {w : Nat} (h : layC T c sym w = some c') : c'.st.length = c.st.length + 1 ∧ c'.sp.length = c.sp.length + 1 ∧ c'.wy = c.wy := by
  unfold layC at h
  obtain ⟨top, ht, hl⟩ := Option.bind_eq_some_iff.mp h
  obtain ⟨n, hn, rfl⟩ := Option.map_eq_some_iff.mp hl
  simp
theorem put_len {T : Tab} {c c' : Cf} {n : Nat} (h : putC T c n = some c') : c'.st.length ≤ c.st.length + 1 ∧ c'.sp.length ≤ c.sp.length + 1 ∧ c'.wy.length ≤ c.wy.length + 1 := by
  unfold putC at h
  obtain ⟨p, hpl, hc⟩ := Option.bind_eq_some_iff.mp h
  split at hc
  case isFalse => cases hc
  obtain ⟨top, ht, hl⟩ := Option.bind_eq_some_iff.mp hc
  obtain ⟨h1, h2, h3⟩ := lay_len hl
  dsimp only at h1 h2 h3
  rw [List.length_take] at h1 h2
  refine ⟨by omega, by omega, ?_⟩
  rw [h3]
  split
  · simp
  · omega
theorem bd_deed_behind : ∀ ds gs Q Qe, sp_deed_behind ds gs Q Qe → bodyV 6 fb_deed_behind ds gs Q Qe := by
  rintro ds gs Q Qe ⟨T, pre, c, c', k, r, f, rfl, rfl, hp, ok, l1, l2, l3, hc, h⟩
  have look : ∀ {f : Nat} {c : Cf}, deedC T f c k = some (r, c') → ∃ st top row a g, f = g + 1 ∧ c.st = st ++ [top] ∧ T.acts[top]? = some row ∧ ((row.find? fun e => decide (e.1 = k)).map (·.2)) = a ∧ deedK T (fun c' => deedC T g c' k) c a = some (r, c') := by
    intro f c hc
    cases f with
    | zero => cases hc
    | succ g =>
      unfold deedC at hc
      obtain ⟨top, ht, hc⟩ := Option.bind_eq_some_iff.mp hc
      obtain ⟨a, ha, hc⟩ := Option.bind_eq_some_iff.mp hc
      obtain ⟨st, hst⟩ := last_cut ht
      obtain ⟨row, hr, hv⟩ := acN_at ha
      exact ⟨st, top, row, a, g, rfl, hst, hr, hv, hc⟩
  have vn : ∀ (a : Option (Str × Nat)) (K : D → Prop), K (dnD a) → (match a.map acV with | some x => K x | none => K .non) := fun a K h => by cases a <;> exact h
  obtain ⟨q, hq⟩ : ∃ q, q = pre := ⟨_, rfl⟩
  rcases hp with rfl | ⟨A0, rfl⟩ <;>
  · obtain ⟨st, top, row, a, g, rfl, hst, hr, hv, hc⟩ := look hc
    obtain ⟨cst, sp, wy⟩ := c
    dsimp only at *
    subst hst
    have e1 : atI (T.acts.map acD) (top : Nat) = some (acD row) := atI_nat (by rw [List.getElem?_map, hr]; rfl)
    have e2 : atI ((st ++ [top]).map natD) (-1) = some (natD top) := at_lastm natD st top
    have e3 := acD_val row k
    rw [hv] at e3
    have ec : cfG ⟨st ++ [top], sp, wy⟩ = [.lst ((st ++ [top]).map natD), .lst (sp.map natD), .lst (wy.map wyD)] := rfl
    rw [ec]
    (try conv => whnf); repeat (first | (refine And.intro (fun e => Bool.noConfusion (show (false : Bool) = true from e)) (fun _ => ?_); conv => whnf) | (refine And.intro (fun _ => ?_) (fun e => Bool.noConfusion (show (true : Bool) = false from e)); conv => whnf) | (refine And.intro (by first | exact True.intro | ((try dsimp only [CDiv, CMul, CDivN, CPow] at *) <;> omega) | ((try dsimp only [CDiv, CMul, CDivN, CPow] at *) <;> (simp only [List.length_map, List.length_append, List.length_cons, List.length_nil, List.length_reverse, strApp_len, len1, szl] at *) <;> omega) | rfl | exact of_decide_eq_true rfl) ?_; conv => whnf))
    refine bindO_of e2 ?_
    (try conv => whnf); repeat (first | (refine And.intro (fun e => Bool.noConfusion (show (false : Bool) = true from e)) (fun _ => ?_); conv => whnf) | (refine And.intro (fun _ => ?_) (fun e => Bool.noConfusion (show (true : Bool) = false from e)); conv => whnf) | (refine And.intro (by first | exact True.intro | ((try dsimp only [CDiv, CMul, CDivN, CPow] at *) <;> omega) | ((try dsimp only [CDiv, CMul, CDivN, CPow] at *) <;> (simp only [List.length_map, List.length_append, List.length_cons, List.length_nil, List.length_reverse, strApp_len, len1, szl] at *) <;> omega) | rfl | exact of_decide_eq_true rfl) ?_; conv => whnf))
    refine bindO_of e1 ?_
    (try conv => whnf); repeat (first | (refine And.intro (fun e => Bool.noConfusion (show (false : Bool) = true from e)) (fun _ => ?_); conv => whnf) | (refine And.intro (fun _ => ?_) (fun e => Bool.noConfusion (show (true : Bool) = false from e)); conv => whnf) | (refine And.intro (by first | exact True.intro | ((try dsimp only [CDiv, CMul, CDivN, CPow] at *) <;> omega) | ((try dsimp only [CDiv, CMul, CDivN, CPow] at *) <;> (simp only [List.length_map, List.length_append, List.length_cons, List.length_nil, List.length_reverse, strApp_len, len1, szl] at *) <;> omega) | rfl | exact of_decide_eq_true rfl) ?_; conv => whnf))
    rw [e3]
    refine vn a (fun x => _) ?_
    (try conv => whnf); repeat (first | (refine And.intro (fun e => Bool.noConfusion (show (false : Bool) = true from e)) (fun _ => ?_); conv => whnf) | (refine And.intro (fun _ => ?_) (fun e => Bool.noConfusion (show (true : Bool) = false from e)); conv => whnf) | (refine And.intro (by first | exact True.intro | ((try dsimp only [CDiv, CMul, CDivN, CPow] at *) <;> omega) | ((try dsimp only [CDiv, CMul, CDivN, CPow] at *) <;> (simp only [List.length_map, List.length_append, List.length_cons, List.length_nil, List.length_reverse, strApp_len, len1, szl] at *) <;> omega) | rfl | exact of_decide_eq_true rfl) ?_; conv => whnf))
    refine while_ind (fun n m => ∃ (c2 : Cf) (a2 : Option (Str × Nat)), c2.st.length + n ≤ 1000000 ∧ c2.sp.length + n ≤ 1000000 ∧ c2.wy.length + n ≤ 1000000 ∧ deedK T (fun c' => deedC T n c' k) c2 a2 = some (r, c') ∧ m = (⟨[.val (tabD T), .val (.gh q.length), .val (.gh (q.length + 1)), .val (.gh (q.length + 2)), .val (.str k), .val (dnD a2)], q ++ cfG c2⟩ : M)) ?_ (n := g) ⟨⟨st ++ [top], sp, wy⟩, a, by dsimp only; omega, by dsimp only; omega, by dsimp only; omega, hc, by subst hq; rfl⟩
    rintro n m ⟨c2, a2, b1, b2, b3, hk, rfl⟩
    subst hq
    cases a2 with
    | none =>
      rw [deedK_none] at hk
      cases hk
      (try conv => whnf); repeat (first | (refine And.intro (fun e => Bool.noConfusion (show (false : Bool) = true from e)) (fun _ => ?_); conv => whnf) | (refine And.intro (fun _ => ?_) (fun e => Bool.noConfusion (show (true : Bool) = false from e)); conv => whnf) | (refine And.intro (by first | exact True.intro | ((try dsimp only [CDiv, CMul, CDivN, CPow] at *) <;> omega) | ((try dsimp only [CDiv, CMul, CDivN, CPow] at *) <;> (simp only [List.length_map, List.length_append, List.length_cons, List.length_nil, List.length_reverse, strApp_len, len1, szl] at *) <;> omega) | rfl | exact of_decide_eq_true rfl) ?_; conv => whnf))
      exact ⟨.inl rfl, h⟩
    | some e =>
      rw [deedK_some] at hk
      by_cases cr : e.1 = ("reduce" : Str)
      · rw [if_pos cr] at hk
        obtain ⟨c3, hp3, hd3⟩ := Option.bind_eq_some_iff.mp hk
        obtain ⟨z1, z2, z3⟩ := put_len hp3
        (try conv => whnf); repeat (first | (refine And.intro (fun e => Bool.noConfusion (show (false : Bool) = true from e)) (fun _ => ?_); conv => whnf) | (refine And.intro (fun _ => ?_) (fun e => Bool.noConfusion (show (true : Bool) = false from e)); conv => whnf) | (refine And.intro (by first | exact True.intro | ((try dsimp only [CDiv, CMul, CDivN, CPow] at *) <;> omega) | ((try dsimp only [CDiv, CMul, CDivN, CPow] at *) <;> (simp only [List.length_map, List.length_append, List.length_cons, List.length_nil, List.length_reverse, strApp_len, len1, szl] at *) <;> omega) | rfl | exact of_decide_eq_true rfl) ?_; conv => whnf))
        refine yes_of (by simp [cr]) ?_
        (try conv => whnf); repeat (first | (refine And.intro (fun e => Bool.noConfusion (show (false : Bool) = true from e)) (fun _ => ?_); conv => whnf) | (refine And.intro (fun _ => ?_) (fun e => Bool.noConfusion (show (true : Bool) = false from e)); conv => whnf) | (refine And.intro (by first | exact True.intro | ((try dsimp only [CDiv, CMul, CDivN, CPow] at *) <;> omega) | ((try dsimp only [CDiv, CMul, CDivN, CPow] at *) <;> (simp only [List.length_map, List.length_append, List.length_cons, List.length_nil, List.length_reverse, strApp_len, len1, szl] at *) <;> omega) | rfl | exact of_decide_eq_true rfl) ?_; conv => whnf))
        first | refine ⟨T, [], c2, c3, e.2, rfl, rfl, .inl rfl, ok, by omega, by omega, by omega, hp3, ?_⟩ | refine ⟨T, [A0], c2, c3, e.2, rfl, rfl, .inr ⟨_, rfl⟩, ok, by omega, by omega, by omega, hp3, ?_⟩
        obtain ⟨st3, top3, row3, a3, g3, rfl, hst3, hr3, hv3, hc3⟩ := look hd3
        obtain ⟨cst3, sp3, wy3⟩ := c3
        dsimp only at *
        subst hst3
        have e1 : atI (T.acts.map acD) (top3 : Nat) = some (acD row3) := atI_nat (by rw [List.getElem?_map, hr3]; rfl)
        have e2 : atI ((st3 ++ [top3]).map natD) (-1) = some (natD top3) := at_lastm natD st3 top3
        have e3 := acD_val row3 k
        rw [hv3] at e3
        have ec : cfG ⟨st3 ++ [top3], sp3, wy3⟩ = [.lst ((st3 ++ [top3]).map natD), .lst (sp3.map natD), .lst (wy3.map wyD)] := rfl
        rw [ec]
        (try conv => whnf); repeat (first | (refine And.intro (fun e => Bool.noConfusion (show (false : Bool) = true from e)) (fun _ => ?_); conv => whnf) | (refine And.intro (fun _ => ?_) (fun e => Bool.noConfusion (show (true : Bool) = false from e)); conv => whnf) | (refine And.intro (by first | exact True.intro | ((try dsimp only [CDiv, CMul, CDivN, CPow] at *) <;> omega) | ((try dsimp only [CDiv, CMul, CDivN, CPow] at *) <;> (simp only [List.length_map, List.length_append, List.length_cons, List.length_nil, List.length_reverse, strApp_len, len1, szl] at *) <;> omega) | rfl | exact of_decide_eq_true rfl) ?_; conv => whnf))
        refine bindO_of e2 ?_
        (try conv => whnf); repeat (first | (refine And.intro (fun e => Bool.noConfusion (show (false : Bool) = true from e)) (fun _ => ?_); conv => whnf) | (refine And.intro (fun _ => ?_) (fun e => Bool.noConfusion (show (true : Bool) = false from e)); conv => whnf) | (refine And.intro (by first | exact True.intro | ((try dsimp only [CDiv, CMul, CDivN, CPow] at *) <;> omega) | ((try dsimp only [CDiv, CMul, CDivN, CPow] at *) <;> (simp only [List.length_map, List.length_append, List.length_cons, List.length_nil, List.length_reverse, strApp_len, len1, szl] at *) <;> omega) | rfl | exact of_decide_eq_true rfl) ?_; conv => whnf))
        refine bindO_of e1 ?_
        (try conv => whnf); repeat (first | (refine And.intro (fun e => Bool.noConfusion (show (false : Bool) = true from e)) (fun _ => ?_); conv => whnf) | (refine And.intro (fun _ => ?_) (fun e => Bool.noConfusion (show (true : Bool) = false from e)); conv => whnf) | (refine And.intro (by first | exact True.intro | ((try dsimp only [CDiv, CMul, CDivN, CPow] at *) <;> omega) | ((try dsimp only [CDiv, CMul, CDivN, CPow] at *) <;> (simp only [List.length_map, List.length_append, List.length_cons, List.length_nil, List.length_reverse, strApp_len, len1, szl] at *) <;> omega) | rfl | exact of_decide_eq_true rfl) ?_; conv => whnf))
        rw [e3]
        refine vn a3 (fun x => _) ?_
        (try conv => whnf); repeat (first | (refine And.intro (fun e => Bool.noConfusion (show (false : Bool) = true from e)) (fun _ => ?_); conv => whnf) | (refine And.intro (fun _ => ?_) (fun e => Bool.noConfusion (show (true : Bool) = false from e)); conv => whnf) | (refine And.intro (by first | exact True.intro | ((try dsimp only [CDiv, CMul, CDivN, CPow] at *) <;> omega) | ((try dsimp only [CDiv, CMul, CDivN, CPow] at *) <;> (simp only [List.length_map, List.length_append, List.length_cons, List.length_nil, List.length_reverse, strApp_len, len1, szl] at *) <;> omega) | rfl | exact of_decide_eq_true rfl) ?_; conv => whnf))
        exact ⟨g3, by omega, ⟨st3 ++ [top3], sp3, wy3⟩, a3, by dsimp only; omega, by dsimp only; omega, by dsimp only; omega, hc3, rfl⟩
      · rw [if_neg cr] at hk
        cases hk
        (try conv => whnf); repeat (first | (refine And.intro (fun e => Bool.noConfusion (show (false : Bool) = true from e)) (fun _ => ?_); conv => whnf) | (refine And.intro (fun _ => ?_) (fun e => Bool.noConfusion (show (true : Bool) = false from e)); conv => whnf) | (refine And.intro (by first | exact True.intro | ((try dsimp only [CDiv, CMul, CDivN, CPow] at *) <;> omega) | ((try dsimp only [CDiv, CMul, CDivN, CPow] at *) <;> (simp only [List.length_map, List.length_append, List.length_cons, List.length_nil, List.length_reverse, strApp_len, len1, szl] at *) <;> omega) | rfl | exact of_decide_eq_true rfl) ?_; conv => whnf))
        refine no_of (by simp [cr]) ?_
        (try conv => whnf); repeat (first | (refine And.intro (fun e => Bool.noConfusion (show (false : Bool) = true from e)) (fun _ => ?_); conv => whnf) | (refine And.intro (fun _ => ?_) (fun e => Bool.noConfusion (show (true : Bool) = false from e)); conv => whnf) | (refine And.intro (by first | exact True.intro | ((try dsimp only [CDiv, CMul, CDivN, CPow] at *) <;> omega) | ((try dsimp only [CDiv, CMul, CDivN, CPow] at *) <;> (simp only [List.length_map, List.length_append, List.length_cons, List.length_nil, List.length_reverse, strApp_len, len1, szl] at *) <;> omega) | rfl | exact of_decide_eq_true rfl) ?_; conv => whnf))
        exact ⟨.inl rfl, h⟩

theorem cfG_no (c : Cf) : noCL (cfG c) = true := by
  have h1 : ∀ l : List Nat, noCL (l.map natD) = true := fun l => noCL_map (f := natD) (fun _ => rfl) l
  have h2 : noCL (c.wy.map wyD) = true := noCL_map (f := wyD) (fun _ => by simp [wyD, noC, noCL, natD]) c.wy
  simp [cfG, noCL, noC, h1, h2]
def sp_kind_at : FV := fun ds gs Q _ => ∃ (ks : List Str) (i : Nat) (l : List Int) (c : Cf), ds = [askR ks, .int ks.length, .int i] ∧ gs = preA l ++ cfG c ∧ ks.length ≤ 1000000 ∧ l.length ≤ 1000000 ∧ Q (.fz (.str (ks.getD i "end"))) (preA (if i < ks.length then noteA l i else l) ++ cfG c)

def fb_kind_at : FS := sSeq (sIf (fTest (fOp gLt (fVar 2) (fVar 1))) (sRet (fCallP 0 clo_tbl (aCons (fVar 2) (aNil)))) (sNil))
  (sRet (fC (.str "end")))
theorem bd_kind_at : ∀ ds gs Q Qe, sp_kind_at ds gs Q Qe → bodyV 3 fb_kind_at ds gs Q Qe := by
  rintro ds gs Q Qe ⟨ks, i, l, c, rfl, rfl, h1, h2, h⟩
  by_cases ci : i < ks.length
  · have hk : ks[i]? = some ks[i] := List.getElem?_eq_getElem ci
    rw [if_pos ci, List.getD_eq_getElem?_getD, hk] at h
    (try conv => whnf); repeat (first | (refine And.intro (fun e => Bool.noConfusion (show (false : Bool) = true from e)) (fun _ => ?_); conv => whnf) | (refine And.intro (fun _ => ?_) (fun e => Bool.noConfusion (show (true : Bool) = false from e)); conv => whnf) | (refine And.intro (by first | exact True.intro | ((try dsimp only [CDiv, CMul, CDivN, CPow] at *) <;> omega) | ((try dsimp only [CDiv, CMul, CDivN, CPow] at *) <;> (simp only [List.length_map, List.length_append, List.length_cons, List.length_nil, List.length_reverse, strApp_len, len1, szl] at *) <;> omega) | rfl | exact of_decide_eq_true rfl) ?_; conv => whnf))
    refine yes_of (by simp [ci]) ?_
    (try conv => whnf); repeat (first | (refine And.intro (fun e => Bool.noConfusion (show (false : Bool) = true from e)) (fun _ => ?_); conv => whnf) | (refine And.intro (fun _ => ?_) (fun e => Bool.noConfusion (show (true : Bool) = false from e)); conv => whnf) | (refine And.intro (by first | exact True.intro | ((try dsimp only [CDiv, CMul, CDivN, CPow] at *) <;> omega) | ((try dsimp only [CDiv, CMul, CDivN, CPow] at *) <;> (simp only [List.length_map, List.length_append, List.length_cons, List.length_nil, List.length_reverse, strApp_len, len1, szl] at *) <;> omega) | rfl | exact of_decide_eq_true rfl) ?_; conv => whnf))
    refine ⟨capsR_no ks, noCL_app (preA_no l) (cfG_no c), ks, i, _, l, cfG c, rfl, rfl, rfl, hk, h1, h2, ?_⟩
    (try conv => whnf); repeat (first | (refine And.intro (fun e => Bool.noConfusion (show (false : Bool) = true from e)) (fun _ => ?_); conv => whnf) | (refine And.intro (fun _ => ?_) (fun e => Bool.noConfusion (show (true : Bool) = false from e)); conv => whnf) | (refine And.intro (by first | exact True.intro | ((try dsimp only [CDiv, CMul, CDivN, CPow] at *) <;> omega) | ((try dsimp only [CDiv, CMul, CDivN, CPow] at *) <;> (simp only [List.length_map, List.length_append, List.length_cons, List.length_nil, List.length_reverse, strApp_len, len1, szl] at *) <;> omega) | rfl | exact of_decide_eq_true rfl) ?_; conv => whnf))
    exact finL rfl rfl h
  · rw [if_neg ci, List.getD_eq_getElem?_getD, List.getElem?_eq_none (by omega)] at h
    (try conv => whnf); repeat (first | (refine And.intro (fun e => Bool.noConfusion (show (false : Bool) = true from e)) (fun _ => ?_); conv => whnf) | (refine And.intro (fun _ => ?_) (fun e => Bool.noConfusion (show (true : Bool) = false from e)); conv => whnf) | (refine And.intro (by first | exact True.intro | ((try dsimp only [CDiv, CMul, CDivN, CPow] at *) <;> omega) | ((try dsimp only [CDiv, CMul, CDivN, CPow] at *) <;> (simp only [List.length_map, List.length_append, List.length_cons, List.length_nil, List.length_reverse, strApp_len, len1, szl] at *) <;> omega) | rfl | exact of_decide_eq_true rfl) ?_; conv => whnf))
    refine no_of (by simp; omega) ?_
    (try conv => whnf); repeat (first | (refine And.intro (fun e => Bool.noConfusion (show (false : Bool) = true from e)) (fun _ => ?_); conv => whnf) | (refine And.intro (fun _ => ?_) (fun e => Bool.noConfusion (show (true : Bool) = false from e)); conv => whnf) | (refine And.intro (by first | exact True.intro | ((try dsimp only [CDiv, CMul, CDivN, CPow] at *) <;> omega) | ((try dsimp only [CDiv, CMul, CDivN, CPow] at *) <;> (simp only [List.length_map, List.length_append, List.length_cons, List.length_nil, List.length_reverse, strApp_len, len1, szl] at *) <;> omega) | rfl | exact of_decide_eq_true rfl) ?_; conv => whnf))
    exact fin0 rfl h

def sp_take : FV := fun ds gs Q _ => ∃ (T : Tab) (pre : List D) (c c' : Cf) (k : Str), ds = [tabD T, .gh pre.length, .gh (pre.length + 1), .gh (pre.length + 2), .str k] ∧ gs = pre ++ cfG c ∧ P3 pre ∧ c.st.length ≤ 1000000 ∧ c.sp.length ≤ 1000000 ∧ c.wy.length ≤ 1000000 ∧ takeC T c k = some c' ∧ Q (.fz .non) (pre ++ cfG c')

def fb_take : FS := sSeq (sExpr (fMm "list" gAppend (fVar 3) (aCons (fTup (aCons (fUn gNeg (fC (.int 1))) (aCons (fC (.int 1)) (aCons (fOp gIx (fVar 1) (fUn gNeg (fC (.int 1)))) (aNil))))) (aNil))))
  (sExpr (fCall 5 sp_lay (aCons (fVar 0) (aCons (fShare 1) (aCons (fShare 2) (aCons (fVar 4) (aCons (fC (.int 1)) (aNil))))))))
theorem bd_take : ∀ ds gs Q Qe, sp_take ds gs Q Qe → bodyV 5 fb_take ds gs Q Qe := by
  rintro ds gs Q Qe ⟨T, pre, c, c', k, rfl, rfl, hp, l1, l2, l3, hc, h⟩
  unfold takeC at hc
  obtain ⟨top, ht, hl⟩ := Option.bind_eq_some_iff.mp hc
  obtain ⟨st', hst⟩ := last_cut ht
  obtain ⟨st, sp, wy⟩ := c
  dsimp only at *
  subst hst
  have e2 : atI ((st' ++ [top]).map natD) (-1) = some (natD top) := at_lastm natD st' top
  have eg : ∀ pre : List D, pre ++ cfG ⟨st' ++ [top], sp, wy ++ [(-1, 1, top)]⟩ = pre ++ [.lst ((st' ++ [top]).map natD), .lst (sp.map natD), .lst (wy.map wyD ++ [.tup [.int (-1), .int 1, natD top]])] := fun pre => by unfold cfG; dsimp only; rw [map_sn wyD]; rfl
  unfold cfG at h ⊢
  dsimp only at h ⊢
  rcases hp with rfl | ⟨A0, rfl⟩ <;>
  · (try conv => whnf); repeat (first | (refine And.intro (fun e => Bool.noConfusion (show (false : Bool) = true from e)) (fun _ => ?_); conv => whnf) | (refine And.intro (fun _ => ?_) (fun e => Bool.noConfusion (show (true : Bool) = false from e)); conv => whnf) | (refine And.intro (by first | exact True.intro | ((try dsimp only [CDiv, CMul, CDivN, CPow] at *) <;> omega) | ((try dsimp only [CDiv, CMul, CDivN, CPow] at *) <;> (simp only [List.length_map, List.length_append, List.length_cons, List.length_nil, List.length_reverse, strApp_len, len1, szl] at *) <;> omega) | rfl | exact of_decide_eq_true rfl) ?_; conv => whnf))
    refine bindO_of e2 ?_
    (try conv => whnf); repeat (first | (refine And.intro (fun e => Bool.noConfusion (show (false : Bool) = true from e)) (fun _ => ?_); conv => whnf) | (refine And.intro (fun _ => ?_) (fun e => Bool.noConfusion (show (true : Bool) = false from e)); conv => whnf) | (refine And.intro (by first | exact True.intro | ((try dsimp only [CDiv, CMul, CDivN, CPow] at *) <;> omega) | ((try dsimp only [CDiv, CMul, CDivN, CPow] at *) <;> (simp only [List.length_map, List.length_append, List.length_cons, List.length_nil, List.length_reverse, strApp_len, len1, szl] at *) <;> omega) | rfl | exact of_decide_eq_true rfl) ?_; conv => whnf))
    first | refine ⟨T, [], ⟨st' ++ [top], sp, wy ++ [(-1, 1, top)]⟩, c', .s k, 1, rfl, by rw [eg]; rfl, ?_, Nat.zero_le 8, l1, l2, hl, ?_⟩ | refine ⟨T, [A0], ⟨st' ++ [top], sp, wy ++ [(-1, 1, top)]⟩, c', .s k, 1, rfl, by rw [eg]; rfl, ?_, Nat.zero_le 8, l1, l2, hl, ?_⟩
    · first | exact .inl rfl | exact .inr ⟨_, rfl⟩
    (try conv => whnf); repeat (first | (refine And.intro (fun e => Bool.noConfusion (show (false : Bool) = true from e)) (fun _ => ?_); conv => whnf) | (refine And.intro (fun _ => ?_) (fun e => Bool.noConfusion (show (true : Bool) = false from e)); conv => whnf) | (refine And.intro (by first | exact True.intro | ((try dsimp only [CDiv, CMul, CDivN, CPow] at *) <;> omega) | ((try dsimp only [CDiv, CMul, CDivN, CPow] at *) <;> (simp only [List.length_map, List.length_append, List.length_cons, List.length_nil, List.length_reverse, strApp_len, len1, szl] at *) <;> omega) | rfl | exact of_decide_eq_true rfl) ?_; conv => whnf))
    exact ⟨.inl rfl, h⟩

theorem deed_len {T : Tab} {k : Str} {r : Option (Str × Nat)} : ∀ {f : Nat} {c c' : Cf}, deedC T f c k = some (r, c') → c'.st.length ≤ c.st.length + f ∧ c'.sp.length ≤ c.sp.length + f ∧ c'.wy.length ≤ c.wy.length + f
  | 0, _, _, h => by cases h
  | f + 1, c, c', h => by
    unfold deedC at h
    obtain ⟨top, ht, h⟩ := Option.bind_eq_some_iff.mp h
    obtain ⟨a, ha, h⟩ := Option.bind_eq_some_iff.mp h
    cases a with
    | none => rw [deedK_none] at h; cases h; omega
    | some e =>
      rw [deedK_some] at h
      split at h
      · obtain ⟨c2, h2, h3⟩ := Option.bind_eq_some_iff.mp h
        have := put_len h2
        have := deed_len (f := f) h3
        omega
      · cases h; omega
theorem take_len {T : Tab} {k : Str} {c c' : Cf} (h : takeC T c k = some c') : c'.st.length = c.st.length + 1 ∧ c'.sp.length = c.sp.length + 1 ∧ c'.wy.length = c.wy.length + 1 := by
  unfold takeC at h
  obtain ⟨top, ht, h⟩ := Option.bind_eq_some_iff.mp h
  obtain ⟨h1, h2, h3⟩ := lay_len h
  rw [h3]
  simp at h1 h2 ⊢
  exact ⟨h1, h2⟩
def asA (ks : List Str) (l l' : List Int) : Prop := ∀ y ∈ l', y ∈ l ∨ (0 ≤ y ∧ y < ks.length)
def sp_read_row : FV := fun ds gs Q Qe => ∃ (ks : List Str) (T : Tab) (l : List Int) (f : Nat) (res : List (Int × Nat × Nat) ⊕ Nat), ds = [tabD T, askR ks, .int ks.length] ∧ gs = preA l ∧ TabOk T ∧ ks.length ≤ 900 ∧ l.length ≤ 100000 ∧ f ≤ 900 ∧ readC T ks f ⟨[0], [], []⟩ 0 = some res ∧
  ∀ l', asA ks l l' → l'.length ≤ l.length + f → match res with
    | .inl w => Q (.tmp (.lst (w.map wyD))) (preA l')
    | .inr i => Qe ⟨c_Stuck, [("place", .int (i : Nat))]⟩ (preA l')

def fb_read_row : FS := sSeq (sAsg 3 (fLst (aCons (fC (.int 0)) (aNil))))
  (sSeq (sAsg 4 (fLst (aNil)))
  (sSeq (sAsg 5 (fLst (aNil)))
  (sSeq (sAsg 6 (fC (.int 0)))
  (sShareAt 3 (sShareAt 4 (sShareAt 5 (sWhile (fTest (fC (.bl true))) (sSeq (sAsg 7 (fCall 3 sp_kind_at (aCons (fVar 1) (aCons (fVar 2) (aCons (fVar 6) (aNil))))))
  (sSeq (sAsg 8 (fCall 5 sp_deed_behind (aCons (fVar 0) (aCons (fShare 3) (aCons (fShare 4) (aCons (fShare 5) (aCons (fVar 7) (aNil))))))))
  (sSeq (sIf (fTest (fOp (gIs false) (fVar 8) (fC .non))) (sRaiseI 2 ["place"] (aCons (fVar 6) (aNil))) (sNil))
  (sSeq (sIf (fTest (fOp (gEq false) (fOp gIx (fVar 8) (fC (.int 0))) (fC (.str "accept")))) (sRet (fVar 5)) (sNil))
  (sSeq (sExpr (fCall 5 sp_take (aCons (fVar 0) (aCons (fShare 3) (aCons (fShare 4) (aCons (fShare 5) (aCons (fVar 7) (aNil))))))))
  (sAug 6 gAddI (fC (.int 1)))))))))))))))
theorem fin_px {α : Type} {l l2 : List Int} {c : Cf} {m : M} {r : Ret} {X : α} {Qe : α → List D → Prop} (e : m.gs = preA l2 ++ cfG c) (hr : ghR (preA l).length r = true) (h : Qe X (preA l2)) : Clean (preA l).length m r ∧ Qe X (m.gs.take (preA l).length) := by
  rw [preA_len l l2]
  have ht : m.gs.take (preA l2).length = preA l2 := by rw [e]; exact List.take_left
  refine ⟨.inr ⟨?_, by rw [← preA_len l l2]; exact hr⟩, by rw [ht]; exact h⟩
  rw [ht]
  exact preA_gh _ _
theorem wy_gh (n : Nat) (w : List (Int × Nat × Nat)) : ghR n (.tmp (.lst (w.map wyD))) = true := by simp only [ghR, ghB]; exact ghBL_mapD (f := wyD) (fun _ => by simp [wyD, natD, ghB, ghBL]) w
theorem bd_read_row : ∀ ds gs Q Qe, sp_read_row ds gs Q Qe → bodyV 9 fb_read_row ds gs Q Qe := by
  rintro ds gs Q Qe ⟨ks, T, l, f, res, rfl, rfl, ok, hks, hl, hf, hr, h⟩
  have glen : ∀ (l' : List Int) (c : Cf), (preA l' ++ cfG c).take (preA l).length = preA l' := fun l' c => by rw [preA_len l l']; exact List.take_left
  (try conv => whnf); repeat (first | (refine And.intro (fun e => Bool.noConfusion (show (false : Bool) = true from e)) (fun _ => ?_); conv => whnf) | (refine And.intro (fun _ => ?_) (fun e => Bool.noConfusion (show (true : Bool) = false from e)); conv => whnf) | (refine And.intro (by first | exact True.intro | ((try dsimp only [CDiv, CMul, CDivN, CPow] at *) <;> omega) | ((try dsimp only [CDiv, CMul, CDivN, CPow] at *) <;> (simp only [List.length_map, List.length_append, List.length_cons, List.length_nil, List.length_reverse, strApp_len, len1, szl] at *) <;> omega) | rfl | exact of_decide_eq_true rfl) ?_; conv => whnf))
  refine while_ind (fun n m => ∃ (c : Cf) (i : Nat) (l' : List Int) (x7 x8 : Sl), n ≤ f ∧ i + n = f ∧ c.st.length ≤ 1 + i * 1001 ∧ c.sp.length ≤ 1 + i * 1001 ∧ c.wy.length ≤ 1 + i * 1001 ∧ asA ks l l' ∧ l'.length ≤ l.length + i ∧ readC T ks n c i = some res ∧
    m = (⟨[.val (tabD T), .val (askR ks), .val (.int ks.length), .val (.gh (preA l).length), .val (.gh ((preA l).length + 1)), .val (.gh ((preA l).length + 2)), .val (.int i), x7, x8], preA l' ++ cfG c⟩ : M)) ?_ (n := f) ⟨⟨[0], [], []⟩, 0, l, .no, .no, Nat.le_refl _, by omega, by simp, by simp, by simp, fun y hy => .inl hy, by omega, hr, rfl⟩
  rintro n m ⟨c, i, l', x7, x8, b1, b2, b3, b4, b5, b6, b7, hc, rfl⟩
  cases n with
  | zero => cases hc
  | succ n =>
    rw [readC_succ] at hc
    obtain ⟨⟨r, c1⟩, hd, hc⟩ := Option.bind_eq_some_iff.mp hc
    have dl := deed_len hd
    have hi : i * 1001 ≤ 900 * 1001 := Nat.mul_le_mul_right _ (by omega)
    have hl2 : asA ks l (if i < ks.length then noteA l' i else l') ∧ (if i < ks.length then noteA l' i else l').length ≤ l.length + (i + 1) := by
      split
      · refine ⟨fun y hy => ?_, by have := noteA_len l' i; omega⟩
        rcases noteA_mem hy with z | z
        · exact b6 y z
        · subst z; exact .inr ⟨by omega, by omega⟩
      · exact ⟨b6, by omega⟩
    (try conv => whnf); repeat (first | (refine And.intro (fun e => Bool.noConfusion (show (false : Bool) = true from e)) (fun _ => ?_); conv => whnf) | (refine And.intro (fun _ => ?_) (fun e => Bool.noConfusion (show (true : Bool) = false from e)); conv => whnf) | (refine And.intro (by first | exact True.intro | ((try dsimp only [CDiv, CMul, CDivN, CPow] at *) <;> omega) | ((try dsimp only [CDiv, CMul, CDivN, CPow] at *) <;> (simp only [List.length_map, List.length_append, List.length_cons, List.length_nil, List.length_reverse, strApp_len, len1, szl] at *) <;> omega) | rfl | exact of_decide_eq_true rfl) ?_; conv => whnf))
    refine ⟨ks, i, l', c, rfl, rfl, by omega, by omega, ?_⟩
    generalize (if i < ks.length then noteA l' i else l') = l2 at *
    have hh := h l2 hl2.1 (by omega)
    have gl := preA_len l2 l
    (try conv => whnf); repeat (first | (refine And.intro (fun e => Bool.noConfusion (show (false : Bool) = true from e)) (fun _ => ?_); conv => whnf) | (refine And.intro (fun _ => ?_) (fun e => Bool.noConfusion (show (true : Bool) = false from e)); conv => whnf) | (refine And.intro (by first | exact True.intro | ((try dsimp only [CDiv, CMul, CDivN, CPow] at *) <;> omega) | ((try dsimp only [CDiv, CMul, CDivN, CPow] at *) <;> (simp only [List.length_map, List.length_append, List.length_cons, List.length_nil, List.length_reverse, strApp_len, len1, szl] at *) <;> omega) | rfl | exact of_decide_eq_true rfl) ?_; conv => whnf))
    refine ⟨T, preA l2, c, c1, _, r, 1000, rfl, rfl, preA_P3 _, ok, by omega, by omega, by omega, hd, ?_⟩
    cases r with
    | none =>
      cases hc
      (try conv => whnf); repeat (first | (refine And.intro (fun e => Bool.noConfusion (show (false : Bool) = true from e)) (fun _ => ?_); conv => whnf) | (refine And.intro (fun _ => ?_) (fun e => Bool.noConfusion (show (true : Bool) = false from e)); conv => whnf) | (refine And.intro (by first | exact True.intro | ((try dsimp only [CDiv, CMul, CDivN, CPow] at *) <;> omega) | ((try dsimp only [CDiv, CMul, CDivN, CPow] at *) <;> (simp only [List.length_map, List.length_append, List.length_cons, List.length_nil, List.length_reverse, strApp_len, len1, szl] at *) <;> omega) | rfl | exact of_decide_eq_true rfl) ?_; conv => whnf))
      exact fin_px (c := c1) rfl rfl hh
    | some e =>
      dsimp only at hc
      by_cases ca : e.1 = ("accept" : Str)
      · rw [if_pos ca] at hc
        cases hc
        (try conv => whnf); repeat (first | (refine And.intro (fun e => Bool.noConfusion (show (false : Bool) = true from e)) (fun _ => ?_); conv => whnf) | (refine And.intro (fun _ => ?_) (fun e => Bool.noConfusion (show (true : Bool) = false from e)); conv => whnf) | (refine And.intro (by first | exact True.intro | ((try dsimp only [CDiv, CMul, CDivN, CPow] at *) <;> omega) | ((try dsimp only [CDiv, CMul, CDivN, CPow] at *) <;> (simp only [List.length_map, List.length_append, List.length_cons, List.length_nil, List.length_reverse, strApp_len, len1, szl] at *) <;> omega) | rfl | exact of_decide_eq_true rfl) ?_; conv => whnf))
        refine yes_of (by simp [ca]) ?_
        (try conv => whnf); repeat (first | (refine And.intro (fun e => Bool.noConfusion (show (false : Bool) = true from e)) (fun _ => ?_); conv => whnf) | (refine And.intro (fun _ => ?_) (fun e => Bool.noConfusion (show (true : Bool) = false from e)); conv => whnf) | (refine And.intro (by first | exact True.intro | ((try dsimp only [CDiv, CMul, CDivN, CPow] at *) <;> omega) | ((try dsimp only [CDiv, CMul, CDivN, CPow] at *) <;> (simp only [List.length_map, List.length_append, List.length_cons, List.length_nil, List.length_reverse, strApp_len, len1, szl] at *) <;> omega) | rfl | exact of_decide_eq_true rfl) ?_; conv => whnf))
        exact fin_px (c := c1) rfl (wy_gh _ _) hh
      · rw [if_neg ca] at hc
        obtain ⟨c2, h2, h3⟩ := Option.bind_eq_some_iff.mp hc
        have tl := take_len h2
        (try conv => whnf); repeat (first | (refine And.intro (fun e => Bool.noConfusion (show (false : Bool) = true from e)) (fun _ => ?_); conv => whnf) | (refine And.intro (fun _ => ?_) (fun e => Bool.noConfusion (show (true : Bool) = false from e)); conv => whnf) | (refine And.intro (by first | exact True.intro | ((try dsimp only [CDiv, CMul, CDivN, CPow] at *) <;> omega) | ((try dsimp only [CDiv, CMul, CDivN, CPow] at *) <;> (simp only [List.length_map, List.length_append, List.length_cons, List.length_nil, List.length_reverse, strApp_len, len1, szl] at *) <;> omega) | rfl | exact of_decide_eq_true rfl) ?_; conv => whnf))
        refine no_of (by simp [ca]) ?_
        (try conv => whnf); repeat (first | (refine And.intro (fun e => Bool.noConfusion (show (false : Bool) = true from e)) (fun _ => ?_); conv => whnf) | (refine And.intro (fun _ => ?_) (fun e => Bool.noConfusion (show (true : Bool) = false from e)); conv => whnf) | (refine And.intro (by first | exact True.intro | ((try dsimp only [CDiv, CMul, CDivN, CPow] at *) <;> omega) | ((try dsimp only [CDiv, CMul, CDivN, CPow] at *) <;> (simp only [List.length_map, List.length_append, List.length_cons, List.length_nil, List.length_reverse, strApp_len, len1, szl] at *) <;> omega) | rfl | exact of_decide_eq_true rfl) ?_; conv => whnf))
        refine ⟨T, preA l2, c1, c2, _, rfl, rfl, preA_P3 _, by omega, by omega, by omega, h2, ?_⟩
        (try conv => whnf); repeat (first | (refine And.intro (fun e => Bool.noConfusion (show (false : Bool) = true from e)) (fun _ => ?_); conv => whnf) | (refine And.intro (fun _ => ?_) (fun e => Bool.noConfusion (show (true : Bool) = false from e)); conv => whnf) | (refine And.intro (by first | exact True.intro | ((try dsimp only [CDiv, CMul, CDivN, CPow] at *) <;> omega) | ((try dsimp only [CDiv, CMul, CDivN, CPow] at *) <;> (simp only [List.length_map, List.length_append, List.length_cons, List.length_nil, List.length_reverse, strApp_len, len1, szl] at *) <;> omega) | rfl | exact of_decide_eq_true rfl) ?_; conv => whnf))
        refine ⟨n, by omega, c2, i + 1, l2, _, _, by omega, by omega, by omega, by omega, by omega, hl2.1, by omega, h3, rfl⟩

def sp_fault_of : FV := fun ds gs Q _ => ∃ (sort : Str) (rank : Int) (ks row : List Str), ds = [tabD (sgT sort rank ks), .lst (row.map .str)] ∧ gs = [] ∧ ks.Nodup ∧ ("end" : Str) ∉ ks ∧ ("end" : Str) ∉ row ∧ row.length ≤ 100 ∧ Q (.fz (flD ks row)) []

def fb_fault_of (cs : List (Str × Addr)) : FS := sSeq (sDef 2 "fault_of" 0 cs)
  (sSeq (sTryAs cls_par 2 3 (sExpr (fCallCX 3 sp_read_row cs [("fault_of", 0, [1])] (aCons (fVar 0) (aCons (fVar 2) (aCons (fUn gLen (fVar 1)) (aNil)))))) (sRet (fXfP cls_par "place" (fVar 3))))
  (sRet (fC .non)))
theorem bd_fault_of : ∀ cs ds gs Q Qe, sp_fault_of ds gs Q Qe → bodyV 4 (fb_fault_of cs) ds gs Q Qe := by
  rintro cs ds gs Q Qe ⟨sort, rank, ks, row, rfl, rfl, nd, ne, nr, lr, h⟩
  have el : ((row.map D.str).length : Int) = row.length := by rw [List.length_map]
  (try conv => whnf); repeat (first | (refine And.intro (fun e => Bool.noConfusion (show (false : Bool) = true from e)) (fun _ => ?_); conv => whnf) | (refine And.intro (fun _ => ?_) (fun e => Bool.noConfusion (show (true : Bool) = false from e)); conv => whnf) | (refine And.intro (by first | exact True.intro | ((try dsimp only [CDiv, CMul, CDivN, CPow] at *) <;> omega) | ((try dsimp only [CDiv, CMul, CDivN, CPow] at *) <;> (simp only [List.length_map, List.length_append, List.length_cons, List.length_nil, List.length_reverse, strApp_len, len1, szl] at *) <;> omega) | rfl | exact of_decide_eq_true rfl) ?_; conv => whnf))
  refine ⟨⟨rfl, trivial⟩, ?_⟩
  (try conv => whnf); repeat (first | (refine And.intro (fun e => Bool.noConfusion (show (false : Bool) = true from e)) (fun _ => ?_); conv => whnf) | (refine And.intro (fun _ => ?_) (fun e => Bool.noConfusion (show (true : Bool) = false from e)); conv => whnf) | (refine And.intro (by first | exact True.intro | ((try dsimp only [CDiv, CMul, CDivN, CPow] at *) <;> omega) | ((try dsimp only [CDiv, CMul, CDivN, CPow] at *) <;> (simp only [List.length_map, List.length_append, List.length_cons, List.length_nil, List.length_reverse, strApp_len, len1, szl] at *) <;> omega) | rfl | exact of_decide_eq_true rfl) ?_; conv => whnf))
  rw [el]
  refine ⟨row, sgT sort rank ks, [], 6, sgRes ks row, rfl, rfl, sgT_ok _ _ _, by omega, by simp, by decide, sg_read nd ne nr 3, fun l' h1 h2 => ?_⟩
  unfold flD at h
  cases hr : sgRes ks row with
  | inl w =>
    rw [hr] at h
    (try conv => whnf); repeat (first | (refine And.intro (fun e => Bool.noConfusion (show (false : Bool) = true from e)) (fun _ => ?_); conv => whnf) | (refine And.intro (fun _ => ?_) (fun e => Bool.noConfusion (show (true : Bool) = false from e)); conv => whnf) | (refine And.intro (by first | exact True.intro | ((try dsimp only [CDiv, CMul, CDivN, CPow] at *) <;> omega) | ((try dsimp only [CDiv, CMul, CDivN, CPow] at *) <;> (simp only [List.length_map, List.length_append, List.length_cons, List.length_nil, List.length_reverse, strApp_len, len1, szl] at *) <;> omega) | rfl | exact of_decide_eq_true rfl) ?_; conv => whnf))
    refine ⟨?_, preA_no l', ?_⟩
    · show noCL (w.map wyD) = true
      exact noCL_map (fun _ => rfl) w
    (try conv => whnf); repeat (first | (refine And.intro (fun e => Bool.noConfusion (show (false : Bool) = true from e)) (fun _ => ?_); conv => whnf) | (refine And.intro (fun _ => ?_) (fun e => Bool.noConfusion (show (true : Bool) = false from e)); conv => whnf) | (refine And.intro (by first | exact True.intro | ((try dsimp only [CDiv, CMul, CDivN, CPow] at *) <;> omega) | ((try dsimp only [CDiv, CMul, CDivN, CPow] at *) <;> (simp only [List.length_map, List.length_append, List.length_cons, List.length_nil, List.length_reverse, strApp_len, len1, szl] at *) <;> omega) | rfl | exact of_decide_eq_true rfl) ?_; conv => whnf))
    exact fin0 rfl h
  | inr i =>
    rw [hr] at h
    (try conv => whnf); repeat (first | (refine And.intro (fun e => Bool.noConfusion (show (false : Bool) = true from e)) (fun _ => ?_); conv => whnf) | (refine And.intro (fun _ => ?_) (fun e => Bool.noConfusion (show (true : Bool) = false from e)); conv => whnf) | (refine And.intro (by first | exact True.intro | ((try dsimp only [CDiv, CMul, CDivN, CPow] at *) <;> omega) | ((try dsimp only [CDiv, CMul, CDivN, CPow] at *) <;> (simp only [List.length_map, List.length_append, List.length_cons, List.length_nil, List.length_reverse, strApp_len, len1, szl] at *) <;> omega) | rfl | exact of_decide_eq_true rfl) ?_; conv => whnf))
    exact fin0 rfl h

def sp_deed_for : FV := fun ds gs Q _ => ∃ (sort : Str) (rank : Int) (ks : List Str) (st st' : List Nat) (k : Str) (r : Option (Str × Nat)), ds = [tabD (sgT sort rank ks), .gh 0, .str k] ∧ gs = [.lst (st.map natD)] ∧ ks.Nodup ∧ ("end" : Str) ∉ ks ∧ ks.length ≤ 100 ∧ Df ks st k r st' ∧ Q (.fz (rtD r)) [.lst (st'.map natD)]

def fb_deed_for : FS := sSeq (sAsg 3 (fMGet1 (fOp gIx (fOp gIx (fVar 0) (fC (.int 2))) (fOp gIx (fVar 1) (fUn gNeg (fC (.int 1))))) (fVar 2)))
  (sSeq (sWhile (fAnd (fTest (fOp (gIs true) (fVar 3) (fC .non))) (fTest (fOp (gEq false) (fOp gIx (fVar 3) (fC (.int 0))) (fC (.str "reduce"))))) (sSeq (sAsgG (fOp gIx (fOp gIx (fVar 0) (fC (.int 0))) (fOp gIx (fVar 3) (fC (.int 1)))) (gTp 3 (gsCons (gNm 4) (gsCons (gNm 5) (gsCons (gNm 6) (gsNil))))))
  (sSeq (sFor (iTupD (fVar 5)) (gNm 7) (sExpr (fMm0 "list" gPop (fVar 1))))
  (sSeq (sExpr (fMm "list" gAppend (fVar 1) (aCons (fMGet (fOp gIx (fOp gIx (fVar 0) (fC (.int 1))) (fOp gIx (fVar 1) (fUn gNeg (fC (.int 1))))) (fVar 4)) (aNil))))
  (sAsg 3 (fMGet1 (fOp gIx (fOp gIx (fVar 0) (fC (.int 2))) (fOp gIx (fVar 1) (fUn gNeg (fC (.int 1))))) (fVar 2)))))))
  (sRet (fVar 3)))
theorem bd_deed_for : ∀ ds gs Q Qe, sp_deed_for ds gs Q Qe → bodyV 8 fb_deed_for ds gs Q Qe := by
  rintro ds gs Q Qe ⟨sort, rank, ks, st, st', k, r, rfl, rfl, nd, ne, lk, hd, h⟩
  have look : ∀ {top : Nat} {k : Str} {a : Option (Str × Nat)}, acN (sgT sort rank ks) top k = some a → ∃ row, atI ((sgT sort rank ks).acts.map acD) (top : Nat) = some (acD row) ∧ mval (row.map fun e => (GK.s e.1, acV e.2)) (.s k) = a.map acV := fun {top k a} ha => by
    obtain ⟨row, hr, hv⟩ := acN_at ha
    have e3 := acD_val row k
    rw [hv] at e3
    exact ⟨row, atI_nat (by rw [List.getElem?_map, hr]; rfl), e3⟩
  rcases hd with ⟨rfl, j, hj, rfl, rfl, rfl⟩ | ⟨rfl, hk, rfl, rfl⟩ | ⟨j, hj, rfl, hk, rfl, rfl⟩ | ⟨j, hj, rfl, rfl, rfl, rfl⟩
  · obtain ⟨row, e1, e3⟩ := look (sg_a0 nd hj)
    (try conv => whnf); repeat (first | (refine And.intro (fun e => Bool.noConfusion (show (false : Bool) = true from e)) (fun _ => ?_); conv => whnf) | (refine And.intro (fun _ => ?_) (fun e => Bool.noConfusion (show (true : Bool) = false from e)); conv => whnf) | (refine And.intro (by first | exact True.intro | ((try dsimp only [CDiv, CMul, CDivN, CPow] at *) <;> omega) | ((try dsimp only [CDiv, CMul, CDivN, CPow] at *) <;> (simp only [List.length_map, List.length_append, List.length_cons, List.length_nil, List.length_reverse, strApp_len, len1, szl] at *) <;> omega) | rfl | exact of_decide_eq_true rfl) ?_; conv => whnf))
    refine bindO_of e1 ?_
    (try conv => whnf); repeat (first | (refine And.intro (fun e => Bool.noConfusion (show (false : Bool) = true from e)) (fun _ => ?_); conv => whnf) | (refine And.intro (fun _ => ?_) (fun e => Bool.noConfusion (show (true : Bool) = false from e)); conv => whnf) | (refine And.intro (by first | exact True.intro | ((try dsimp only [CDiv, CMul, CDivN, CPow] at *) <;> omega) | ((try dsimp only [CDiv, CMul, CDivN, CPow] at *) <;> (simp only [List.length_map, List.length_append, List.length_cons, List.length_nil, List.length_reverse, strApp_len, len1, szl] at *) <;> omega) | rfl | exact of_decide_eq_true rfl) ?_; conv => whnf))
    rw [e3]
    (try conv => whnf); repeat (first | (refine And.intro (fun e => Bool.noConfusion (show (false : Bool) = true from e)) (fun _ => ?_); conv => whnf) | (refine And.intro (fun _ => ?_) (fun e => Bool.noConfusion (show (true : Bool) = false from e)); conv => whnf) | (refine And.intro (by first | exact True.intro | ((try dsimp only [CDiv, CMul, CDivN, CPow] at *) <;> omega) | ((try dsimp only [CDiv, CMul, CDivN, CPow] at *) <;> (simp only [List.length_map, List.length_append, List.length_cons, List.length_nil, List.length_reverse, strApp_len, len1, szl] at *) <;> omega) | rfl | exact of_decide_eq_true rfl) ?_; conv => whnf))
    refine while_ind (fun _ m => m = (⟨[.val (tabD (sgT sort rank ks)), .val (.gh 0), .val (.str (kAt ks j)), .val (acV ("shift", j + 2)), .no, .no, .no, .no], [.lst ([0].map natD)]⟩ : M)) ?_ (n := 0) rfl
    rintro n m rfl
    (try conv => whnf); repeat (first | (refine And.intro (fun e => Bool.noConfusion (show (false : Bool) = true from e)) (fun _ => ?_); conv => whnf) | (refine And.intro (fun _ => ?_) (fun e => Bool.noConfusion (show (true : Bool) = false from e)); conv => whnf) | (refine And.intro (by first | exact True.intro | ((try dsimp only [CDiv, CMul, CDivN, CPow] at *) <;> omega) | ((try dsimp only [CDiv, CMul, CDivN, CPow] at *) <;> (simp only [List.length_map, List.length_append, List.length_cons, List.length_nil, List.length_reverse, strApp_len, len1, szl] at *) <;> omega) | rfl | exact of_decide_eq_true rfl) ?_; conv => whnf))
    exact finL rfl rfl h
  · obtain ⟨row, e1, e3⟩ := look (sg_a0n hk)
    (try conv => whnf); repeat (first | (refine And.intro (fun e => Bool.noConfusion (show (false : Bool) = true from e)) (fun _ => ?_); conv => whnf) | (refine And.intro (fun _ => ?_) (fun e => Bool.noConfusion (show (true : Bool) = false from e)); conv => whnf) | (refine And.intro (by first | exact True.intro | ((try dsimp only [CDiv, CMul, CDivN, CPow] at *) <;> omega) | ((try dsimp only [CDiv, CMul, CDivN, CPow] at *) <;> (simp only [List.length_map, List.length_append, List.length_cons, List.length_nil, List.length_reverse, strApp_len, len1, szl] at *) <;> omega) | rfl | exact of_decide_eq_true rfl) ?_; conv => whnf))
    refine bindO_of e1 ?_
    (try conv => whnf); repeat (first | (refine And.intro (fun e => Bool.noConfusion (show (false : Bool) = true from e)) (fun _ => ?_); conv => whnf) | (refine And.intro (fun _ => ?_) (fun e => Bool.noConfusion (show (true : Bool) = false from e)); conv => whnf) | (refine And.intro (by first | exact True.intro | ((try dsimp only [CDiv, CMul, CDivN, CPow] at *) <;> omega) | ((try dsimp only [CDiv, CMul, CDivN, CPow] at *) <;> (simp only [List.length_map, List.length_append, List.length_cons, List.length_nil, List.length_reverse, strApp_len, len1, szl] at *) <;> omega) | rfl | exact of_decide_eq_true rfl) ?_; conv => whnf))
    rw [e3]
    (try conv => whnf); repeat (first | (refine And.intro (fun e => Bool.noConfusion (show (false : Bool) = true from e)) (fun _ => ?_); conv => whnf) | (refine And.intro (fun _ => ?_) (fun e => Bool.noConfusion (show (true : Bool) = false from e)); conv => whnf) | (refine And.intro (by first | exact True.intro | ((try dsimp only [CDiv, CMul, CDivN, CPow] at *) <;> omega) | ((try dsimp only [CDiv, CMul, CDivN, CPow] at *) <;> (simp only [List.length_map, List.length_append, List.length_cons, List.length_nil, List.length_reverse, strApp_len, len1, szl] at *) <;> omega) | rfl | exact of_decide_eq_true rfl) ?_; conv => whnf))
    refine while_ind (fun _ m => m = (⟨[.val (tabD (sgT sort rank ks)), .val (.gh 0), .val (.str k), .val .non, .no, .no, .no, .no], [.lst ([0].map natD)]⟩ : M)) ?_ (n := 0) rfl
    rintro n m rfl
    (try conv => whnf); repeat (first | (refine And.intro (fun e => Bool.noConfusion (show (false : Bool) = true from e)) (fun _ => ?_); conv => whnf) | (refine And.intro (fun _ => ?_) (fun e => Bool.noConfusion (show (true : Bool) = false from e)); conv => whnf) | (refine And.intro (by first | exact True.intro | ((try dsimp only [CDiv, CMul, CDivN, CPow] at *) <;> omega) | ((try dsimp only [CDiv, CMul, CDivN, CPow] at *) <;> (simp only [List.length_map, List.length_append, List.length_cons, List.length_nil, List.length_reverse, strApp_len, len1, szl] at *) <;> omega) | rfl | exact of_decide_eq_true rfl) ?_; conv => whnf))
    exact finL rfl rfl h
  · obtain ⟨row, e1, e3⟩ := look (sg_a2n hj hk)
    (try conv => whnf); repeat (first | (refine And.intro (fun e => Bool.noConfusion (show (false : Bool) = true from e)) (fun _ => ?_); conv => whnf) | (refine And.intro (fun _ => ?_) (fun e => Bool.noConfusion (show (true : Bool) = false from e)); conv => whnf) | (refine And.intro (by first | exact True.intro | ((try dsimp only [CDiv, CMul, CDivN, CPow] at *) <;> omega) | ((try dsimp only [CDiv, CMul, CDivN, CPow] at *) <;> (simp only [List.length_map, List.length_append, List.length_cons, List.length_nil, List.length_reverse, strApp_len, len1, szl] at *) <;> omega) | rfl | exact of_decide_eq_true rfl) ?_; conv => whnf))
    refine bindO_of e1 ?_
    (try conv => whnf); repeat (first | (refine And.intro (fun e => Bool.noConfusion (show (false : Bool) = true from e)) (fun _ => ?_); conv => whnf) | (refine And.intro (fun _ => ?_) (fun e => Bool.noConfusion (show (true : Bool) = false from e)); conv => whnf) | (refine And.intro (by first | exact True.intro | ((try dsimp only [CDiv, CMul, CDivN, CPow] at *) <;> omega) | ((try dsimp only [CDiv, CMul, CDivN, CPow] at *) <;> (simp only [List.length_map, List.length_append, List.length_cons, List.length_nil, List.length_reverse, strApp_len, len1, szl] at *) <;> omega) | rfl | exact of_decide_eq_true rfl) ?_; conv => whnf))
    rw [e3]
    (try conv => whnf); repeat (first | (refine And.intro (fun e => Bool.noConfusion (show (false : Bool) = true from e)) (fun _ => ?_); conv => whnf) | (refine And.intro (fun _ => ?_) (fun e => Bool.noConfusion (show (true : Bool) = false from e)); conv => whnf) | (refine And.intro (by first | exact True.intro | ((try dsimp only [CDiv, CMul, CDivN, CPow] at *) <;> omega) | ((try dsimp only [CDiv, CMul, CDivN, CPow] at *) <;> (simp only [List.length_map, List.length_append, List.length_cons, List.length_nil, List.length_reverse, strApp_len, len1, szl] at *) <;> omega) | rfl | exact of_decide_eq_true rfl) ?_; conv => whnf))
    refine while_ind (fun _ m => m = (⟨[.val (tabD (sgT sort rank ks)), .val (.gh 0), .val (.str k), .val .non, .no, .no, .no, .no], [.lst ([0, j + 2].map natD)]⟩ : M)) ?_ (n := 0) rfl
    rintro n m rfl
    (try conv => whnf); repeat (first | (refine And.intro (fun e => Bool.noConfusion (show (false : Bool) = true from e)) (fun _ => ?_); conv => whnf) | (refine And.intro (fun _ => ?_) (fun e => Bool.noConfusion (show (true : Bool) = false from e)); conv => whnf) | (refine And.intro (by first | exact True.intro | ((try dsimp only [CDiv, CMul, CDivN, CPow] at *) <;> omega) | ((try dsimp only [CDiv, CMul, CDivN, CPow] at *) <;> (simp only [List.length_map, List.length_append, List.length_cons, List.length_nil, List.length_reverse, strApp_len, len1, szl] at *) <;> omega) | rfl | exact of_decide_eq_true rfl) ?_; conv => whnf))
    exact finL rfl rfl h
  · obtain ⟨row, e1, e3⟩ := look (sg_a2 hj)
    obtain ⟨row2, e12, e32⟩ := look (sg_a1 (sort := sort) (rank := rank) (ks := ks))
    have ep : atI ((sgT sort rank ks).plain.map plD) ((j + 1 : Nat) : Int) = some (plD (sgK sort rank, [.s (kAt ks j)], (j : Int))) := atI_nat (by rw [List.getElem?_map, sg_p hj]; rfl)
    obtain ⟨rg, hrg, hvg⟩ := goN_at (sg_g1 (sort := sort) (rank := rank) (ks := ks))
    have eg : atI ((sgT sort rank ks).goes.map goD) ((0 : Nat) : Int) = some (goD rg) := atI_nat (by rw [List.getElem?_map, hrg]; rfl)
    have hv2 := goD_val rg (sgK sort rank)
    rw [hvg] at hv2
    (try conv => whnf); repeat (first | (refine And.intro (fun e => Bool.noConfusion (show (false : Bool) = true from e)) (fun _ => ?_); conv => whnf) | (refine And.intro (fun _ => ?_) (fun e => Bool.noConfusion (show (true : Bool) = false from e)); conv => whnf) | (refine And.intro (by first | exact True.intro | ((try dsimp only [CDiv, CMul, CDivN, CPow] at *) <;> omega) | ((try dsimp only [CDiv, CMul, CDivN, CPow] at *) <;> (simp only [List.length_map, List.length_append, List.length_cons, List.length_nil, List.length_reverse, strApp_len, len1, szl] at *) <;> omega) | rfl | exact of_decide_eq_true rfl) ?_; conv => whnf))
    refine bindO_of e1 ?_
    (try conv => whnf); repeat (first | (refine And.intro (fun e => Bool.noConfusion (show (false : Bool) = true from e)) (fun _ => ?_); conv => whnf) | (refine And.intro (fun _ => ?_) (fun e => Bool.noConfusion (show (true : Bool) = false from e)); conv => whnf) | (refine And.intro (by first | exact True.intro | ((try dsimp only [CDiv, CMul, CDivN, CPow] at *) <;> omega) | ((try dsimp only [CDiv, CMul, CDivN, CPow] at *) <;> (simp only [List.length_map, List.length_append, List.length_cons, List.length_nil, List.length_reverse, strApp_len, len1, szl] at *) <;> omega) | rfl | exact of_decide_eq_true rfl) ?_; conv => whnf))
    rw [e3]
    (try conv => whnf); repeat (first | (refine And.intro (fun e => Bool.noConfusion (show (false : Bool) = true from e)) (fun _ => ?_); conv => whnf) | (refine And.intro (fun _ => ?_) (fun e => Bool.noConfusion (show (true : Bool) = false from e)); conv => whnf) | (refine And.intro (by first | exact True.intro | ((try dsimp only [CDiv, CMul, CDivN, CPow] at *) <;> omega) | ((try dsimp only [CDiv, CMul, CDivN, CPow] at *) <;> (simp only [List.length_map, List.length_append, List.length_cons, List.length_nil, List.length_reverse, strApp_len, len1, szl] at *) <;> omega) | rfl | exact of_decide_eq_true rfl) ?_; conv => whnf))
    refine while_ind (fun n m => (n = 1 ∧ m = (⟨[.val (tabD (sgT sort rank ks)), .val (.gh 0), .val (.str "end"), .val (acV ("reduce", j + 1)), .no, .no, .no, .no], [.lst ([0, j + 2].map natD)]⟩ : M)) ∨ (n = 0 ∧ ∃ x4 x5 x6 x7 : Sl, m = (⟨[.val (tabD (sgT sort rank ks)), .val (.gh 0), .val (.str "end"), .val (acV ("accept", 0)), x4, x5, x6, x7], [.lst ([0, 1].map natD)]⟩ : M))) ?_ (n := 1) (.inl ⟨rfl, rfl⟩)
    rintro n m (⟨rfl, rfl⟩ | ⟨rfl, x4, x5, x6, x7, rfl⟩)
    · (try conv => whnf); repeat (first | (refine And.intro (fun e => Bool.noConfusion (show (false : Bool) = true from e)) (fun _ => ?_); conv => whnf) | (refine And.intro (fun _ => ?_) (fun e => Bool.noConfusion (show (true : Bool) = false from e)); conv => whnf) | (refine And.intro (by first | exact True.intro | ((try dsimp only [CDiv, CMul, CDivN, CPow] at *) <;> omega) | ((try dsimp only [CDiv, CMul, CDivN, CPow] at *) <;> (simp only [List.length_map, List.length_append, List.length_cons, List.length_nil, List.length_reverse, strApp_len, len1, szl] at *) <;> omega) | rfl | exact of_decide_eq_true rfl) ?_; conv => whnf))
      refine bindO_of ep ?_
      (try conv => whnf); repeat (first | (refine And.intro (fun e => Bool.noConfusion (show (false : Bool) = true from e)) (fun _ => ?_); conv => whnf) | (refine And.intro (fun _ => ?_) (fun e => Bool.noConfusion (show (true : Bool) = false from e)); conv => whnf) | (refine And.intro (by first | exact True.intro | ((try dsimp only [CDiv, CMul, CDivN, CPow] at *) <;> omega) | ((try dsimp only [CDiv, CMul, CDivN, CPow] at *) <;> (simp only [List.length_map, List.length_append, List.length_cons, List.length_nil, List.length_reverse, strApp_len, len1, szl] at *) <;> omega) | rfl | exact of_decide_eq_true rfl) ?_; conv => whnf))
      rw [forQ_eq]
      change forR _ _ _ _ [gkD (GK.s (kAt ks j))] _
      rw [forR_cons]
      refine ⟨trivial, ?_⟩
      (try conv => whnf); repeat (first | (refine And.intro (fun e => Bool.noConfusion (show (false : Bool) = true from e)) (fun _ => ?_); conv => whnf) | (refine And.intro (fun _ => ?_) (fun e => Bool.noConfusion (show (true : Bool) = false from e)); conv => whnf) | (refine And.intro (by first | exact True.intro | ((try dsimp only [CDiv, CMul, CDivN, CPow] at *) <;> omega) | ((try dsimp only [CDiv, CMul, CDivN, CPow] at *) <;> (simp only [List.length_map, List.length_append, List.length_cons, List.length_nil, List.length_reverse, strApp_len, len1, szl] at *) <;> omega) | rfl | exact of_decide_eq_true rfl) ?_; conv => whnf))
      refine bindO_of eg ?_
      (try conv => whnf); repeat (first | (refine And.intro (fun e => Bool.noConfusion (show (false : Bool) = true from e)) (fun _ => ?_); conv => whnf) | (refine And.intro (fun _ => ?_) (fun e => Bool.noConfusion (show (true : Bool) = false from e)); conv => whnf) | (refine And.intro (by first | exact True.intro | ((try dsimp only [CDiv, CMul, CDivN, CPow] at *) <;> omega) | ((try dsimp only [CDiv, CMul, CDivN, CPow] at *) <;> (simp only [List.length_map, List.length_append, List.length_cons, List.length_nil, List.length_reverse, strApp_len, len1, szl] at *) <;> omega) | rfl | exact of_decide_eq_true rfl) ?_; conv => whnf))
      refine bindO_of hv2 ?_
      (try conv => whnf); repeat (first | (refine And.intro (fun e => Bool.noConfusion (show (false : Bool) = true from e)) (fun _ => ?_); conv => whnf) | (refine And.intro (fun _ => ?_) (fun e => Bool.noConfusion (show (true : Bool) = false from e)); conv => whnf) | (refine And.intro (by first | exact True.intro | ((try dsimp only [CDiv, CMul, CDivN, CPow] at *) <;> omega) | ((try dsimp only [CDiv, CMul, CDivN, CPow] at *) <;> (simp only [List.length_map, List.length_append, List.length_cons, List.length_nil, List.length_reverse, strApp_len, len1, szl] at *) <;> omega) | rfl | exact of_decide_eq_true rfl) ?_; conv => whnf))
      refine bindO_of e12 ?_
      (try conv => whnf); repeat (first | (refine And.intro (fun e => Bool.noConfusion (show (false : Bool) = true from e)) (fun _ => ?_); conv => whnf) | (refine And.intro (fun _ => ?_) (fun e => Bool.noConfusion (show (true : Bool) = false from e)); conv => whnf) | (refine And.intro (by first | exact True.intro | ((try dsimp only [CDiv, CMul, CDivN, CPow] at *) <;> omega) | ((try dsimp only [CDiv, CMul, CDivN, CPow] at *) <;> (simp only [List.length_map, List.length_append, List.length_cons, List.length_nil, List.length_reverse, strApp_len, len1, szl] at *) <;> omega) | rfl | exact of_decide_eq_true rfl) ?_; conv => whnf))
      rw [e32]
      (try conv => whnf); repeat (first | (refine And.intro (fun e => Bool.noConfusion (show (false : Bool) = true from e)) (fun _ => ?_); conv => whnf) | (refine And.intro (fun _ => ?_) (fun e => Bool.noConfusion (show (true : Bool) = false from e)); conv => whnf) | (refine And.intro (by first | exact True.intro | ((try dsimp only [CDiv, CMul, CDivN, CPow] at *) <;> omega) | ((try dsimp only [CDiv, CMul, CDivN, CPow] at *) <;> (simp only [List.length_map, List.length_append, List.length_cons, List.length_nil, List.length_reverse, strApp_len, len1, szl] at *) <;> omega) | rfl | exact of_decide_eq_true rfl) ?_; conv => whnf))
      exact ⟨0, by decide, .inr ⟨rfl, _, _, _, _, rfl⟩⟩
    · (try conv => whnf); repeat (first | (refine And.intro (fun e => Bool.noConfusion (show (false : Bool) = true from e)) (fun _ => ?_); conv => whnf) | (refine And.intro (fun _ => ?_) (fun e => Bool.noConfusion (show (true : Bool) = false from e)); conv => whnf) | (refine And.intro (by first | exact True.intro | ((try dsimp only [CDiv, CMul, CDivN, CPow] at *) <;> omega) | ((try dsimp only [CDiv, CMul, CDivN, CPow] at *) <;> (simp only [List.length_map, List.length_append, List.length_cons, List.length_nil, List.length_reverse, strApp_len, len1, szl] at *) <;> omega) | rfl | exact of_decide_eq_true rfl) ?_; conv => whnf))
      exact finL rfl rfl h

def sp_reads_on : FV := fun ds gs Q _ => ∃ (sort : Str) (rank : Int) (ks : List Str) (st : List Nat) (rest : List Str), ds = [tabD (sgT sort rank ks), .lst (st.map natD), .lst (rest.map .str)] ∧ gs = [] ∧ ks.Nodup ∧ ("end" : Str) ∉ ks ∧ ("end" : Str) ∉ rest ∧ ks.length ≤ 100 ∧ StOk ks st ∧ Q (.fz (.bl (roB ks st rest))) []

def fb_reads_on : FS := sSeq (sAsg 3 (fUn gList (fVar 1)))
  (sSeq (sShareAt 3 (sFor (iLst (fVar 2)) (gNm 4) (sSeq (sAsg 5 (fCall 3 sp_deed_for (aCons (fVar 0) (aCons (fShare 3) (aCons (fVar 4) (aNil))))))
  (sSeq (sIf (fTest (fOp (gIs false) (fVar 5) (fC .non))) (sRet (fC (.bl false))) (sNil))
  (sExpr (fMm "list" gAppend (fVar 3) (aCons (fOp gIx (fVar 5) (fC (.int 1))) (aNil))))))))
  (sRet (fOp (gIs true) (fCall 3 sp_deed_for (aCons (fVar 0) (aCons (fShare 3) (aCons (fC (.str "end")) (aNil))))) (fC .non))))
theorem bd_reads_on : ∀ ds gs Q Qe, sp_reads_on ds gs Q Qe → bodyV 6 fb_reads_on ds gs Q Qe := by
  rintro ds gs Q Qe ⟨sort, rank, ks, st, rest, rfl, rfl, nd, ne, nr, lk, hst, h⟩
  (try conv => whnf); repeat (first | (refine And.intro (fun e => Bool.noConfusion (show (false : Bool) = true from e)) (fun _ => ?_); conv => whnf) | (refine And.intro (fun _ => ?_) (fun e => Bool.noConfusion (show (true : Bool) = false from e)); conv => whnf) | (refine And.intro (by first | exact True.intro | ((try dsimp only [CDiv, CMul, CDivN, CPow] at *) <;> omega) | ((try dsimp only [CDiv, CMul, CDivN, CPow] at *) <;> (simp only [List.length_map, List.length_append, List.length_cons, List.length_nil, List.length_reverse, strApp_len, len1, szl] at *) <;> omega) | rfl | exact of_decide_eq_true rfl) ?_; conv => whnf))
  refine forR_map D.str (fun xs m => ("end" : Str) ∉ xs ∧ ∃ (st' : List Nat) (x3 x4 x5 : Sl), StOk ks st' ∧ roB ks st' xs = roB ks st rest ∧ m = (⟨[.val (tabD (sgT sort rank ks)), .val (.lst (st.map natD)), .val (.lst (rest.map .str)), .val (.gh 0), x4, x5], [.lst (st'.map natD)]⟩ : M)) ?_ ?_ rest _ ⟨nr, st, .no, .no, .no, hst, rfl, rfl⟩
  · rintro m ⟨_, st', x3, x4, x5, hs, hr, rfl⟩
    refine ⟨trivial, ?_⟩
    rcases hs with rfl | ⟨j, hj, rfl⟩
    · rw [← hr] at h
      (try conv => whnf); repeat (first | (refine And.intro (fun e => Bool.noConfusion (show (false : Bool) = true from e)) (fun _ => ?_); conv => whnf) | (refine And.intro (fun _ => ?_) (fun e => Bool.noConfusion (show (true : Bool) = false from e)); conv => whnf) | (refine And.intro (by first | exact True.intro | ((try dsimp only [CDiv, CMul, CDivN, CPow] at *) <;> omega) | ((try dsimp only [CDiv, CMul, CDivN, CPow] at *) <;> (simp only [List.length_map, List.length_append, List.length_cons, List.length_nil, List.length_reverse, strApp_len, len1, szl] at *) <;> omega) | rfl | exact of_decide_eq_true rfl) ?_; conv => whnf))
      refine ⟨sort, rank, ks, [0], [0], "end", none, rfl, rfl, nd, ne, lk, .inr (.inl ⟨rfl, ne, rfl, rfl⟩), ?_⟩
      (try conv => whnf); repeat (first | (refine And.intro (fun e => Bool.noConfusion (show (false : Bool) = true from e)) (fun _ => ?_); conv => whnf) | (refine And.intro (fun _ => ?_) (fun e => Bool.noConfusion (show (true : Bool) = false from e)); conv => whnf) | (refine And.intro (by first | exact True.intro | ((try dsimp only [CDiv, CMul, CDivN, CPow] at *) <;> omega) | ((try dsimp only [CDiv, CMul, CDivN, CPow] at *) <;> (simp only [List.length_map, List.length_append, List.length_cons, List.length_nil, List.length_reverse, strApp_len, len1, szl] at *) <;> omega) | rfl | exact of_decide_eq_true rfl) ?_; conv => whnf))
      exact ⟨.inr ⟨rfl, rfl⟩, h⟩
    · rw [← hr] at h
      (try conv => whnf); repeat (first | (refine And.intro (fun e => Bool.noConfusion (show (false : Bool) = true from e)) (fun _ => ?_); conv => whnf) | (refine And.intro (fun _ => ?_) (fun e => Bool.noConfusion (show (true : Bool) = false from e)); conv => whnf) | (refine And.intro (by first | exact True.intro | ((try dsimp only [CDiv, CMul, CDivN, CPow] at *) <;> omega) | ((try dsimp only [CDiv, CMul, CDivN, CPow] at *) <;> (simp only [List.length_map, List.length_append, List.length_cons, List.length_nil, List.length_reverse, strApp_len, len1, szl] at *) <;> omega) | rfl | exact of_decide_eq_true rfl) ?_; conv => whnf))
      refine ⟨sort, rank, ks, [0, j + 2], [0, 1], "end", some ("accept", 0), rfl, rfl, nd, ne, lk, .inr (.inr (.inr ⟨j, hj, rfl, rfl, rfl, rfl⟩)), ?_⟩
      (try conv => whnf); repeat (first | (refine And.intro (fun e => Bool.noConfusion (show (false : Bool) = true from e)) (fun _ => ?_); conv => whnf) | (refine And.intro (fun _ => ?_) (fun e => Bool.noConfusion (show (true : Bool) = false from e)); conv => whnf) | (refine And.intro (by first | exact True.intro | ((try dsimp only [CDiv, CMul, CDivN, CPow] at *) <;> omega) | ((try dsimp only [CDiv, CMul, CDivN, CPow] at *) <;> (simp only [List.length_map, List.length_append, List.length_cons, List.length_nil, List.length_reverse, strApp_len, len1, szl] at *) <;> omega) | rfl | exact of_decide_eq_true rfl) ?_; conv => whnf))
      exact ⟨.inr ⟨rfl, rfl⟩, h⟩
  · rintro w xs m ⟨nx, st', x3, x4, x5, hs, hr, rfl⟩
    refine ⟨trivial, fun k hk => ?_⟩
    have nw : w ≠ "end" := fun e => nx (by rw [e]; simp)
    have nx' : ("end" : Str) ∉ xs := fun z => nx (by simp [z])
    rcases hs with rfl | ⟨j, hj, rfl⟩
    · by_cases hw : w ∈ ks
      · have hj := List.idxOf_lt_length_of_mem hw
        have ew := kAt_idx hw
        (try conv => whnf); repeat (first | (refine And.intro (fun e => Bool.noConfusion (show (false : Bool) = true from e)) (fun _ => ?_); conv => whnf) | (refine And.intro (fun _ => ?_) (fun e => Bool.noConfusion (show (true : Bool) = false from e)); conv => whnf) | (refine And.intro (by first | exact True.intro | ((try dsimp only [CDiv, CMul, CDivN, CPow] at *) <;> omega) | ((try dsimp only [CDiv, CMul, CDivN, CPow] at *) <;> (simp only [List.length_map, List.length_append, List.length_cons, List.length_nil, List.length_reverse, strApp_len, len1, szl] at *) <;> omega) | rfl | exact of_decide_eq_true rfl) ?_; conv => whnf))
        refine ⟨sort, rank, ks, [0], [0], w, some ("shift", ks.idxOf w + 2), rfl, rfl, nd, ne, lk, .inl ⟨rfl, _, hj, ew.symm, rfl, rfl⟩, ?_⟩
        (try conv => whnf); repeat (first | (refine And.intro (fun e => Bool.noConfusion (show (false : Bool) = true from e)) (fun _ => ?_); conv => whnf) | (refine And.intro (fun _ => ?_) (fun e => Bool.noConfusion (show (true : Bool) = false from e)); conv => whnf) | (refine And.intro (by first | exact True.intro | ((try dsimp only [CDiv, CMul, CDivN, CPow] at *) <;> omega) | ((try dsimp only [CDiv, CMul, CDivN, CPow] at *) <;> (simp only [List.length_map, List.length_append, List.length_cons, List.length_nil, List.length_reverse, strApp_len, len1, szl] at *) <;> omega) | rfl | exact of_decide_eq_true rfl) ?_; conv => whnf))
        refine hk _ ⟨nx', [0, ks.idxOf w + 2], .no, _, _, .inr ⟨_, hj, rfl⟩, ?_, rfl⟩
        rw [← hr]
        cases xs with
        | nil => simp [roB, hw]
        | cons a b => rfl
      · (try conv => whnf); repeat (first | (refine And.intro (fun e => Bool.noConfusion (show (false : Bool) = true from e)) (fun _ => ?_); conv => whnf) | (refine And.intro (fun _ => ?_) (fun e => Bool.noConfusion (show (true : Bool) = false from e)); conv => whnf) | (refine And.intro (by first | exact True.intro | ((try dsimp only [CDiv, CMul, CDivN, CPow] at *) <;> omega) | ((try dsimp only [CDiv, CMul, CDivN, CPow] at *) <;> (simp only [List.length_map, List.length_append, List.length_cons, List.length_nil, List.length_reverse, strApp_len, len1, szl] at *) <;> omega) | rfl | exact of_decide_eq_true rfl) ?_; conv => whnf))
        refine ⟨sort, rank, ks, [0], [0], w, none, rfl, rfl, nd, ne, lk, .inr (.inl ⟨rfl, hw, rfl, rfl⟩), ?_⟩
        rw [← hr, show roB ks [0] (w :: xs) = false by cases xs <;> simp [roB, hw]] at h
        (try conv => whnf); repeat (first | (refine And.intro (fun e => Bool.noConfusion (show (false : Bool) = true from e)) (fun _ => ?_); conv => whnf) | (refine And.intro (fun _ => ?_) (fun e => Bool.noConfusion (show (true : Bool) = false from e)); conv => whnf) | (refine And.intro (by first | exact True.intro | ((try dsimp only [CDiv, CMul, CDivN, CPow] at *) <;> omega) | ((try dsimp only [CDiv, CMul, CDivN, CPow] at *) <;> (simp only [List.length_map, List.length_append, List.length_cons, List.length_nil, List.length_reverse, strApp_len, len1, szl] at *) <;> omega) | rfl | exact of_decide_eq_true rfl) ?_; conv => whnf))
        exact ⟨.inr ⟨rfl, rfl⟩, h⟩
    · (try conv => whnf); repeat (first | (refine And.intro (fun e => Bool.noConfusion (show (false : Bool) = true from e)) (fun _ => ?_); conv => whnf) | (refine And.intro (fun _ => ?_) (fun e => Bool.noConfusion (show (true : Bool) = false from e)); conv => whnf) | (refine And.intro (by first | exact True.intro | ((try dsimp only [CDiv, CMul, CDivN, CPow] at *) <;> omega) | ((try dsimp only [CDiv, CMul, CDivN, CPow] at *) <;> (simp only [List.length_map, List.length_append, List.length_cons, List.length_nil, List.length_reverse, strApp_len, len1, szl] at *) <;> omega) | rfl | exact of_decide_eq_true rfl) ?_; conv => whnf))
      refine ⟨sort, rank, ks, [0, j + 2], [0, j + 2], w, none, rfl, rfl, nd, ne, lk, .inr (.inr (.inl ⟨j, hj, rfl, nw, rfl, rfl⟩)), ?_⟩
      rw [← hr, show roB ks [0, j + 2] (w :: xs) = false from rfl] at h
      (try conv => whnf); repeat (first | (refine And.intro (fun e => Bool.noConfusion (show (false : Bool) = true from e)) (fun _ => ?_); conv => whnf) | (refine And.intro (fun _ => ?_) (fun e => Bool.noConfusion (show (true : Bool) = false from e)); conv => whnf) | (refine And.intro (by first | exact True.intro | ((try dsimp only [CDiv, CMul, CDivN, CPow] at *) <;> omega) | ((try dsimp only [CDiv, CMul, CDivN, CPow] at *) <;> (simp only [List.length_map, List.length_append, List.length_cons, List.length_nil, List.length_reverse, strApp_len, len1, szl] at *) <;> omega) | rfl | exact of_decide_eq_true rfl) ?_; conv => whnf))
      exact ⟨.inr ⟨rfl, rfl⟩, h⟩

def sp_stacks_ahead : FV := fun ds gs Q _ => ∃ (sort : Str) (rank : Int) (ks row : List Str) (fault : Nat), ds = [tabD (sgT sort rank ks), .lst (row.map .str), .int fault] ∧ gs = [] ∧ ks.Nodup ∧ ("end" : Str) ∉ ks ∧ ks.length ≤ 100 ∧ (fault = 0 ∨ (fault = 1 ∧ row ≠ [] ∧ row.headD "" ∈ ks)) ∧ Q (.tmp (.lst ((stk ks row fault).map fun l => .lst (l.map natD)))) []

def fb_stacks_ahead : FS := sSeq (sAsg 3 (fLst (aCons (fC (.int 0)) (aNil))))
  (sSeq (sAsg 4 (fLst (aCons (fLst (aCons (fC (.int 0)) (aNil))) (aNil))))
  (sSeq (sShareAt 3 (sFor (iLst (fSl (fVar 1) (oNone) (oSome (fVar 2)))) (gNm 5) (sSeq (sAsg 6 (fCall 3 sp_deed_for (aCons (fVar 0) (aCons (fShare 3) (aCons (fVar 5) (aNil))))))
  (sSeq (sExpr (fMm "list" gAppend (fVar 3) (aCons (fOp gIx (fVar 6) (fC (.int 1))) (aNil))))
  (sExpr (fMm "list" gAppend (fVar 4) (aCons (fUn gList (fVar 3)) (aNil))))))))
  (sRet (fVar 4))))
theorem bd_stacks_ahead : ∀ ds gs Q Qe, sp_stacks_ahead ds gs Q Qe → bodyV 7 fb_stacks_ahead ds gs Q Qe := by
  rintro ds gs Q Qe ⟨sort, rank, ks, row, fault, rfl, rfl, nd, ne, lk, hf, h⟩
  rcases hf with rfl | ⟨rfl, hne, hw⟩
  · (try conv => whnf); repeat (first | (refine And.intro (fun e => Bool.noConfusion (show (false : Bool) = true from e)) (fun _ => ?_); conv => whnf) | (refine And.intro (fun _ => ?_) (fun e => Bool.noConfusion (show (true : Bool) = false from e)); conv => whnf) | (refine And.intro (by first | exact True.intro | ((try dsimp only [CDiv, CMul, CDivN, CPow] at *) <;> omega) | ((try dsimp only [CDiv, CMul, CDivN, CPow] at *) <;> (simp only [List.length_map, List.length_append, List.length_cons, List.length_nil, List.length_reverse, strApp_len, len1, szl] at *) <;> omega) | rfl | exact of_decide_eq_true rfl) ?_; conv => whnf))
    rw [cut_take]
    rw [List.take_zero, forQ_eq, forR_nil]
    refine ⟨trivial, ?_⟩
    (try conv => whnf); repeat (first | (refine And.intro (fun e => Bool.noConfusion (show (false : Bool) = true from e)) (fun _ => ?_); conv => whnf) | (refine And.intro (fun _ => ?_) (fun e => Bool.noConfusion (show (true : Bool) = false from e)); conv => whnf) | (refine And.intro (by first | exact True.intro | ((try dsimp only [CDiv, CMul, CDivN, CPow] at *) <;> omega) | ((try dsimp only [CDiv, CMul, CDivN, CPow] at *) <;> (simp only [List.length_map, List.length_append, List.length_cons, List.length_nil, List.length_reverse, strApp_len, len1, szl] at *) <;> omega) | rfl | exact of_decide_eq_true rfl) ?_; conv => whnf))
    exact ⟨.inr ⟨rfl, rfl⟩, h⟩
  · cases row with
    | nil => exact absurd rfl hne
    | cons w r =>
      have hw : w ∈ ks := hw
      have hj := List.idxOf_lt_length_of_mem hw
      have ew := kAt_idx hw
      (try conv => whnf); repeat (first | (refine And.intro (fun e => Bool.noConfusion (show (false : Bool) = true from e)) (fun _ => ?_); conv => whnf) | (refine And.intro (fun _ => ?_) (fun e => Bool.noConfusion (show (true : Bool) = false from e)); conv => whnf) | (refine And.intro (by first | exact True.intro | ((try dsimp only [CDiv, CMul, CDivN, CPow] at *) <;> omega) | ((try dsimp only [CDiv, CMul, CDivN, CPow] at *) <;> (simp only [List.length_map, List.length_append, List.length_cons, List.length_nil, List.length_reverse, strApp_len, len1, szl] at *) <;> omega) | rfl | exact of_decide_eq_true rfl) ?_; conv => whnf))
      rw [cut_take, forQ_eq]
      change forR _ _ _ _ [D.str w] _
      rw [forR_cons]
      refine ⟨trivial, ?_⟩
      (try conv => whnf); repeat (first | (refine And.intro (fun e => Bool.noConfusion (show (false : Bool) = true from e)) (fun _ => ?_); conv => whnf) | (refine And.intro (fun _ => ?_) (fun e => Bool.noConfusion (show (true : Bool) = false from e)); conv => whnf) | (refine And.intro (by first | exact True.intro | ((try dsimp only [CDiv, CMul, CDivN, CPow] at *) <;> omega) | ((try dsimp only [CDiv, CMul, CDivN, CPow] at *) <;> (simp only [List.length_map, List.length_append, List.length_cons, List.length_nil, List.length_reverse, strApp_len, len1, szl] at *) <;> omega) | rfl | exact of_decide_eq_true rfl) ?_; conv => whnf))
      refine ⟨sort, rank, ks, [0], [0], w, some ("shift", ks.idxOf w + 2), rfl, rfl, nd, ne, lk, .inl ⟨rfl, _, hj, ew.symm, rfl, rfl⟩, ?_⟩
      (try conv => whnf); repeat (first | (refine And.intro (fun e => Bool.noConfusion (show (false : Bool) = true from e)) (fun _ => ?_); conv => whnf) | (refine And.intro (fun _ => ?_) (fun e => Bool.noConfusion (show (true : Bool) = false from e)); conv => whnf) | (refine And.intro (by first | exact True.intro | ((try dsimp only [CDiv, CMul, CDivN, CPow] at *) <;> omega) | ((try dsimp only [CDiv, CMul, CDivN, CPow] at *) <;> (simp only [List.length_map, List.length_append, List.length_cons, List.length_nil, List.length_reverse, strApp_len, len1, szl] at *) <;> omega) | rfl | exact of_decide_eq_true rfl) ?_; conv => whnf))
      exact ⟨.inr ⟨rfl, rfl⟩, h⟩

def sp_least_stretch : FV := fun ds gs Q _ => ∃ (sort : Str) (rank : Int) (ks row : List Str) (fault : Nat), ds = [tabD (sgT sort rank ks), .lst (row.map .str), .int fault] ∧ gs = [] ∧ ks.Nodup ∧ ("end" : Str) ∉ ks ∧ ("end" : Str) ∉ row ∧ ks.length ≤ 100 ∧ row ≠ [] ∧ row.length ≤ 100 ∧ (fault = if row.headD "" ∈ ks then 1 else 0) ∧ Q (.fz (prD (lsP ks row))) []

def fb_least_stretch : FS := sSeq (sAsg 3 (fUn gLen (fVar 1)))
  (sSeq (sAsg 4 (fCall 3 sp_stacks_ahead (aCons (fVar 0) (aCons (fVar 1) (aCons (fVar 2) (aNil))))))
  (sSeq (sFor (iRange2 (fC (.int 1)) (fVar 3)) (gNm 5) (sFor (iRange1 (fOp gAdd (fOp gMin (fVar 2) (fOp gSub (fVar 3) (fVar 5))) (fC (.int 1)))) (gNm 6) (sIf (fTest (fCall 3 sp_reads_on (aCons (fVar 0) (aCons (fOp gIx (fVar 4) (fVar 6)) (aCons (fSl (fVar 1) (oSome (fOp gAdd (fVar 6) (fVar 5))) (oNone)) (aNil)))))) (sRet (fTup (aCons (fVar 6) (aCons (fOp gAdd (fVar 6) (fVar 5)) (aNil))))) (sNil))))
  (sRet (fTup (aCons (fC (.int 0)) (aCons (fVar 3) (aNil)))))))
theorem ls_one {ks row : List Str} (h : row.length ≤ 1) : lsP ks row = (0, (row.length : Int)) := by unfold lsP; rw [if_pos h]
theorem stk_at {ks : List Str} (row : List Str) {fault : Nat} (hf : fault = if row.headD "" ∈ ks then 1 else 0) : ∀ l, l ≤ fault → ∃ st, (stk ks row fault)[l]? = some st ∧ StOk ks st ∧ ((l = 0 ∧ st = [0]) ∨ (l = 1 ∧ fault = 1 ∧ ∃ j, st = [0, j])) := by
  intro l hl
  by_cases c : row.headD "" ∈ ks
  · rw [if_pos c] at hf
    subst hf
    rcases (show l = 0 ∨ l = 1 by omega) with rfl | rfl
    · exact ⟨[0], rfl, .inl rfl, .inl ⟨rfl, rfl⟩⟩
    · exact ⟨_, rfl, .inr ⟨_, List.idxOf_lt_length_of_mem c, rfl⟩, .inr ⟨rfl, rfl, _, rfl⟩⟩
  · rw [if_neg c] at hf
    subst hf
    obtain rfl : l = 0 := by omega
    exact ⟨[0], rfl, .inl rfl, .inl ⟨rfl, rfl⟩⟩
theorem stk_0 (ks row : List Str) (fault : Nat) : (stk ks row fault)[0]? = some [0] := by unfold stk; split <;> rfl
theorem ro_0 {ks xs : List Str} (h : roB ks [0] xs = true) : ∃ w, xs = [w] ∧ w ∈ ks := by
  match xs, h with
  | [w], h => exact ⟨w, rfl, by simpa [roB] using h⟩
theorem ro_1 {ks xs : List Str} {j : Nat} (h : roB ks [0, j] xs = true) : xs = [] := by
  match xs, h with
  | [], _ => rfl
theorem drop_last {row : List Str} (h : 1 ≤ row.length) : row.drop (row.length - 1) = [row.getLastD ""] := by
  have hne : row ≠ [] := fun e => by rw [e] at h; simp at h
  obtain ⟨l, x, rfl⟩ : ∃ l x, row = l ++ [x] := ⟨row.dropLast, row.getLast hne, (List.dropLast_concat_getLast hne).symm⟩
  simp
/-- the stretch that is found -/
theorem ls_hit {ks row : List Str} {fault l i : Nat} {st : List Nat} (hf : fault = if row.headD "" ∈ ks then 1 else 0) (hc : (l = 0 ∧ st = [0]) ∨ (l = 1 ∧ fault = 1 ∧ ∃ j, st = [0, j])) (hl : l + (1 + i) ≤ row.length) (hb : roB ks st (row.drop (l + (1 + i))) = true)
    (h0 : l = 1 → roB ks [0] (row.drop (0 + (1 + i))) = false) : lsP ks row = ((l : Int), (l : Int) + (1 + (i : Int))) := by
  rcases hc with ⟨rfl, rfl⟩ | ⟨rfl, rfl, j, rfl⟩
  · obtain ⟨w, e, hw⟩ := ro_0 hb
    have hlen := congrArg List.length e
    rw [List.length_drop, List.length_singleton] at hlen
    have : 0 + (1 + i) = row.length - 1 := by omega
    rw [this, drop_last (by omega)] at e
    cases e
    unfold lsP
    rw [if_neg (by omega), if_pos hw]
    congr 1
    omega
  · have e := ro_1 hb
    have hlen := congrArg List.length e
    rw [List.length_drop, List.length_nil] at hlen
    have h0 := h0 rfl
    have : 0 + (1 + i) = row.length - 1 := by omega
    rw [this, drop_last (by omega)] at h0
    have hh : row.headD "" ∈ ks := by
      by_cases c : row.headD "" ∈ ks
      · exact c
      · rw [if_neg c] at hf; cases hf
    unfold lsP
    rw [if_neg (by omega), if_neg (by simpa [roB] using h0), if_pos hh]
    congr 1
    omega
theorem ls_end {ks row : List Str} {fault : Nat} (hf : fault = if row.headD "" ∈ ks then 1 else 0) (h2 : 2 ≤ row.length) (h : ∀ l', l' < fault + 1 → ∀ st, (stk ks row fault)[l']? = some st → roB ks st (row.drop (l' + (row.length - 1))) = false) : lsP ks row = (0, (row.length : Int)) := by
  have a := h 0 (by omega) [0] (stk_0 _ _ _)
  rw [Nat.zero_add, drop_last (by omega)] at a
  unfold lsP
  rw [if_neg (by omega), if_neg (by simpa [roB] using a)]
  by_cases c : row.headD "" ∈ ks
  · rw [if_pos c] at hf
    subst hf
    have b := h 1 (by omega) _ rfl
    rw [show 1 + (row.length - 1) = row.length by omega, List.drop_length] at b
    cases b
  · rw [if_neg c]
theorem bd_least_stretch : ∀ ds gs Q Qe, sp_least_stretch ds gs Q Qe → bodyV 7 fb_least_stretch ds gs Q Qe := by
  rintro ds gs Q Qe ⟨sort, rank, ks, row, fault, rfl, rfl, nd, ne, nr, lk, hne, lr, hf, h⟩
  have el : ((row.map D.str).length : Int) = row.length := by rw [List.length_map]
  (try conv => whnf); repeat (first | (refine And.intro (fun e => Bool.noConfusion (show (false : Bool) = true from e)) (fun _ => ?_); conv => whnf) | (refine And.intro (fun _ => ?_) (fun e => Bool.noConfusion (show (true : Bool) = false from e)); conv => whnf) | (refine And.intro (by first | exact True.intro | ((try dsimp only [CDiv, CMul, CDivN, CPow] at *) <;> omega) | ((try dsimp only [CDiv, CMul, CDivN, CPow] at *) <;> (simp only [List.length_map, List.length_append, List.length_cons, List.length_nil, List.length_reverse, strApp_len, len1, szl] at *) <;> omega) | rfl | exact of_decide_eq_true rfl) ?_; conv => whnf))
  refine ⟨sort, rank, ks, row, fault, rfl, rfl, nd, ne, lk, ?_, ?_⟩
  · by_cases c : row.headD "" ∈ ks
    · exact .inr ⟨by rw [hf, if_pos c], hne, c⟩
    · exact .inl (by rw [hf, if_neg c])
  (try conv => whnf); repeat (first | (refine And.intro (fun e => Bool.noConfusion (show (false : Bool) = true from e)) (fun _ => ?_); conv => whnf) | (refine And.intro (fun _ => ?_) (fun e => Bool.noConfusion (show (true : Bool) = false from e)); conv => whnf) | (refine And.intro (by first | exact True.intro | ((try dsimp only [CDiv, CMul, CDivN, CPow] at *) <;> omega) | ((try dsimp only [CDiv, CMul, CDivN, CPow] at *) <;> (simp only [List.length_map, List.length_append, List.length_cons, List.length_nil, List.length_reverse, strApp_len, len1, szl] at *) <;> omega) | rfl | exact of_decide_eq_true rfl) ?_; conv => whnf))
  have hf1 : fault ≤ 1 := by rw [hf]; split <;> omega
  have n1 : 1 ≤ row.length := by have := List.length_pos_iff.mpr hne; omega
  have L := stk_at row hf
  refine forR_range (fun i m => ∃ (x5 x6 : Sl) (x4 : Sl), (x4 = .own (.lst ((stk ks row fault).map fun l => .lst (l.map natD))) ∨ x4 = .val (.lst ((stk ks row fault).map fun l => .lst (l.map natD)))) ∧ (i = row.length - 1 → lsP ks row = (0, (row.length : Int))) ∧ m = (⟨[.val (tabD (sgT sort rank ks)), .val (.lst (row.map .str)), .val (.int fault), .val (.int row.length), x4, x5, x6], []⟩ : M)) ?_ ?_ ⟨.no, .no, _, .inl rfl, fun e => ls_one (by omega), by rw [el]; rfl⟩
  · rintro m ⟨x5, x6, x4, h4, hi, rfl⟩
    refine ⟨trivial, ?_⟩
    have hi := hi (by rw [el]; omega)
    rw [hi] at h
    (try conv => whnf); repeat (first | (refine And.intro (fun e => Bool.noConfusion (show (false : Bool) = true from e)) (fun _ => ?_); conv => whnf) | (refine And.intro (fun _ => ?_) (fun e => Bool.noConfusion (show (true : Bool) = false from e)); conv => whnf) | (refine And.intro (by first | exact True.intro | ((try dsimp only [CDiv, CMul, CDivN, CPow] at *) <;> omega) | ((try dsimp only [CDiv, CMul, CDivN, CPow] at *) <;> (simp only [List.length_map, List.length_append, List.length_cons, List.length_nil, List.length_reverse, strApp_len, len1, szl] at *) <;> omega) | rfl | exact of_decide_eq_true rfl) ?_; conv => whnf))
    exact fin0 rfl h
  · rintro i m hi ⟨x5, x6, x4, h4, _, rfl⟩
    have hi : i < row.length - 1 := by rw [el] at hi; omega
    refine ⟨trivial, fun k hk => ?_⟩
    (try conv => whnf); repeat (first | (refine And.intro (fun e => Bool.noConfusion (show (false : Bool) = true from e)) (fun _ => ?_); conv => whnf) | (refine And.intro (fun _ => ?_) (fun e => Bool.noConfusion (show (true : Bool) = false from e)); conv => whnf) | (refine And.intro (by first | exact True.intro | ((try dsimp only [CDiv, CMul, CDivN, CPow] at *) <;> omega) | ((try dsimp only [CDiv, CMul, CDivN, CPow] at *) <;> (simp only [List.length_map, List.length_append, List.length_cons, List.length_nil, List.length_reverse, strApp_len, len1, szl] at *) <;> omega) | rfl | exact of_decide_eq_true rfl) ?_; conv => whnf))
    have eN : ((fun i j : Int => if j < i then j else i) (fault : Int) ((row.length : Int) - (1 + (i : Int))) + 1).toNat = fault + 1 := by
      show ((if (row.length : Int) - (1 + (i : Int)) < (fault : Int) then (row.length : Int) - (1 + (i : Int)) else (fault : Int)) + 1).toNat = fault + 1
      rw [if_neg (by omega)]
      omega
    rw [eN]
    refine forR_range (fun l m => ∃ (x4 x6 : Sl), (x4 = .own (.lst ((stk ks row fault).map fun l => .lst (l.map natD))) ∨ x4 = .val (.lst ((stk ks row fault).map fun l => .lst (l.map natD)))) ∧ (∀ l', l' < l → ∀ st, (stk ks row fault)[l']? = some st → roB ks st (row.drop (l' + (1 + i))) = false) ∧ m = (⟨[.val (tabD (sgT sort rank ks)), .val (.lst (row.map .str)), .val (.int fault), .val (.int row.length), x4, .val (.int (1 + i)), x6], []⟩ : M)) ?_ ?_ ⟨x4, x6, h4, fun l' z => by omega, rfl⟩
    · rintro m ⟨x4, x6, h4, hall, rfl⟩
      refine ⟨trivial, hk _ ⟨_, _, x4, h4, fun e => ls_end hf (by omega) fun l' hl st hst => ?_, rfl⟩⟩
      have := hall l' (by omega) st hst
      rw [show l' + (1 + i) = l' + (row.length - 1) by omega] at this
      exact this
    · rintro l m hl ⟨x4, x6, h4, hall, rfl⟩
      refine ⟨trivial, fun k2 hk2 => ?_⟩
      obtain ⟨st, hst, hok, hcase⟩ := L l (by omega)
      have nd2 : ("end" : Str) ∉ row.drop (l + (1 + i)) := fun z => nr (List.mem_of_mem_drop z)
      rcases h4 with rfl | rfl <;>
      · (try conv => whnf); repeat (first | (refine And.intro (fun e => Bool.noConfusion (show (false : Bool) = true from e)) (fun _ => ?_); conv => whnf) | (refine And.intro (fun _ => ?_) (fun e => Bool.noConfusion (show (true : Bool) = false from e)); conv => whnf) | (refine And.intro (by first | exact True.intro | ((try dsimp only [CDiv, CMul, CDivN, CPow] at *) <;> omega) | ((try dsimp only [CDiv, CMul, CDivN, CPow] at *) <;> (simp only [List.length_map, List.length_append, List.length_cons, List.length_nil, List.length_reverse, strApp_len, len1, szl] at *) <;> omega) | rfl | exact of_decide_eq_true rfl) ?_; conv => whnf))
        refine bindO_atk (fun l : List Nat => D.lst (l.map natD)) (n := l) (by omega) hst ?_
        (try conv => whnf); repeat (first | (refine And.intro (fun e => Bool.noConfusion (show (false : Bool) = true from e)) (fun _ => ?_); conv => whnf) | (refine And.intro (fun _ => ?_) (fun e => Bool.noConfusion (show (true : Bool) = false from e)); conv => whnf) | (refine And.intro (by first | exact True.intro | ((try dsimp only [CDiv, CMul, CDivN, CPow] at *) <;> omega) | ((try dsimp only [CDiv, CMul, CDivN, CPow] at *) <;> (simp only [List.length_map, List.length_append, List.length_cons, List.length_nil, List.length_reverse, strApp_len, len1, szl] at *) <;> omega) | rfl | exact of_decide_eq_true rfl) ?_; conv => whnf))
        rw [show ((0 : Int) + (l : Int) + (1 + (i : Int))) = ((l + (1 + i) : Nat) : Int) by omega, cutD_map, cut_drop]
        refine ⟨sort, rank, ks, st, row.drop (l + (1 + i)), rfl, rfl, nd, ne, nd2, lk, hok, ?_⟩
        by_cases hb : roB ks st (row.drop (l + (1 + i))) = true
        · rw [hb]
          have e := ls_hit hf hcase (show l + (1 + i) ≤ row.length by omega) hb (fun z => hall 0 (by omega) [0] (by subst z; exact stk_0 _ _ _))
          rw [e] at h
          (try conv => whnf); repeat (first | (refine And.intro (fun e => Bool.noConfusion (show (false : Bool) = true from e)) (fun _ => ?_); conv => whnf) | (refine And.intro (fun _ => ?_) (fun e => Bool.noConfusion (show (true : Bool) = false from e)); conv => whnf) | (refine And.intro (by first | exact True.intro | ((try dsimp only [CDiv, CMul, CDivN, CPow] at *) <;> omega) | ((try dsimp only [CDiv, CMul, CDivN, CPow] at *) <;> (simp only [List.length_map, List.length_append, List.length_cons, List.length_nil, List.length_reverse, strApp_len, len1, szl] at *) <;> omega) | rfl | exact of_decide_eq_true rfl) ?_; conv => whnf))
          exact fin0 rfl (by rw [show ((0 : Int) + (l : Int)) = l by omega]; exact h)
        · rw [Bool.not_eq_true] at hb
          rw [hb]
          (try conv => whnf); repeat (first | (refine And.intro (fun e => Bool.noConfusion (show (false : Bool) = true from e)) (fun _ => ?_); conv => whnf) | (refine And.intro (fun _ => ?_) (fun e => Bool.noConfusion (show (true : Bool) = false from e)); conv => whnf) | (refine And.intro (by first | exact True.intro | ((try dsimp only [CDiv, CMul, CDivN, CPow] at *) <;> omega) | ((try dsimp only [CDiv, CMul, CDivN, CPow] at *) <;> (simp only [List.length_map, List.length_append, List.length_cons, List.length_nil, List.length_reverse, strApp_len, len1, szl] at *) <;> omega) | rfl | exact of_decide_eq_true rfl) ?_; conv => whnf))
          refine hk2 _ ⟨_, _, by first | exact .inl rfl | exact .inr rfl, fun l' hl' st' hst' => ?_, rfl⟩
          rcases Nat.lt_succ_iff_lt_or_eq.mp hl' with z | rfl
          · exact hall l' z st' hst'
          · rw [hst] at hst'
            cases hst'
            exact hb

def sp_aside_of : FV := fun ds gs Q _ => ∃ (sort : Str) (rank : Int) (ks row : List Str), ds = [tabD (sgT sort rank ks), .lst (row.map .str)] ∧ gs = [] ∧ ks.Nodup ∧ ("end" : Str) ∉ ks ∧ ("end" : Str) ∉ row ∧ ks.length ≤ 100 ∧ row.length ≤ 100 ∧ Q (.fz (prD (dueP ks row))) []

def fb_aside_of : FS := sSeq (sIf (fTest (fOp (gEq false) (fVar 1) (fLst (aNil)))) (sRet (fTup (aCons (fC (.int 0)) (aCons (fC (.int 0)) (aNil))))) (sNil))
  (sSeq (sAsg 2 (fCall 2 sp_fault_of (aCons (fVar 0) (aCons (fVar 1) (aNil)))))
  (sSeq (sIf (fTest (fOp (gIs false) (fVar 2) (fC .non))) (sRet (fTup (aCons (fC (.int 0)) (aCons (fC (.int 0)) (aNil))))) (sNil))
  (sSeq (sIf (fTest (fOp gGt (fUn gLen (fVar 1)) (fC (.int 40)))) (sRet (fTup (aCons (fC (.int 0)) (aCons (fUn gLen (fVar 1)) (aNil))))) (sNil))
  (sRet (fCall 3 sp_least_stretch (aCons (fVar 0) (aCons (fVar 1) (aCons (fVar 2) (aNil)))))))))
theorem bd_aside_of : ∀ ds gs Q Qe, sp_aside_of ds gs Q Qe → bodyV 3 fb_aside_of ds gs Q Qe := by
  rintro ds gs Q Qe ⟨sort, rank, ks, row, rfl, rfl, nd, ne, nr, lk, lr, h⟩
  have el : ((row.map D.str).length : Int) = row.length := by rw [List.length_map]
  cases row with
  | nil =>
    (try conv => whnf); repeat (first | (refine And.intro (fun e => Bool.noConfusion (show (false : Bool) = true from e)) (fun _ => ?_); conv => whnf) | (refine And.intro (fun _ => ?_) (fun e => Bool.noConfusion (show (true : Bool) = false from e)); conv => whnf) | (refine And.intro (by first | exact True.intro | ((try dsimp only [CDiv, CMul, CDivN, CPow] at *) <;> omega) | ((try dsimp only [CDiv, CMul, CDivN, CPow] at *) <;> (simp only [List.length_map, List.length_append, List.length_cons, List.length_nil, List.length_reverse, strApp_len, len1, szl] at *) <;> omega) | rfl | exact of_decide_eq_true rfl) ?_; conv => whnf))
    refine bindO_of (eqO_e ([] : List Str) [] (by decide)) ?_
    (try conv => whnf); repeat (first | (refine And.intro (fun e => Bool.noConfusion (show (false : Bool) = true from e)) (fun _ => ?_); conv => whnf) | (refine And.intro (fun _ => ?_) (fun e => Bool.noConfusion (show (true : Bool) = false from e)); conv => whnf) | (refine And.intro (by first | exact True.intro | ((try dsimp only [CDiv, CMul, CDivN, CPow] at *) <;> omega) | ((try dsimp only [CDiv, CMul, CDivN, CPow] at *) <;> (simp only [List.length_map, List.length_append, List.length_cons, List.length_nil, List.length_reverse, strApp_len, len1, szl] at *) <;> omega) | rfl | exact of_decide_eq_true rfl) ?_; conv => whnf))
    exact fin0 rfl h
  | cons w r =>
    have f0 : flD ks (w :: r) = if w ∈ ks then (if r = [] then .non else .int (1 : Nat)) else .int (0 : Nat) := by
      unfold flD
      rw [sgRes_cons]
      by_cases hw : w ∈ ks
      · rw [if_pos hw, if_pos hw]
        by_cases hr : r = []
        · rw [if_pos hr, if_pos hr]
        · rw [if_neg hr, if_neg hr]
      · rw [if_neg hw, if_neg hw]
    have fin : ∀ fault : Nat, flD ks (w :: r) = .int fault → (fault = if w ∈ ks then 1 else 0) → ¬ (w ∈ ks ∧ r = []) → bodyV 3 fb_aside_of [tabD (sgT sort rank ks), .lst ((w :: r).map .str)] [] Q Qe := fun fault e1 e2 hno => by
      (try conv => whnf); repeat (first | (refine And.intro (fun e => Bool.noConfusion (show (false : Bool) = true from e)) (fun _ => ?_); conv => whnf) | (refine And.intro (fun _ => ?_) (fun e => Bool.noConfusion (show (true : Bool) = false from e)); conv => whnf) | (refine And.intro (by first | exact True.intro | ((try dsimp only [CDiv, CMul, CDivN, CPow] at *) <;> omega) | ((try dsimp only [CDiv, CMul, CDivN, CPow] at *) <;> (simp only [List.length_map, List.length_append, List.length_cons, List.length_nil, List.length_reverse, strApp_len, len1, szl] at *) <;> omega) | rfl | exact of_decide_eq_true rfl) ?_; conv => whnf))
      refine bindO_of (eqO_e (w :: r) ([] : List Str) (by decide)) ?_
      (try conv => whnf); repeat (first | (refine And.intro (fun e => Bool.noConfusion (show (false : Bool) = true from e)) (fun _ => ?_); conv => whnf) | (refine And.intro (fun _ => ?_) (fun e => Bool.noConfusion (show (true : Bool) = false from e)); conv => whnf) | (refine And.intro (by first | exact True.intro | ((try dsimp only [CDiv, CMul, CDivN, CPow] at *) <;> omega) | ((try dsimp only [CDiv, CMul, CDivN, CPow] at *) <;> (simp only [List.length_map, List.length_append, List.length_cons, List.length_nil, List.length_reverse, strApp_len, len1, szl] at *) <;> omega) | rfl | exact of_decide_eq_true rfl) ?_; conv => whnf))
      refine ⟨sort, rank, ks, w :: r, rfl, rfl, nd, ne, nr, lr, ?_⟩
      rw [e1]
      have e3 : dueP ks (w :: r) = if 40 < (w :: r).length then (0, ((w :: r).length : Int)) else lsP ks (w :: r) := by
        unfold dueP
        rw [if_neg]
        rintro (z | ⟨z1, z2⟩)
        · cases z
        · exact hno ⟨z2, by simpa using z1⟩
      rw [e3] at h
      (try conv => whnf); repeat (first | (refine And.intro (fun e => Bool.noConfusion (show (false : Bool) = true from e)) (fun _ => ?_); conv => whnf) | (refine And.intro (fun _ => ?_) (fun e => Bool.noConfusion (show (true : Bool) = false from e)); conv => whnf) | (refine And.intro (by first | exact True.intro | ((try dsimp only [CDiv, CMul, CDivN, CPow] at *) <;> omega) | ((try dsimp only [CDiv, CMul, CDivN, CPow] at *) <;> (simp only [List.length_map, List.length_append, List.length_cons, List.length_nil, List.length_reverse, strApp_len, len1, szl] at *) <;> omega) | rfl | exact of_decide_eq_true rfl) ?_; conv => whnf))
      by_cases c : 40 < (w :: r).length
      · rw [if_pos c] at h
        refine yes_of (by simp at c ⊢; omega) ?_
        (try conv => whnf); repeat (first | (refine And.intro (fun e => Bool.noConfusion (show (false : Bool) = true from e)) (fun _ => ?_); conv => whnf) | (refine And.intro (fun _ => ?_) (fun e => Bool.noConfusion (show (true : Bool) = false from e)); conv => whnf) | (refine And.intro (by first | exact True.intro | ((try dsimp only [CDiv, CMul, CDivN, CPow] at *) <;> omega) | ((try dsimp only [CDiv, CMul, CDivN, CPow] at *) <;> (simp only [List.length_map, List.length_append, List.length_cons, List.length_nil, List.length_reverse, strApp_len, len1, szl] at *) <;> omega) | rfl | exact of_decide_eq_true rfl) ?_; conv => whnf))
        exact fin0 rfl (by rw [List.length_map]; exact h)
      · rw [if_neg c] at h
        refine no_of (by simp at c ⊢; omega) ?_
        (try conv => whnf); repeat (first | (refine And.intro (fun e => Bool.noConfusion (show (false : Bool) = true from e)) (fun _ => ?_); conv => whnf) | (refine And.intro (fun _ => ?_) (fun e => Bool.noConfusion (show (true : Bool) = false from e)); conv => whnf) | (refine And.intro (by first | exact True.intro | ((try dsimp only [CDiv, CMul, CDivN, CPow] at *) <;> omega) | ((try dsimp only [CDiv, CMul, CDivN, CPow] at *) <;> (simp only [List.length_map, List.length_append, List.length_cons, List.length_nil, List.length_reverse, strApp_len, len1, szl] at *) <;> omega) | rfl | exact of_decide_eq_true rfl) ?_; conv => whnf))
        refine ⟨sort, rank, ks, w :: r, fault, rfl, rfl, nd, ne, nr, lk, by simp, by omega, e2, ?_⟩
        (try conv => whnf); repeat (first | (refine And.intro (fun e => Bool.noConfusion (show (false : Bool) = true from e)) (fun _ => ?_); conv => whnf) | (refine And.intro (fun _ => ?_) (fun e => Bool.noConfusion (show (true : Bool) = false from e)); conv => whnf) | (refine And.intro (by first | exact True.intro | ((try dsimp only [CDiv, CMul, CDivN, CPow] at *) <;> omega) | ((try dsimp only [CDiv, CMul, CDivN, CPow] at *) <;> (simp only [List.length_map, List.length_append, List.length_cons, List.length_nil, List.length_reverse, strApp_len, len1, szl] at *) <;> omega) | rfl | exact of_decide_eq_true rfl) ?_; conv => whnf))
        exact fin0 rfl h
    by_cases hw : w ∈ ks
    · by_cases hr : r = []
      · subst hr
        rw [if_pos hw, if_pos rfl] at f0
        rw [show dueP ks [w] = (0, 0) by simp [dueP, hw]] at h
        (try conv => whnf); repeat (first | (refine And.intro (fun e => Bool.noConfusion (show (false : Bool) = true from e)) (fun _ => ?_); conv => whnf) | (refine And.intro (fun _ => ?_) (fun e => Bool.noConfusion (show (true : Bool) = false from e)); conv => whnf) | (refine And.intro (by first | exact True.intro | ((try dsimp only [CDiv, CMul, CDivN, CPow] at *) <;> omega) | ((try dsimp only [CDiv, CMul, CDivN, CPow] at *) <;> (simp only [List.length_map, List.length_append, List.length_cons, List.length_nil, List.length_reverse, strApp_len, len1, szl] at *) <;> omega) | rfl | exact of_decide_eq_true rfl) ?_; conv => whnf))
        refine bindO_of (eqO_e [w] ([] : List Str) (by decide)) ?_
        (try conv => whnf); repeat (first | (refine And.intro (fun e => Bool.noConfusion (show (false : Bool) = true from e)) (fun _ => ?_); conv => whnf) | (refine And.intro (fun _ => ?_) (fun e => Bool.noConfusion (show (true : Bool) = false from e)); conv => whnf) | (refine And.intro (by first | exact True.intro | ((try dsimp only [CDiv, CMul, CDivN, CPow] at *) <;> omega) | ((try dsimp only [CDiv, CMul, CDivN, CPow] at *) <;> (simp only [List.length_map, List.length_append, List.length_cons, List.length_nil, List.length_reverse, strApp_len, len1, szl] at *) <;> omega) | rfl | exact of_decide_eq_true rfl) ?_; conv => whnf))
        refine ⟨sort, rank, ks, [w], rfl, rfl, nd, ne, nr, lr, ?_⟩
        rw [f0]
        (try conv => whnf); repeat (first | (refine And.intro (fun e => Bool.noConfusion (show (false : Bool) = true from e)) (fun _ => ?_); conv => whnf) | (refine And.intro (fun _ => ?_) (fun e => Bool.noConfusion (show (true : Bool) = false from e)); conv => whnf) | (refine And.intro (by first | exact True.intro | ((try dsimp only [CDiv, CMul, CDivN, CPow] at *) <;> omega) | ((try dsimp only [CDiv, CMul, CDivN, CPow] at *) <;> (simp only [List.length_map, List.length_append, List.length_cons, List.length_nil, List.length_reverse, strApp_len, len1, szl] at *) <;> omega) | rfl | exact of_decide_eq_true rfl) ?_; conv => whnf))
        exact fin0 rfl h
      · rw [if_pos hw, if_neg hr] at f0
        exact fin 1 f0 (by rw [if_pos hw]) fun z => hr z.2
    · rw [if_neg hw] at f0
      exact fin 0 f0 (by rw [if_neg hw]) fun z => hw z.1

def sp_law : FV := fun ds gs Q _ => ∃ ns : List Int, ns.length ≤ 63 ∧ gs = [] ∧ ds = [.kl (ns.map .int)] ∧ Q (.fz (.bl true)) gs

@[irreducible] def fb_law_13 : FS := sRet (fOp (gSm false) (fVar 6) (fCall 3 sp__law_tables (aCons (fOp gIx (fVar 2) (fVar 1)) (aCons (fVar 5) (aCons (fVar 3) (aNil))))))
theorem eq_law_13 : fb_law_13 = sRet (fOp (gSm false) (fVar 6) (fCall 3 sp__law_tables (aCons (fOp gIx (fVar 2) (fVar 1)) (aCons (fVar 5) (aCons (fVar 3) (aNil)))))) := by unfold fb_law_13; rfl
@[irreducible] def fb_law_12 : FS := sSeq (sFor (iRange1 (fC (.int 2))) (gNm 11) (sSeq (sAsg 12 (fUn gList (fVar 7)))
  (sSeq (sAsg 13 (fCall 2 sp_aside_of (aCons (fVar 6) (aCons (fVar 12) (aNil)))))
  (sSeq (sIf (fOr (fNot (fTest (fUn (gIsiT .tuple) (fVar 13)))) (fOr (fTest (fOp (gEq true) (fUn gLen (fVar 13)) (fC (.int 2)))) (fTest (fOp (gEq true) (fVar 12) (fVar 7))))) (sRet (fC (.bl false))) (sNil))
  (sSeq (sFor (iTupD (fVar 13)) (gNm 14) (sIf (fOr (fNot (fTest (fUn (gIsiT .int) (fVar 14)))) (fTest (fUn (gIsiT .bool) (fVar 14)))) (sRet (fC (.bl false))) (sNil)))
  (sIf (fTest (fOp (gEq true) (fVar 13) (fVar 10))) (sRet (fC (.bl false))) (sNil)))))))
  (fb_law_13)
theorem eq_law_12 : fb_law_12 = sSeq (sFor (iRange1 (fC (.int 2))) (gNm 11) (sSeq (sAsg 12 (fUn gList (fVar 7)))
  (sSeq (sAsg 13 (fCall 2 sp_aside_of (aCons (fVar 6) (aCons (fVar 12) (aNil)))))
  (sSeq (sIf (fOr (fNot (fTest (fUn (gIsiT .tuple) (fVar 13)))) (fOr (fTest (fOp (gEq true) (fUn gLen (fVar 13)) (fC (.int 2)))) (fTest (fOp (gEq true) (fVar 12) (fVar 7))))) (sRet (fC (.bl false))) (sNil))
  (sSeq (sFor (iTupD (fVar 13)) (gNm 14) (sIf (fOr (fNot (fTest (fUn (gIsiT .int) (fVar 14)))) (fTest (fUn (gIsiT .bool) (fVar 14)))) (sRet (fC (.bl false))) (sNil)))
  (sIf (fTest (fOp (gEq true) (fVar 13) (fVar 10))) (sRet (fC (.bl false))) (sNil)))))))
  (fb_law_13) := by unfold fb_law_12; rfl
@[irreducible] def fb_law_11 : FS := sSeq (sAsg 10 (fCall 2 sp__law_due (aCons (fVar 7) (aCons (fVar 3) (aNil)))))
  (fb_law_12)
theorem eq_law_11 : fb_law_11 = sSeq (sAsg 10 (fCall 2 sp__law_due (aCons (fVar 7) (aCons (fVar 3) (aNil)))))
  (fb_law_12) := by unfold fb_law_11; rfl
@[irreducible] def fb_law_10 : FS := sSeq (sAsg 7 (fSl (fVar 7) (oNone) (oSome (fC (.int 60)))))
  (fb_law_11)
theorem eq_law_10 : fb_law_10 = sSeq (sAsg 7 (fSl (fVar 7) (oNone) (oSome (fC (.int 60)))))
  (fb_law_11) := by unfold fb_law_10; rfl
@[irreducible] def fb_law_9 : FS := sSeq (sIf (fTest (fOp (gEq false) (fOp gMod (fVar 8) (fC (.int 4))) (fC (.int 2)))) (sAsg 7 (fUn gRevL (fVar 7))) (sNil))
  (fb_law_10)
theorem eq_law_9 : fb_law_9 = sSeq (sIf (fTest (fOp (gEq false) (fOp gMod (fVar 8) (fC (.int 4))) (fC (.int 2)))) (sAsg 7 (fUn gRevL (fVar 7))) (sNil))
  (fb_law_10) := by unfold fb_law_9; rfl
@[irreducible] def fb_law_8 : FS := sSeq (sIf (fTest (fOp (gEq false) (fOp gMod (fVar 8) (fC (.int 4))) (fC (.int 1)))) (sSeq (sAsg 9 (fOp gMul (fLst (aCons (fCall 3 sp__law_kind (aCons (fOp gDiv (fVar 8) (fC (.int 4))) (aCons (fVar 3) (aCons (fVar 4) (aNil))))) (aNil))) (fOp gAdd (fC (.int 1)) (fOp gMod (fOp gDiv (fVar 8) (fC (.int 8))) (fC (.int 9))))))
  (sAsg 7 (fOp gAdd (fVar 9) (fOp gMul (fLst (aCons (fCall 3 sp__law_kind (aCons (fOp gDiv (fVar 8) (fC (.int 72))) (aCons (fVar 3) (aCons (fVar 4) (aNil))))) (aNil))) (fOp gSub (fOp gAdd (fC (.int 38)) (fOp gMod (fUn gLen (fVar 0)) (fC (.int 6)))) (fUn gLen (fVar 9))))))) (sNil))
  (fb_law_9)
theorem eq_law_8 : fb_law_8 = sSeq (sIf (fTest (fOp (gEq false) (fOp gMod (fVar 8) (fC (.int 4))) (fC (.int 1)))) (sSeq (sAsg 9 (fOp gMul (fLst (aCons (fCall 3 sp__law_kind (aCons (fOp gDiv (fVar 8) (fC (.int 4))) (aCons (fVar 3) (aCons (fVar 4) (aNil))))) (aNil))) (fOp gAdd (fC (.int 1)) (fOp gMod (fOp gDiv (fVar 8) (fC (.int 8))) (fC (.int 9))))))
  (sAsg 7 (fOp gAdd (fVar 9) (fOp gMul (fLst (aCons (fCall 3 sp__law_kind (aCons (fOp gDiv (fVar 8) (fC (.int 72))) (aCons (fVar 3) (aCons (fVar 4) (aNil))))) (aNil))) (fOp gSub (fOp gAdd (fC (.int 38)) (fOp gMod (fUn gLen (fVar 0)) (fC (.int 6)))) (fUn gLen (fVar 9))))))) (sNil))
  (fb_law_9) := by unfold fb_law_8; rfl
def fb_law : FS := sSeq (sAsg 1 (fOp gAdd (fC (.int 1)) (fOp gMod (fCall 2 sp__law_cell_at (aCons (fVar 0) (aCons (fC (.int 0)) (aNil)))) (fC (.int 24)))))
  (sSeq (sAsg 2 (fCall 3 sp__law_names (aCons (fCall 2 sp__law_cell_at (aCons (fVar 0) (aCons (fC (.int 1)) (aNil)))) (aCons (fCall 2 sp__law_cell_at (aCons (fVar 0) (aCons (fC (.int 2)) (aNil)))) (aCons (fOp gAdd (fVar 1) (fC (.int 2))) (aNil))))))
  (sSeq (sAsg 3 (fKeep (fSl (fVar 2) (oNone) (oSome (fVar 1)))))
  (sSeq (sAsg 4 (fKeep (fOp gAdd (fSl (fVar 2) (oSome (fVar 1)) (oNone)) (fLst (aCons (fC (.str "stray")) (aNil))))))
  (sSeq (sAsg 5 (fOp gMod (fCall 2 sp__law_cell_at (aCons (fVar 0) (aCons (fC (.int 3)) (aNil)))) (fC (.int 100))))
  (sSeq (sAsg 6 (fCall 3 sp__law_tables (aCons (fOp gIx (fVar 2) (fVar 1)) (aCons (fVar 5) (aCons (fVar 3) (aNil))))))
  (sSeq (sAsg 7 (fLc (iLst (fSl (fVar 0) (oSome (fC (.int 5))) (oNone))) (gNm 8) (tYesV) (fCall 3 sp__law_kind (aCons (fVar 8) (aCons (fVar 3) (aCons (fVar 4) (aNil))))) [8]))
  (sSeq (sAsg 8 (fCall 2 sp__law_cell_at (aCons (fVar 0) (aCons (fC (.int 4)) (aNil)))))
  (fb_law_8))))))))
theorem rep_map (n : Nat) (x : D) (w : Str) (h : x = D.str w) : (List.replicate n [x]).flatten = (List.replicate n w).map D.str := by
  subst h
  induction n with
  | zero => rfl
  | succ n ih => rw [List.replicate_succ, List.flatten_cons, ih, List.replicate_succ]; rfl
theorem prD_refl (p : Int × Int) : eqO (prD p) (prD p) = some true := ((Pl.tup (n := 0) (.cons (.int _) (.cons (.int _) .nil))).mono (by decide)).refl
theorem bd_law : ∀ ds gs Q Qe, sp_law ds gs Q Qe → bodyV 15 fb_law ds gs Q Qe := by
  rintro ds gs Q Qe ⟨ns, hns, rfl, rfl, h⟩
  obtain ⟨many, hmany, hm1, hm2⟩ : ∃ many : Nat, (1 : Int) + ns.getD 0 0 % 24 = many ∧ 1 ≤ many ∧ many ≤ 24 := ⟨(1 + ns.getD 0 0 % 24).toNat, by omega, by omega, by omega⟩
  (try conv => whnf); repeat (first | (refine And.intro (fun e => Bool.noConfusion (show (false : Bool) = true from e)) (fun _ => ?_); conv => whnf) | (refine And.intro (fun _ => ?_) (fun e => Bool.noConfusion (show (true : Bool) = false from e)); conv => whnf) | (refine And.intro (by first | exact True.intro | ((try dsimp only [CDiv, CMul, CDivN, CPow] at *) <;> omega) | ((try dsimp only [CDiv, CMul, CDivN, CPow] at *) <;> (simp only [List.length_map, List.length_append, List.length_cons, List.length_nil, List.length_reverse, strApp_len, len1, szl] at *) <;> omega) | rfl | exact of_decide_eq_true rfl) ?_; conv => whnf))
  refine ⟨ns, 0, rfl, ?_⟩
  (try conv => whnf); repeat (first | (refine And.intro (fun e => Bool.noConfusion (show (false : Bool) = true from e)) (fun _ => ?_); conv => whnf) | (refine And.intro (fun _ => ?_) (fun e => Bool.noConfusion (show (true : Bool) = false from e)); conv => whnf) | (refine And.intro (by first | exact True.intro | ((try dsimp only [CDiv, CMul, CDivN, CPow] at *) <;> omega) | ((try dsimp only [CDiv, CMul, CDivN, CPow] at *) <;> (simp only [List.length_map, List.length_append, List.length_cons, List.length_nil, List.length_reverse, strApp_len, len1, szl] at *) <;> omega) | rfl | exact of_decide_eq_true rfl) ?_; conv => whnf))
  refine ⟨ns, 1, rfl, ?_⟩
  (try conv => whnf); repeat (first | (refine And.intro (fun e => Bool.noConfusion (show (false : Bool) = true from e)) (fun _ => ?_); conv => whnf) | (refine And.intro (fun _ => ?_) (fun e => Bool.noConfusion (show (true : Bool) = false from e)); conv => whnf) | (refine And.intro (by first | exact True.intro | ((try dsimp only [CDiv, CMul, CDivN, CPow] at *) <;> omega) | ((try dsimp only [CDiv, CMul, CDivN, CPow] at *) <;> (simp only [List.length_map, List.length_append, List.length_cons, List.length_nil, List.length_reverse, strApp_len, len1, szl] at *) <;> omega) | rfl | exact of_decide_eq_true rfl) ?_; conv => whnf))
  refine ⟨ns, 2, rfl, ?_⟩
  (try conv => whnf); repeat (first | (refine And.intro (fun e => Bool.noConfusion (show (false : Bool) = true from e)) (fun _ => ?_); conv => whnf) | (refine And.intro (fun _ => ?_) (fun e => Bool.noConfusion (show (true : Bool) = false from e)); conv => whnf) | (refine And.intro (by first | exact True.intro | ((try dsimp only [CDiv, CMul, CDivN, CPow] at *) <;> omega) | ((try dsimp only [CDiv, CMul, CDivN, CPow] at *) <;> (simp only [List.length_map, List.length_append, List.length_cons, List.length_nil, List.length_reverse, strApp_len, len1, szl] at *) <;> omega) | rfl | exact of_decide_eq_true rfl) ?_; conv => whnf))
  refine ⟨_, _, many + 2, by rw [show ((many + 2 : Nat) : Int) = (1 + ns.getD 0 0 % 24) + 2 by omega], by omega, ?_⟩
  generalize hN : n7Ns 19 (ns.getD 1 0) (ns.getD 2 0) (many + 2) = N
  have lN : N.length = many + 2 := by rw [← hN, n7Ns_len]
  have ndN : N.Nodup := by rw [← hN]; exact n7Ns_nd _ _ _ (by omega)
  have neN : ("end" : Str) ∉ N := by rw [← hN]; exact n7Ns_end _ _ _ _
  have ndK : (N.take many).Nodup := ndN.sublist (List.take_sublist _ _)
  have lK : (N.take many).length = many := by rw [List.length_take]; omega
  have neK : ("end" : Str) ∉ N.take many := fun z => neN (List.mem_of_mem_take z)
  have neO : ("end" : Str) ∉ N.drop many ++ [("stray" : Str)] := fun z => by
    rcases List.mem_append.mp z with y | y
    · exact neN (List.mem_of_mem_drop y)
    · rw [List.mem_singleton] at y
      exact absurd y (by decide)
  have lO : (N.drop many ++ [("stray" : Str)]).length = 3 := by rw [List.length_append, List.length_drop, List.length_singleton]; omega
  generalize hK : N.take many = ks at *
  have ld : (N.drop many).length = 2 := by rw [List.length_drop]; omega
  generalize hO : N.drop many ++ [("stray" : Str)] = os at *
  have eO : ∀ x, x = D.str "stray" → List.map D.str (N.drop many) ++ [x] = os.map D.str := fun x e => by rw [← hO, e, List.map_append]; rfl
  let S : Int → Str → Sl → Sl → Sl → Sl → Sl → Sl → Sl → Sl → M := fun rank sort x7 x8 x9 x10 x11 x12 x13 x14 => ⟨[.val (.kl (ns.map .int)), .val (.int many), .own (.lst (N.map .str)), .val (.lst (ks.map .str)), .val (.lst (os.map .str)), .val (.int rank), .val (tabD (sgT sort rank ks)), x7, x8, x9, x10, x11, x12, x13, x14], []⟩
  have J13 : ∀ (rank : Int) (sort : Str) (x7 x8 x9 x10 x11 x12 x13 x14 : Sl), N[many]? = some sort → fb_law_13 (endsB [] Q Qe) (S rank sort x7 x8 x9 x10 x11 x12 x13 x14) := by
    intro rank sort x7 x8 x9 x10 x11 x12 x13 x14 hs
    unfold fb_law_13
    (try conv => whnf); repeat (first | (refine And.intro (fun e => Bool.noConfusion (show (false : Bool) = true from e)) (fun _ => ?_); conv => whnf) | (refine And.intro (fun _ => ?_) (fun e => Bool.noConfusion (show (true : Bool) = false from e)); conv => whnf) | (refine And.intro (by first | exact True.intro | ((try dsimp only [CDiv, CMul, CDivN, CPow] at *) <;> omega) | ((try dsimp only [CDiv, CMul, CDivN, CPow] at *) <;> (simp only [List.length_map, List.length_append, List.length_cons, List.length_nil, List.length_reverse, strApp_len, len1, szl] at *) <;> omega) | rfl | exact of_decide_eq_true rfl) ?_; conv => whnf))
    refine bindO_atk D.str (n := many) (by (first | ((try dsimp only [CDiv, CMul, CDivN, CPow] at *) <;> omega) | ((try dsimp only [CDiv, CMul, CDivN, CPow] at *) <;> (simp only [List.length_map, List.length_append, List.length_cons, List.length_nil, List.length_reverse, strApp_len, len1, szl] at *) <;> omega))) hs ?_
    (try conv => whnf); repeat (first | (refine And.intro (fun e => Bool.noConfusion (show (false : Bool) = true from e)) (fun _ => ?_); conv => whnf) | (refine And.intro (fun _ => ?_) (fun e => Bool.noConfusion (show (true : Bool) = false from e)); conv => whnf) | (refine And.intro (by first | exact True.intro | ((try dsimp only [CDiv, CMul, CDivN, CPow] at *) <;> omega) | ((try dsimp only [CDiv, CMul, CDivN, CPow] at *) <;> (simp only [List.length_map, List.length_append, List.length_cons, List.length_nil, List.length_reverse, strApp_len, len1, szl] at *) <;> omega) | rfl | exact of_decide_eq_true rfl) ?_; conv => whnf))
    refine ⟨sort, rank, ks, rfl, .inl rfl, ndK, by omega, ?_⟩
    (try conv => whnf); repeat (first | (refine And.intro (fun e => Bool.noConfusion (show (false : Bool) = true from e)) (fun _ => ?_); conv => whnf) | (refine And.intro (fun _ => ?_) (fun e => Bool.noConfusion (show (true : Bool) = false from e)); conv => whnf) | (refine And.intro (by first | exact True.intro | ((try dsimp only [CDiv, CMul, CDivN, CPow] at *) <;> omega) | ((try dsimp only [CDiv, CMul, CDivN, CPow] at *) <;> (simp only [List.length_map, List.length_append, List.length_cons, List.length_nil, List.length_reverse, strApp_len, len1, szl] at *) <;> omega) | rfl | exact of_decide_eq_true rfl) ?_; conv => whnf))
    refine ⟨sgT_sm _ _ _, trivial, ?_⟩
    (try conv => whnf); repeat (first | (refine And.intro (fun e => Bool.noConfusion (show (false : Bool) = true from e)) (fun _ => ?_); conv => whnf) | (refine And.intro (fun _ => ?_) (fun e => Bool.noConfusion (show (true : Bool) = false from e)); conv => whnf) | (refine And.intro (by first | exact True.intro | ((try dsimp only [CDiv, CMul, CDivN, CPow] at *) <;> omega) | ((try dsimp only [CDiv, CMul, CDivN, CPow] at *) <;> (simp only [List.length_map, List.length_append, List.length_cons, List.length_nil, List.length_reverse, strApp_len, len1, szl] at *) <;> omega) | rfl | exact of_decide_eq_true rfl) ?_; conv => whnf))
    exact fin0 rfl h
  have J12 : ∀ (rank : Int) (sort : Str) (row : List Str) (x8 x9 x11 x12 x13 x14 : Sl), N[many]? = some sort → row.length ≤ 100 → ("end" : Str) ∉ row → fb_law_12 (endsB [] Q Qe) (S rank sort (.val (.lst (row.map .str))) x8 x9 (.val (prD (dueP ks row))) x11 x12 x13 x14) := by
    intro rank sort row x8 x9 x11 x12 x13 x14 hs lr nr
    unfold fb_law_12
    (try conv => whnf); repeat (first | (refine And.intro (fun e => Bool.noConfusion (show (false : Bool) = true from e)) (fun _ => ?_); conv => whnf) | (refine And.intro (fun _ => ?_) (fun e => Bool.noConfusion (show (true : Bool) = false from e)); conv => whnf) | (refine And.intro (by first | exact True.intro | ((try dsimp only [CDiv, CMul, CDivN, CPow] at *) <;> omega) | ((try dsimp only [CDiv, CMul, CDivN, CPow] at *) <;> (simp only [List.length_map, List.length_append, List.length_cons, List.length_nil, List.length_reverse, strApp_len, len1, szl] at *) <;> omega) | rfl | exact of_decide_eq_true rfl) ?_; conv => whnf))
    refine forR_range (fun i m => ∃ (x11 x12 x13 x14 : Sl), m = S rank sort (.val (.lst (row.map .str))) x8 x9 (.val (prD (dueP ks row))) x11 x12 x13 x14) ?_ ?_ ⟨x11, x12, x13, x14, rfl⟩
    · rintro m ⟨x11, x12, x13, x14, rfl⟩
      exact ⟨trivial, J13 _ _ _ _ _ _ _ _ _ _ hs⟩
    · rintro i m hi ⟨x11, x12, x13, x14, rfl⟩
      refine ⟨trivial, fun k hk => ?_⟩
      (try conv => whnf); repeat (first | (refine And.intro (fun e => Bool.noConfusion (show (false : Bool) = true from e)) (fun _ => ?_); conv => whnf) | (refine And.intro (fun _ => ?_) (fun e => Bool.noConfusion (show (true : Bool) = false from e)); conv => whnf) | (refine And.intro (by first | exact True.intro | ((try dsimp only [CDiv, CMul, CDivN, CPow] at *) <;> omega) | ((try dsimp only [CDiv, CMul, CDivN, CPow] at *) <;> (simp only [List.length_map, List.length_append, List.length_cons, List.length_nil, List.length_reverse, strApp_len, len1, szl] at *) <;> omega) | rfl | exact of_decide_eq_true rfl) ?_; conv => whnf))
      refine ⟨sort, rank, ks, row, rfl, rfl, ndK, neK, nr, by omega, lr, ?_⟩
      (try conv => whnf); repeat (first | (refine And.intro (fun e => Bool.noConfusion (show (false : Bool) = true from e)) (fun _ => ?_); conv => whnf) | (refine And.intro (fun _ => ?_) (fun e => Bool.noConfusion (show (true : Bool) = false from e)); conv => whnf) | (refine And.intro (by first | exact True.intro | ((try dsimp only [CDiv, CMul, CDivN, CPow] at *) <;> omega) | ((try dsimp only [CDiv, CMul, CDivN, CPow] at *) <;> (simp only [List.length_map, List.length_append, List.length_cons, List.length_nil, List.length_reverse, strApp_len, len1, szl] at *) <;> omega) | rfl | exact of_decide_eq_true rfl) ?_; conv => whnf))
      refine bindO_of (eqO_e row row (by decide)) ?_
      refine no_of (by simp) ?_
      (try conv => whnf); repeat (first | (refine And.intro (fun e => Bool.noConfusion (show (false : Bool) = true from e)) (fun _ => ?_); conv => whnf) | (refine And.intro (fun _ => ?_) (fun e => Bool.noConfusion (show (true : Bool) = false from e)); conv => whnf) | (refine And.intro (by first | exact True.intro | ((try dsimp only [CDiv, CMul, CDivN, CPow] at *) <;> omega) | ((try dsimp only [CDiv, CMul, CDivN, CPow] at *) <;> (simp only [List.length_map, List.length_append, List.length_cons, List.length_nil, List.length_reverse, strApp_len, len1, szl] at *) <;> omega) | rfl | exact of_decide_eq_true rfl) ?_; conv => whnf))
      rw [forQ_eq, forR_cons]
      refine ⟨trivial, ?_⟩
      (try conv => whnf); repeat (first | (refine And.intro (fun e => Bool.noConfusion (show (false : Bool) = true from e)) (fun _ => ?_); conv => whnf) | (refine And.intro (fun _ => ?_) (fun e => Bool.noConfusion (show (true : Bool) = false from e)); conv => whnf) | (refine And.intro (by first | exact True.intro | ((try dsimp only [CDiv, CMul, CDivN, CPow] at *) <;> omega) | ((try dsimp only [CDiv, CMul, CDivN, CPow] at *) <;> (simp only [List.length_map, List.length_append, List.length_cons, List.length_nil, List.length_reverse, strApp_len, len1, szl] at *) <;> omega) | rfl | exact of_decide_eq_true rfl) ?_; conv => whnf))
      refine bindO_of (prD_refl _) ?_
      (try conv => whnf); repeat (first | (refine And.intro (fun e => Bool.noConfusion (show (false : Bool) = true from e)) (fun _ => ?_); conv => whnf) | (refine And.intro (fun _ => ?_) (fun e => Bool.noConfusion (show (true : Bool) = false from e)); conv => whnf) | (refine And.intro (by first | exact True.intro | ((try dsimp only [CDiv, CMul, CDivN, CPow] at *) <;> omega) | ((try dsimp only [CDiv, CMul, CDivN, CPow] at *) <;> (simp only [List.length_map, List.length_append, List.length_cons, List.length_nil, List.length_reverse, strApp_len, len1, szl] at *) <;> omega) | rfl | exact of_decide_eq_true rfl) ?_; conv => whnf))
      exact hk _ ⟨_, _, _, _, rfl⟩
  have J10 : ∀ (rank : Int) (sort : Str) (row : List Str) (x8 x9 x10 x11 x12 x13 x14 : Sl), N[many]? = some sort → row.length ≤ 100 → ("end" : Str) ∉ row → fb_law_10 (endsB [] Q Qe) (S rank sort (.own (.lst (row.map .str))) x8 x9 x10 x11 x12 x13 x14) := by
    intro rank sort row x8 x9 x10 x11 x12 x13 x14 hs lr nr
    unfold fb_law_10
    (try conv => whnf); repeat (first | (refine And.intro (fun e => Bool.noConfusion (show (false : Bool) = true from e)) (fun _ => ?_); conv => whnf) | (refine And.intro (fun _ => ?_) (fun e => Bool.noConfusion (show (true : Bool) = false from e)); conv => whnf) | (refine And.intro (by first | exact True.intro | ((try dsimp only [CDiv, CMul, CDivN, CPow] at *) <;> omega) | ((try dsimp only [CDiv, CMul, CDivN, CPow] at *) <;> (simp only [List.length_map, List.length_append, List.length_cons, List.length_nil, List.length_reverse, strApp_len, len1, szl] at *) <;> omega) | rfl | exact of_decide_eq_true rfl) ?_; conv => whnf))
    rw [show (60 : Int) = ((60 : Nat) : Int) from rfl, cutD_map, cut_take]
    (try conv => whnf); repeat (first | (refine And.intro (fun e => Bool.noConfusion (show (false : Bool) = true from e)) (fun _ => ?_); conv => whnf) | (refine And.intro (fun _ => ?_) (fun e => Bool.noConfusion (show (true : Bool) = false from e)); conv => whnf) | (refine And.intro (by first | exact True.intro | ((try dsimp only [CDiv, CMul, CDivN, CPow] at *) <;> omega) | ((try dsimp only [CDiv, CMul, CDivN, CPow] at *) <;> (simp only [List.length_map, List.length_append, List.length_cons, List.length_nil, List.length_reverse, strApp_len, len1, szl] at *) <;> omega) | rfl | exact of_decide_eq_true rfl) ?_; conv => whnf))
    unfold fb_law_11
    (try conv => whnf); repeat (first | (refine And.intro (fun e => Bool.noConfusion (show (false : Bool) = true from e)) (fun _ => ?_); conv => whnf) | (refine And.intro (fun _ => ?_) (fun e => Bool.noConfusion (show (true : Bool) = false from e)); conv => whnf) | (refine And.intro (by first | exact True.intro | ((try dsimp only [CDiv, CMul, CDivN, CPow] at *) <;> omega) | ((try dsimp only [CDiv, CMul, CDivN, CPow] at *) <;> (simp only [List.length_map, List.length_append, List.length_cons, List.length_nil, List.length_reverse, strApp_len, len1, szl] at *) <;> omega) | rfl | exact of_decide_eq_true rfl) ?_; conv => whnf))
    refine ⟨ks, row.take 60, rfl, ?_⟩
    (try conv => whnf); repeat (first | (refine And.intro (fun e => Bool.noConfusion (show (false : Bool) = true from e)) (fun _ => ?_); conv => whnf) | (refine And.intro (fun _ => ?_) (fun e => Bool.noConfusion (show (true : Bool) = false from e)); conv => whnf) | (refine And.intro (by first | exact True.intro | ((try dsimp only [CDiv, CMul, CDivN, CPow] at *) <;> omega) | ((try dsimp only [CDiv, CMul, CDivN, CPow] at *) <;> (simp only [List.length_map, List.length_append, List.length_cons, List.length_nil, List.length_reverse, strApp_len, len1, szl] at *) <;> omega) | rfl | exact of_decide_eq_true rfl) ?_; conv => whnf))
    exact J12 rank sort (row.take 60) x8 x9 x11 x12 x13 x14 hs (by rw [List.length_take]; omega) fun z => nr (List.mem_of_mem_take z)
  have J9 : ∀ (rank : Int) (sort : Str) (row : List Str) (c : Int) (x9 x10 x11 x12 x13 x14 : Sl), N[many]? = some sort → row.length ≤ 100 → ("end" : Str) ∉ row → fb_law_9 (endsB [] Q Qe) (S rank sort (.own (.lst (row.map .str))) (.val (.int c)) x9 x10 x11 x12 x13 x14) := by
    intro rank sort row c x9 x10 x11 x12 x13 x14 hs lr nr
    unfold fb_law_9
    (try conv => whnf); repeat (first | (refine And.intro (fun e => Bool.noConfusion (show (false : Bool) = true from e)) (fun _ => ?_); conv => whnf) | (refine And.intro (fun _ => ?_) (fun e => Bool.noConfusion (show (true : Bool) = false from e)); conv => whnf) | (refine And.intro (by first | exact True.intro | ((try dsimp only [CDiv, CMul, CDivN, CPow] at *) <;> omega) | ((try dsimp only [CDiv, CMul, CDivN, CPow] at *) <;> (simp only [List.length_map, List.length_append, List.length_cons, List.length_nil, List.length_reverse, strApp_len, len1, szl] at *) <;> omega) | rfl | exact of_decide_eq_true rfl) ?_; conv => whnf))
    by_cases cc : c % 4 = 2
    · have j := J10 rank sort row.reverse (.val (.int c)) x9 x10 x11 x12 x13 x14 hs (by rw [List.length_reverse]; exact lr) (by rw [List.mem_reverse]; exact nr)
      rw [List.map_reverse] at j
      refine yes_of (by simp [cc]) ?_
      (try conv => whnf); repeat (first | (refine And.intro (fun e => Bool.noConfusion (show (false : Bool) = true from e)) (fun _ => ?_); conv => whnf) | (refine And.intro (fun _ => ?_) (fun e => Bool.noConfusion (show (true : Bool) = false from e)); conv => whnf) | (refine And.intro (by first | exact True.intro | ((try dsimp only [CDiv, CMul, CDivN, CPow] at *) <;> omega) | ((try dsimp only [CDiv, CMul, CDivN, CPow] at *) <;> (simp only [List.length_map, List.length_append, List.length_cons, List.length_nil, List.length_reverse, strApp_len, len1, szl] at *) <;> omega) | rfl | exact of_decide_eq_true rfl) ?_; conv => whnf))
      exact j
    · refine no_of (by simpa using cc) ?_
      (try conv => whnf); repeat (first | (refine And.intro (fun e => Bool.noConfusion (show (false : Bool) = true from e)) (fun _ => ?_); conv => whnf) | (refine And.intro (fun _ => ?_) (fun e => Bool.noConfusion (show (true : Bool) = false from e)); conv => whnf) | (refine And.intro (by first | exact True.intro | ((try dsimp only [CDiv, CMul, CDivN, CPow] at *) <;> omega) | ((try dsimp only [CDiv, CMul, CDivN, CPow] at *) <;> (simp only [List.length_map, List.length_append, List.length_cons, List.length_nil, List.length_reverse, strApp_len, len1, szl] at *) <;> omega) | rfl | exact of_decide_eq_true rfl) ?_; conv => whnf))
      exact J10 rank sort row _ x9 x10 x11 x12 x13 x14 hs lr nr
  have J8 : ∀ (rank : Int) (sort : Str) (row : List Str) (c : Int) (x9 x10 x11 x12 x13 x14 : Sl), N[many]? = some sort → row.length ≤ 100 → ("end" : Str) ∉ row → fb_law_8 (endsB [] Q Qe) (S rank sort (.own (.lst (row.map .str))) (.val (.int c)) x9 x10 x11 x12 x13 x14) := by
    intro rank sort row c x9 x10 x11 x12 x13 x14 hs lr nr
    unfold fb_law_8
    (try conv => whnf); repeat (first | (refine And.intro (fun e => Bool.noConfusion (show (false : Bool) = true from e)) (fun _ => ?_); conv => whnf) | (refine And.intro (fun _ => ?_) (fun e => Bool.noConfusion (show (true : Bool) = false from e)); conv => whnf) | (refine And.intro (by first | exact True.intro | ((try dsimp only [CDiv, CMul, CDivN, CPow] at *) <;> omega) | ((try dsimp only [CDiv, CMul, CDivN, CPow] at *) <;> (simp only [List.length_map, List.length_append, List.length_cons, List.length_nil, List.length_reverse, strApp_len, len1, szl] at *) <;> omega) | rfl | exact of_decide_eq_true rfl) ?_; conv => whnf))
    by_cases cc : c % 4 = 1
    · refine yes_of (by simp [cc]) ?_
      (try conv => whnf); repeat (first | (refine And.intro (fun e => Bool.noConfusion (show (false : Bool) = true from e)) (fun _ => ?_); conv => whnf) | (refine And.intro (fun _ => ?_) (fun e => Bool.noConfusion (show (true : Bool) = false from e)); conv => whnf) | (refine And.intro (by first | exact True.intro | ((try dsimp only [CDiv, CMul, CDivN, CPow] at *) <;> omega) | ((try dsimp only [CDiv, CMul, CDivN, CPow] at *) <;> (simp only [List.length_map, List.length_append, List.length_cons, List.length_nil, List.length_reverse, strApp_len, len1, szl] at *) <;> omega) | rfl | exact of_decide_eq_true rfl) ?_; conv => whnf))
      refine ⟨c / 4, ks, os, rfl, ?_, ?_, by omega, by omega, fun w1 hw1 => ?_⟩
      · exact fun z => by rw [z] at lK; simp at lK; omega
      · exact fun z => by rw [z] at lO; simp at lO
      obtain ⟨n1, hn1, hn2⟩ : ∃ n1 : Nat, (1 : Int) + c / 8 % 9 = n1 ∧ n1 ≤ 9 := ⟨(1 + c / 8 % 9).toNat, by omega, by omega⟩
      obtain ⟨n2, hn3, hn4⟩ : ∃ n2 : Nat, (38 : Int) + (ns.length : Int) % 6 - (n1 : Int) = n2 ∧ n2 ≤ 43 := ⟨(38 + (ns.length : Int) % 6 - n1).toNat, by omega, by omega⟩
      (try conv => whnf); repeat (first | (refine And.intro (fun e => Bool.noConfusion (show (false : Bool) = true from e)) (fun _ => ?_); conv => whnf) | (refine And.intro (fun _ => ?_) (fun e => Bool.noConfusion (show (true : Bool) = false from e)); conv => whnf) | (refine And.intro (by first | exact True.intro | ((try dsimp only [CDiv, CMul, CDivN, CPow] at *) <;> omega) | ((try dsimp only [CDiv, CMul, CDivN, CPow] at *) <;> (simp only [List.length_map, List.length_append, List.length_cons, List.length_nil, List.length_reverse, strApp_len, len1, szl] at *) <;> omega) | rfl | exact of_decide_eq_true rfl) ?_; conv => whnf))
      rw [show (1 + (fun i j : Int => i % j) ((fun i j : Int => i / j) c 8) 9) = (n1 : Int) from hn1, show ((n1 : Int)).toNat = n1 from rfl]
      rw [rep_map _ _ w1 rfl]
      refine ⟨c / 72, ks, os, rfl, ?_, ?_, by omega, by omega, fun w2 hw2 => ?_⟩
      · exact fun z => by rw [z] at lK; simp at lK; omega
      · exact fun z => by rw [z] at lO; simp at lO
      (try conv => whnf); repeat (first | (refine And.intro (fun e => Bool.noConfusion (show (false : Bool) = true from e)) (fun _ => ?_); conv => whnf) | (refine And.intro (fun _ => ?_) (fun e => Bool.noConfusion (show (true : Bool) = false from e)); conv => whnf) | (refine And.intro (by first | exact True.intro | ((try dsimp only [CDiv, CMul, CDivN, CPow] at *) <;> omega) | ((try dsimp only [CDiv, CMul, CDivN, CPow] at *) <;> (simp only [List.length_map, List.length_append, List.length_cons, List.length_nil, List.length_reverse, strApp_len, len1, szl] at *) <;> omega) | rfl | exact of_decide_eq_true rfl) ?_; conv => whnf))
      have l1 : ((List.replicate n1 w1).map D.str).length = n1 := by rw [List.length_map, List.length_replicate]
      rw [l1]
      rw [show (38 + (fun i j : Int => i % j) (((ns.map D.int).length : Nat) : Int) 6 - (n1 : Int)) = (n2 : Int) from by rw [List.length_map]; exact hn3, show ((n2 : Int)).toNat = n2 from rfl]
      rw [rep_map _ _ w2 rfl]
      have l2 : ((List.replicate n2 w2).map D.str).length = n2 := by rw [List.length_map, List.length_replicate]
      refine ⟨by omega, by omega, by rw [List.length_singleton, szl]; omega, ?_⟩
      (try conv => whnf); repeat (first | (refine And.intro (fun e => Bool.noConfusion (show (false : Bool) = true from e)) (fun _ => ?_); conv => whnf) | (refine And.intro (fun _ => ?_) (fun e => Bool.noConfusion (show (true : Bool) = false from e)); conv => whnf) | (refine And.intro (by first | exact True.intro | ((try dsimp only [CDiv, CMul, CDivN, CPow] at *) <;> omega) | ((try dsimp only [CDiv, CMul, CDivN, CPow] at *) <;> (simp only [List.length_map, List.length_append, List.length_cons, List.length_nil, List.length_reverse, strApp_len, len1, szl] at *) <;> omega) | rfl | exact of_decide_eq_true rfl) ?_; conv => whnf))
      have j := J9 rank sort (List.replicate n1 w1 ++ List.replicate n2 w2) c (.own (.lst ((List.replicate n1 w1).map D.str))) x10 x11 x12 x13 x14 hs (by rw [List.length_append, List.length_replicate, List.length_replicate]; omega) fun z => by
        rcases List.mem_append.mp z with y | y
        · have e := List.eq_of_mem_replicate y
          rcases hw1 with q | q
          · exact neK (by rw [e]; exact q)
          · exact neO (by rw [e]; exact q)
        · have e := List.eq_of_mem_replicate y
          rcases hw2 with q | q
          · exact neK (by rw [e]; exact q)
          · exact neO (by rw [e]; exact q)
      rw [List.map_append] at j
      exact j
    · refine no_of (by simpa using cc) ?_
      (try conv => whnf); repeat (first | (refine And.intro (fun e => Bool.noConfusion (show (false : Bool) = true from e)) (fun _ => ?_); conv => whnf) | (refine And.intro (fun _ => ?_) (fun e => Bool.noConfusion (show (true : Bool) = false from e)); conv => whnf) | (refine And.intro (by first | exact True.intro | ((try dsimp only [CDiv, CMul, CDivN, CPow] at *) <;> omega) | ((try dsimp only [CDiv, CMul, CDivN, CPow] at *) <;> (simp only [List.length_map, List.length_append, List.length_cons, List.length_nil, List.length_reverse, strApp_len, len1, szl] at *) <;> omega) | rfl | exact of_decide_eq_true rfl) ?_; conv => whnf))
      exact J9 rank sort row _ x9 x10 x11 x12 x13 x14 hs lr nr
  (try conv => whnf); repeat (first | (refine And.intro (fun e => Bool.noConfusion (show (false : Bool) = true from e)) (fun _ => ?_); conv => whnf) | (refine And.intro (fun _ => ?_) (fun e => Bool.noConfusion (show (true : Bool) = false from e)); conv => whnf) | (refine And.intro (by first | exact True.intro | ((try dsimp only [CDiv, CMul, CDivN, CPow] at *) <;> omega) | ((try dsimp only [CDiv, CMul, CDivN, CPow] at *) <;> (simp only [List.length_map, List.length_append, List.length_cons, List.length_nil, List.length_reverse, strApp_len, len1, szl] at *) <;> omega) | rfl | exact of_decide_eq_true rfl) ?_; conv => whnf))
  rw [show (1 + (fun i j : Int => i % j) (ns.getD 0 0) 24) = (many : Int) from hmany]
  rw [cutD_map, cutD_map, cut_take, cut_drop, hK]
  (try conv => whnf); repeat (first | (refine And.intro (fun e => Bool.noConfusion (show (false : Bool) = true from e)) (fun _ => ?_); conv => whnf) | (refine And.intro (fun _ => ?_) (fun e => Bool.noConfusion (show (true : Bool) = false from e)); conv => whnf) | (refine And.intro (by first | exact True.intro | ((try dsimp only [CDiv, CMul, CDivN, CPow] at *) <;> omega) | ((try dsimp only [CDiv, CMul, CDivN, CPow] at *) <;> (simp only [List.length_map, List.length_append, List.length_cons, List.length_nil, List.length_reverse, strApp_len, len1, szl] at *) <;> omega) | rfl | exact of_decide_eq_true rfl) ?_; conv => whnf))
  rw [eO _ rfl]
  refine ⟨ns, 3, rfl, ?_⟩
  (try conv => whnf); repeat (first | (refine And.intro (fun e => Bool.noConfusion (show (false : Bool) = true from e)) (fun _ => ?_); conv => whnf) | (refine And.intro (fun _ => ?_) (fun e => Bool.noConfusion (show (true : Bool) = false from e)); conv => whnf) | (refine And.intro (by first | exact True.intro | ((try dsimp only [CDiv, CMul, CDivN, CPow] at *) <;> omega) | ((try dsimp only [CDiv, CMul, CDivN, CPow] at *) <;> (simp only [List.length_map, List.length_append, List.length_cons, List.length_nil, List.length_reverse, strApp_len, len1, szl] at *) <;> omega) | rfl | exact of_decide_eq_true rfl) ?_; conv => whnf))
  refine bindO_atk D.str (n := many) rfl (List.getElem?_eq_getElem (show many < N.length by omega)) ?_
  (try conv => whnf); repeat (first | (refine And.intro (fun e => Bool.noConfusion (show (false : Bool) = true from e)) (fun _ => ?_); conv => whnf) | (refine And.intro (fun _ => ?_) (fun e => Bool.noConfusion (show (true : Bool) = false from e)); conv => whnf) | (refine And.intro (by first | exact True.intro | ((try dsimp only [CDiv, CMul, CDivN, CPow] at *) <;> omega) | ((try dsimp only [CDiv, CMul, CDivN, CPow] at *) <;> (simp only [List.length_map, List.length_append, List.length_cons, List.length_nil, List.length_reverse, strApp_len, len1, szl] at *) <;> omega) | rfl | exact of_decide_eq_true rfl) ?_; conv => whnf))
  refine ⟨N[many]'(by omega), _, ks, rfl, .inl rfl, ndK, by omega, ?_⟩
  (try conv => whnf); repeat (first | (refine And.intro (fun e => Bool.noConfusion (show (false : Bool) = true from e)) (fun _ => ?_); conv => whnf) | (refine And.intro (fun _ => ?_) (fun e => Bool.noConfusion (show (true : Bool) = false from e)); conv => whnf) | (refine And.intro (by first | exact True.intro | ((try dsimp only [CDiv, CMul, CDivN, CPow] at *) <;> omega) | ((try dsimp only [CDiv, CMul, CDivN, CPow] at *) <;> (simp only [List.length_map, List.length_append, List.length_cons, List.length_nil, List.length_reverse, strApp_len, len1, szl] at *) <;> omega) | rfl | exact of_decide_eq_true rfl) ?_; conv => whnf))
  rw [show (5 : Int) = ((5 : Nat) : Int) from rfl, cutD_map, cut_drop]
  have l5 : (ns.drop 5).length ≤ 63 := by rw [List.length_drop]; omega
  refine lcR_map (β := Str) D.int D.str (fun rest acc m => acc.length + rest.length ≤ 63 ∧ ("end" : Str) ∉ acc ∧ m = S (ns.getD 3 0 % 100) (N[many]'(by omega)) .no .no .no .no .no .no .no .no) ?_ ?_ (ns.drop 5) [] _ ⟨by rw [List.length_nil]; omega, (by intro z; cases z), rfl⟩
  · rintro acc m ⟨hl, hne, rfl⟩
    refine ⟨trivial, ?_⟩
    (try conv => whnf); repeat (first | (refine And.intro (fun e => Bool.noConfusion (show (false : Bool) = true from e)) (fun _ => ?_); conv => whnf) | (refine And.intro (fun _ => ?_) (fun e => Bool.noConfusion (show (true : Bool) = false from e)); conv => whnf) | (refine And.intro (by first | exact True.intro | ((try dsimp only [CDiv, CMul, CDivN, CPow] at *) <;> omega) | ((try dsimp only [CDiv, CMul, CDivN, CPow] at *) <;> (simp only [List.length_map, List.length_append, List.length_cons, List.length_nil, List.length_reverse, strApp_len, len1, szl] at *) <;> omega) | rfl | exact of_decide_eq_true rfl) ?_; conv => whnf))
    refine ⟨ns, 4, rfl, ?_⟩
    (try conv => whnf); repeat (first | (refine And.intro (fun e => Bool.noConfusion (show (false : Bool) = true from e)) (fun _ => ?_); conv => whnf) | (refine And.intro (fun _ => ?_) (fun e => Bool.noConfusion (show (true : Bool) = false from e)); conv => whnf) | (refine And.intro (by first | exact True.intro | ((try dsimp only [CDiv, CMul, CDivN, CPow] at *) <;> omega) | ((try dsimp only [CDiv, CMul, CDivN, CPow] at *) <;> (simp only [List.length_map, List.length_append, List.length_cons, List.length_nil, List.length_reverse, strApp_len, len1, szl] at *) <;> omega) | rfl | exact of_decide_eq_true rfl) ?_; conv => whnf))
    exact J8 _ _ acc _ _ _ _ _ _ _ (List.getElem?_eq_getElem (by omega)) (by omega) hne
  · rintro c rest acc m ⟨hl, hne, rfl⟩
    rw [List.length_cons] at hl
    refine ⟨trivial, fun k hk => ?_⟩
    (try conv => whnf); repeat (first | (refine And.intro (fun e => Bool.noConfusion (show (false : Bool) = true from e)) (fun _ => ?_); conv => whnf) | (refine And.intro (fun _ => ?_) (fun e => Bool.noConfusion (show (true : Bool) = false from e)); conv => whnf) | (refine And.intro (by first | exact True.intro | ((try dsimp only [CDiv, CMul, CDivN, CPow] at *) <;> omega) | ((try dsimp only [CDiv, CMul, CDivN, CPow] at *) <;> (simp only [List.length_map, List.length_append, List.length_cons, List.length_nil, List.length_reverse, strApp_len, len1, szl] at *) <;> omega) | rfl | exact of_decide_eq_true rfl) ?_; conv => whnf))
    refine ⟨c, ks, os, rfl, ?_, ?_, by omega, by omega, fun w hw => ?_⟩
    · exact fun z => by rw [z] at lK; simp at lK; omega
    · exact fun z => by rw [z] at lO; simp at lO
    (try conv => whnf); repeat (first | (refine And.intro (fun e => Bool.noConfusion (show (false : Bool) = true from e)) (fun _ => ?_); conv => whnf) | (refine And.intro (fun _ => ?_) (fun e => Bool.noConfusion (show (true : Bool) = false from e)); conv => whnf) | (refine And.intro (by first | exact True.intro | ((try dsimp only [CDiv, CMul, CDivN, CPow] at *) <;> omega) | ((try dsimp only [CDiv, CMul, CDivN, CPow] at *) <;> (simp only [List.length_map, List.length_append, List.length_cons, List.length_nil, List.length_reverse, strApp_len, len1, szl] at *) <;> omega) | rfl | exact of_decide_eq_true rfl) ?_; conv => whnf))
    have hk := hk (acc ++ [w]) _ ⟨by rw [List.length_append, List.length_singleton]; omega, fun z => by
      rcases List.mem_append.mp z with y | y
      · exact hne y
      · rw [List.mem_singleton] at y
        rcases hw with q | q
        · exact neK (by rw [y]; exact q)
        · exact neO (by rw [y]; exact q), rfl⟩
    rw [List.map_append] at hk
    exact hk

end LW
set_option maxHeartbeats 8000000
namespace LW
open PySem PySem.Spec PyProof.Rows L2 VL
def topS (i : Nat) : Stmt := PySem.Challenge.pw_regrowth_k50_single_words_aside.main.body.getD i (.Pass ⟨0, 0, 0, 0⟩)
theorem bt_bool : bootBuiltins "bool" = some (.type "bool") := by decide +kernel
theorem bt_int : bootBuiltins "int" = some (.type "int") := by decide +kernel
theorem bt_isinstance : bootBuiltins "isinstance" = some (.builtin "isinstance") := by decide +kernel
theorem bt_len : bootBuiltins "len" = some (.builtin "len") := by decide +kernel
theorem bt_list : bootBuiltins "list" = some (.type "list") := by decide +kernel
theorem bt_min : bootBuiltins "min" = some (.builtin "min") := by decide +kernel
theorem bt_tuple : bootBuiltins "tuple" = some (.type "tuple") := by decide +kernel
abbrev s__law_cell_at : Stmt := topS 19
abbrev s__law_due : Stmt := topS 23
abbrev s__law_kind : Stmt := topS 22
abbrev s__law_names : Stmt := topS 20
abbrev s__law_tables : Stmt := topS 21
abbrev s_lay : Stmt := topS 5
abbrev s_put_together : Stmt := topS 6
abbrev s_deed_behind : Stmt := topS 7
abbrev s_kind_at : Stmt := topS 4
abbrev s_take : Stmt := topS 8
abbrev s_read_row : Stmt := topS 9
abbrev s_fault_of : Stmt := topS 12
abbrev s_deed_for : Stmt := topS 13
abbrev s_reads_on : Stmt := topS 15
abbrev s_stacks_ahead : Stmt := topS 14
abbrev s_least_stretch : Stmt := topS 16
abbrev s_aside_of : Stmt := topS 17
abbrev s_law : Stmt := topS 24
abbrev s_ini_Stuck : Stmt := L2.inClass (topS 2) 0
theorem sc_ini_Stuck : FnScope ["self", "place"] ["self", "place"] (defScope s_ini_Stuck) := ⟨rfl, rfl, rfl, by decide +kernel, rfl, by decide +kernel, by decide +kernel⟩
theorem vis_ini_Stuck : ∀ (i : Nat) (x : Str), (["self", "place"] : List Str)[i]? = some x → Vis (defScope s_ini_Stuck) x := fun i x h => (List.mem_of_getElem? h : x ∈ (["self", "place"] : List Str)) |> fun m => (show ∀ x ∈ (["self", "place"] : List Str), Vis (defScope s_ini_Stuck) x by unfold Vis; decide +kernel) x m
def nm_fault_of : Nat → Nat → Str := fun l c => "fault_of.<locals>.ask"
def cls_ns : List Str := ["ValueError", "GrowthError", "Stuck"]
def lamT : Str → Nat → Option (Arguments × Expr × Scope) := fun q n => none
abbrev s_ask : Stmt := (defBody s_fault_of).getD 0 (.Pass ⟨0, 0, 0, 0⟩)
theorem fr_ask : frOf s_ask = (["kinds"] : List Str) := by decide +kernel
theorem sc_ask : NdefX.NScope ["place", "kinds"] ["place"] (frOf s_ask) (C8.fnScope s_ask) := by rw [fr_ask]; exact NdefX.nscope_by (by decide +kernel)
theorem sc__law_cell_at : FnScope ["_law_script", "_law_k"] ["_law_script", "_law_k"] (defScope s__law_cell_at) := ⟨rfl, rfl, rfl, by decide +kernel, rfl, by decide +kernel, by decide +kernel⟩
theorem sc__law_due : FnScope ["_law_row", "_law_kinds", "_law_many"] ["_law_row", "_law_kinds"] (defScope s__law_due) := ⟨rfl, rfl, rfl, by decide +kernel, rfl, by decide +kernel, by decide +kernel⟩
theorem sc__law_kind : FnScope ["_law_cell", "_law_kinds", "_law_others"] ["_law_cell", "_law_kinds", "_law_others"] (defScope s__law_kind) := ⟨rfl, rfl, rfl, by decide +kernel, rfl, by decide +kernel, by decide +kernel⟩
theorem sc__law_names : FnScope ["_law_base", "_law_place", "_law_many", "_law_some", "_law_long", "_law_signs", "_law_at", "_law_names_here", "_law_k", "_law_name", "_law_j"] ["_law_base", "_law_place", "_law_many"] (defScope s__law_names) := ⟨rfl, rfl, rfl, by decide +kernel, rfl, by decide +kernel, by decide +kernel⟩
theorem sc__law_tables : FnScope ["_law_sort", "_law_rank", "_law_kinds", "_law_plain", "_law_goes", "_law_acts", "_law_k"] ["_law_sort", "_law_rank", "_law_kinds"] (defScope s__law_tables) := ⟨rfl, rfl, rfl, by decide +kernel, rfl, by decide +kernel, by decide +kernel⟩
theorem sc_lay : FnScope ["tables", "states", "spans", "symbol", "words"] ["tables", "states", "spans", "symbol", "words"] (defScope s_lay) := ⟨rfl, rfl, rfl, by decide +kernel, rfl, by decide +kernel, by decide +kernel⟩
theorem sc_put_together : FnScope ["tables", "states", "spans", "way", "number", "symbol", "parts", "rule", "words", "part"] ["tables", "states", "spans", "way", "number"] (defScope s_put_together) := ⟨rfl, rfl, rfl, by decide +kernel, rfl, by decide +kernel, by decide +kernel⟩
theorem sc_deed_behind : FnScope ["tables", "states", "spans", "way", "kind", "deed"] ["tables", "states", "spans", "way", "kind"] (defScope s_deed_behind) := ⟨rfl, rfl, rfl, by decide +kernel, rfl, by decide +kernel, by decide +kernel⟩
theorem sc_kind_at : FnScope ["ask", "many", "at"] ["ask", "many", "at"] (defScope s_kind_at) := ⟨rfl, rfl, rfl, by decide +kernel, rfl, by decide +kernel, by decide +kernel⟩
theorem sc_take : FnScope ["tables", "states", "spans", "way", "kind"] ["tables", "states", "spans", "way", "kind"] (defScope s_take) := ⟨rfl, rfl, rfl, by decide +kernel, rfl, by decide +kernel, by decide +kernel⟩
theorem sc_read_row : FnScope ["tables", "ask", "many", "states", "spans", "way", "at", "kind", "deed"] ["tables", "ask", "many"] (defScope s_read_row) := ⟨rfl, rfl, rfl, by decide +kernel, rfl, by decide +kernel, by decide +kernel⟩
theorem sc_fault_of : FnScope ["tables", "kinds", "ask", "e"] ["tables", "kinds"] (defScope s_fault_of) := ⟨rfl, rfl, rfl, by decide +kernel, rfl, by decide +kernel, by decide +kernel⟩
theorem sc_deed_for : FnScope ["tables", "states", "kind", "deed", "symbol", "parts", "rule", "part"] ["tables", "states", "kind"] (defScope s_deed_for) := ⟨rfl, rfl, rfl, by decide +kernel, rfl, by decide +kernel, by decide +kernel⟩
theorem sc_reads_on : FnScope ["tables", "stack", "kinds", "states", "kind", "deed"] ["tables", "stack", "kinds"] (defScope s_reads_on) := ⟨rfl, rfl, rfl, by decide +kernel, rfl, by decide +kernel, by decide +kernel⟩
theorem sc_stacks_ahead : FnScope ["tables", "kinds", "fault", "states", "stacks", "kind", "deed"] ["tables", "kinds", "fault"] (defScope s_stacks_ahead) := ⟨rfl, rfl, rfl, by decide +kernel, rfl, by decide +kernel, by decide +kernel⟩
theorem sc_least_stretch : FnScope ["tables", "kinds", "fault", "many", "stacks", "size", "left"] ["tables", "kinds", "fault"] (defScope s_least_stretch) := ⟨rfl, rfl, rfl, by decide +kernel, rfl, by decide +kernel, by decide +kernel⟩
theorem sc_aside_of : FnScope ["tables", "kinds", "fault"] ["tables", "kinds"] (defScope s_aside_of) := ⟨rfl, rfl, rfl, by decide +kernel, rfl, by decide +kernel, by decide +kernel⟩
theorem sc_law : FnScope ["_law_script", "_law_many", "_law_names_here", "_law_kinds", "_law_others", "_law_rank", "_law_tables_here", "_law_row", "_law_cell", "_law_some", "_law_due_here", "_law_turn", "_law_handed", "_law_found", "_law_number"] ["_law_script"] (defScope s_law) := ⟨rfl, rfl, rfl, by decide +kernel, rfl, by decide +kernel, by decide +kernel⟩
section
variable [VL.Tabs] {P : Program} {w : World} {K : PySem.W.Frag} {mg : Str → Option Value} {base : Heap}
structure T_ask [VL.Tabs] (P : Program) (w : World) (K : PySem.W.Frag) (mg : Str → Option Value) (base : Heap) : Type where
  dummy : Unit
theorem nok_ask (T : T_ask P w K mg base) (f : Addr) (name qual : Str) (cl : List (Str × Addr)) (c : Addr) : NdefX.NOk P w K mg base (L2.CX P w) 1 f (NdefX.NF.of s_ask name qual cl c) ["place"] (frOf s_ask) (spN K 1 sp_ask) :=
  (nok_ok (fb := fb_ask) (N := ["place", "kinds"]) (F := NdefX.NF.of s_ask name qual cl c) sc_ask (fun _ _ _ us hl => match us, hl with | [_], _ => rfl) fun A outer s H E hr =>
    vss_one (vs_ret (ve_ix (ve_var 1) (ve_var 0)))).imp fun ws vs H Q E h => spN_imp bd_ask h
structure T__law_cell_at [VL.Tabs] (P : Program) (w : World) (K : PySem.W.Frag) (mg : Str → Option Value) (base : Heap) where
  n_len : mg "len" = none
theorem ok__law_cell_at {f : Addr} {fd : FuncData} (F : L2.Fun K "_law_cell_at" "_law_cell_at" s__law_cell_at f fd) (T : T__law_cell_at P w K mg base) : FnOk P w K mg base (L2.CX P w) 1 f fd ["_law_script", "_law_k"] (spV K 2 sp__law_cell_at) :=
  fn_nice (fn_ok (fb := fb__law_cell_at) F sc__law_cell_at fun cdv A outer s H E hr =>
    vss_cons (vs_if (vt_cmp op_lt ltV (ve_var 1) (ve_cb1 call_lenAll lenV rfl T.n_len bt_len (ve_var 0))) (vss_one (vs_ret (ve_ix (ve_var 0) (ve_var 1)))) (vss_nil))
    (vss_one (vs_ret (ve_int)))) bd__law_cell_at
structure T__law_due [VL.Tabs] (P : Program) (w : World) (K : PySem.W.Frag) (mg : Str → Option Value) (base : Heap) where
  n_len : mg "len" = none
theorem ok__law_due {f : Addr} {fd : FuncData} (F : L2.Fun K "_law_due" "_law_due" s__law_due f fd) (T : T__law_due P w K mg base) : FnOk P w K mg base (L2.CX P w) 1 f fd ["_law_row", "_law_kinds"] (spV K 2 sp__law_due) :=
  fn_nice (fn_ok (fb := fb__law_due) F sc__law_due fun cdv A outer s H E hr =>
    vss_cons (vs_asg 2 (ve_cb1 call_lenAll lenV rfl T.n_len bt_len (ve_var 0)) sc__law_due.nd)
    (vss_cons (vs_if (VW.vt (vw_or (vt_cmp (op_eqP hr.units) eqV' (ve_var 2) (ve_int)) (vw_or1 (VW.vt (vw_and (vt_cmp (op_eqP hr.units) eqV' (ve_var 2) (ve_int)) (vw_and1 (vt_cmp (op_inP hr.units) inV' (ve_ix (ve_var 0) (ve_int)) (ve_var 1)))))))) (vss_one (vs_ret (ve_tup (va_cons (ve_int) (va_cons (ve_int) (va_nil)))))) (vss_nil))
    (vss_cons (vs_if (VW.vt (vw_or (vt_cmp (op_eqP hr.units) eqV' (ve_var 2) (ve_int)) (vw_or1 (vt_cmp op_gt gtV (ve_var 2) (ve_int))))) (vss_one (vs_ret (ve_tup (va_cons (ve_int) (va_cons (ve_var 2) (va_nil)))))) (vss_nil))
    (vss_cons (vs_if (vt_cmp (op_inP hr.units) inV' (ve_ix (ve_var 0) (ve_un un_neg negV (ve_int))) (ve_var 1)) (vss_one (vs_ret (ve_tup (va_cons (ve_int) (va_cons (ve_op op_sub subV (ve_var 2) (ve_int)) (va_nil)))))) (vss_nil))
    (vss_cons (vs_if (vt_cmp (op_inP hr.units) inV' (ve_ix (ve_var 0) (ve_int)) (ve_var 1)) (vss_one (vs_ret (ve_tup (va_cons (ve_int) (va_cons (ve_var 2) (va_nil)))))) (vss_nil))
    (vss_one (vs_ret (ve_tup (va_cons (ve_int) (va_cons (ve_var 2) (va_nil))))))))))) bd__law_due
structure T__law_kind [VL.Tabs] (P : Program) (w : World) (K : PySem.W.Frag) (mg : Str → Option Value) (base : Heap) where
  n_len : mg "len" = none
theorem ok__law_kind {f : Addr} {fd : FuncData} (F : L2.Fun K "_law_kind" "_law_kind" s__law_kind f fd) (T : T__law_kind P w K mg base) : FnOk P w K mg base (L2.CX P w) 1 f fd ["_law_cell", "_law_kinds", "_law_others"] (spV K 3 sp__law_kind) :=
  fn_nice (fn_ok (fb := fb__law_kind) F sc__law_kind fun cdv A outer s H E hr =>
    vss_cons (vs_if (vt_cmp (op_eqP hr.units) eqV' (ve_op op_mod modV (ve_var 0) (ve_int)) (ve_int)) (vss_one (vs_ret (ve_ix (ve_var 2) (ve_op op_mod modV (ve_op op_fdiv divV (ve_var 0) (ve_int)) (ve_cb1 call_lenAll lenV rfl T.n_len bt_len (ve_var 2)))))) (vss_nil))
    (vss_one (vs_ret (ve_ix (ve_var 1) (ve_op op_mod modV (ve_op op_fdiv divV (ve_var 0) (ve_int)) (ve_cb1 call_lenAll lenV rfl T.n_len bt_len (ve_var 1))))))) bd__law_kind
structure T__law_names [VL.Tabs] (P : Program) (w : World) (K : PySem.W.Frag) (mg : Str → Option Value) (base : Heap) where
  n_int : mg "int" = none
  n_len : mg "len" = none
  n_range : mg "range" = none
theorem ok__law_names {f : Addr} {fd : FuncData} (F : L2.Fun K "_law_names" "_law_names" s__law_names f fd) (T : T__law_names P w K mg base) : FnOk P w K mg base (L2.CX P w) 1 f fd ["_law_base", "_law_place", "_law_many"] (spV K 3 sp__law_names) :=
  fn_nice (fn_ok (fb := fb__law_names) F sc__law_names fun cdv A outer s H E hr =>
    vss_cons (vs_asg 3 (ve_str) sc__law_names.nd)
    (vss_cons (vs_asg 4 (ve_op op_addAll addV (ve_int) (ve_op op_mod modV (ve_var 0) (ve_int))) sc__law_names.nd)
    (vss_cons (vs_setLc 5 (own := [("_law_j", 10)]) rfl sc__law_names.nd (vi_range1 rfl T.n_range (ve_var 4)) (blkOk_by (N := ["_law_base", "_law_place", "_law_many", "_law_some", "_law_long", "_law_signs", "_law_at", "_law_names_here", "_law_k", "_law_name", "_law_j"]) (sc := (defScope s__law_names)) (by decide +kernel)) (fun _ _ _ _ _ => vg_name 10 sc__law_names.nd) (fun _ _ _ _ _ => vts_nil) (fun _ _ _ _ _ => ve_op op_mod modV (ve_op op_addAll addV (ve_op op_fdiv divV (ve_var 0) (ve_op op_addAll addV (ve_var 10) (ve_int))) (ve_op op_mulAll mulV (ve_op op_mulAll mulV (ve_int) (ve_var 10)) (ve_var 10))) (ve_cb1 call_lenAll lenV rfl T.n_len bt_len (ve_var 3))))
    (vss_cons (vs_asg 6 (ve_op op_mod modV (ve_var 1) (ve_var 4)) sc__law_names.nd)
    (vss_cons (vs_asg 7 (ve_lst (va_nil)) sc__law_names.nd)
    (vss_cons (vs_for (passes_of rfl) rfl (vi_range1 rfl T.n_range (ve_var 2)) (vg_name 8 sc__law_names.nd) (vss_cons (vs_asg 9 (ve_str) sc__law_names.nd)
    (vss_cons (vs_for (passes_of rfl) rfl (vi_range1 rfl T.n_range (ve_var 4)) (vg_name 10 sc__law_names.nd) (vss_one (vs_asg 9 (ve_op op_addAll addV (ve_var 9) (ve_ix (ve_var 3) (ve_op op_mod modV (ve_op op_addAll addV (ve_ix (ve_var 5) (ve_var 10)) (ve_op op_mulAll mulV (ve_var 8) (ve_ct1 call_int1 toIntV rfl T.n_int bt_int (ve_cmp (op_eqP hr.units) eqV' (ve_var 10) (ve_var 6))))) (ve_cb1 call_lenAll lenV rfl T.n_len bt_len (ve_var 3))))) sc__law_names.nd)))
    (vss_one (vs_expr (ve_mm PySem.F.plainAttrs_list PySem.F.slot_list_append PySem.F.type_list_append mt_append appendV (ve_var 7) (va_cons (ve_var 9) (va_nil))))))))
    (vss_one (vs_ret (ve_var 7))))))))) bd__law_names
structure T__law_tables [VL.Tabs] (P : Program) (w : World) (K : PySem.W.Frag) (mg : Str → Option Value) (base : Heap) where
  wt : VL.Tabs.W = w
  n_len : mg "len" = none
  n_range : mg "range" = none
theorem ok__law_tables {f : Addr} {fd : FuncData} (F : L2.Fun K "_law_tables" "_law_tables" s__law_tables f fd) (T : T__law_tables P w K mg base) : FnOk P w K mg base (L2.CX P w) 1 f fd ["_law_sort", "_law_rank", "_law_kinds"] (spV K 3 sp__law_tables) :=
  fn_nice (fn_okF (fb := fb__law_tables) F sc__law_tables fun cdv A outer s H E hr =>
    vss_cons (vs_asg 3 (ve_lst (va_cons (ve_tup (va_cons (ve_tup (va_cons (ve_str) (va_cons (ve_int) (va_nil)))) (va_cons (ve_tup (va_cons (ve_tup (va_cons (ve_var 0) (va_cons (ve_var 1) (va_nil)))) (va_nil))) (va_cons (ve_un un_neg negV (ve_int)) (va_nil))))) (va_nil))) sc__law_tables.nd)
    (vss_cons (vs_asg 4 (ve_lst (va_cons (ve_gh (ve_mdisp hr.units T.wt (vmp_cons (ve_tup (va_cons (ve_var 0) (va_cons (ve_var 1) (va_nil)))) (ve_int) (vmp_nil)))) (va_cons (ve_mnew T.wt) (va_nil)))) sc__law_tables.nd)
    (vss_cons (vs_asg 5 (ve_lst (va_cons (ve_gh (ve_mnew T.wt)) (va_cons (ve_mdisp hr.units T.wt (vmp_cons (ve_str) (ve_tup (va_cons (ve_str) (va_cons (ve_int) (va_nil)))) (vmp_nil))) (va_nil)))) sc__law_tables.nd)
    (vss_cons (vs_for (passes_of rfl) rfl (vi_range1 rfl T.n_range (ve_cb1 call_lenAll lenV rfl T.n_len bt_len (ve_var 2))) (vg_name 6 sc__law_tables.nd) (vss_cons (vs_expr (ve_mm PySem.F.plainAttrs_list PySem.F.slot_list_append PySem.F.type_list_append mt_append appendV (ve_var 3) (va_cons (ve_tup (va_cons (ve_tup (va_cons (ve_var 0) (va_cons (ve_var 1) (va_nil)))) (va_cons (ve_tup (va_cons (ve_ix (ve_var 2) (ve_var 6)) (va_nil))) (va_cons (ve_var 6) (va_nil))))) (va_nil))))
    (vss_cons (vs_mput hr.units T.wt (ve_op op_addAll addV (ve_var 6) (ve_int)) (ve_ix (ve_var 4) (ve_int)) (ve_ix (ve_var 2) (ve_var 6)))
    (vss_cons (vs_expr (ve_mm PySem.F.plainAttrs_list PySem.F.slot_list_append PySem.F.type_list_append mt_append appendV (ve_var 4) (va_cons (ve_mnew T.wt) (va_nil))))
    (vss_cons (vs_mput hr.units T.wt (ve_tup (va_cons (ve_str) (va_cons (ve_op op_addAll addV (ve_var 6) (ve_int)) (va_nil)))) (ve_ix (ve_var 5) (ve_int)) (ve_ix (ve_var 2) (ve_var 6)))
    (vss_one (vs_expr (ve_mm PySem.F.plainAttrs_list PySem.F.slot_list_append PySem.F.type_list_append mt_append appendV (ve_var 5) (va_cons (ve_mdisp hr.units T.wt (vmp_cons (ve_str) (ve_tup (va_cons (ve_str) (va_cons (ve_op op_addAll addV (ve_var 6) (ve_int)) (va_nil)))) (vmp_nil))) (va_nil))))))))))
    (vss_one (vs_ret (ve_tup (va_cons (ve_var 3) (va_cons (ve_var 4) (va_cons (ve_var 5) (va_nil))))))))))) bd__law_tables
structure T_lay [VL.Tabs] (P : Program) (w : World) (K : PySem.W.Frag) (mg : Str → Option Value) (base : Heap) where
  wt : VL.Tabs.W = w
theorem ok_lay {f : Addr} {fd : FuncData} (F : L2.Fun K "lay" "lay" s_lay f fd) (T : T_lay P w K mg base) : FnOk P w K mg base (L2.CX P w) 1 f fd ["tables", "states", "spans", "symbol", "words"] (spV K 5 sp_lay) :=
  fn_nice (fn_ok (fb := fb_lay) F sc_lay fun cdv A outer s H E hr =>
    vss_cons (vs_expr (ve_mm PySem.F.plainAttrs_list PySem.F.slot_list_append PySem.F.type_list_append mt_append appendV (ve_var 1) (va_cons (ve_mget hr.units T.wt (ve_ix (ve_ix (ve_var 0) (ve_int)) (ve_ix (ve_var 1) (ve_un un_neg negV (ve_int)))) (ve_var 3)) (va_nil))))
    (vss_one (vs_expr (ve_mm PySem.F.plainAttrs_list PySem.F.slot_list_append PySem.F.type_list_append mt_append appendV (ve_var 2) (va_cons (ve_var 4) (va_nil)))))) bd_lay
structure T_put_together [VL.Tabs] (P : Program) (w : World) (K : PySem.W.Frag) (mg : Str → Option Value) (base : Heap) where
  {f_lay : Addr} {d_lay : FuncData}
  g_lay : mg "lay" = some (.ref f_lay)
  F_lay : L2.Fun K "lay" "lay" s_lay f_lay d_lay
  b_lay : Binds K d_lay ["tables", "states", "spans", "symbol", "words"] []
  ok_lay : FnOk P w K mg base (L2.CX P w) 1 f_lay d_lay ["tables", "states", "spans", "symbol", "words"] (spV K 5 sp_lay)
theorem ok_put_together {f : Addr} {fd : FuncData} (F : L2.Fun K "put_together" "put_together" s_put_together f fd) (T : T_put_together P w K mg base) : FnOk P w K mg base (L2.CX P w) 2 f fd ["tables", "states", "spans", "way", "number"] (spV K 5 sp_put_together) :=
  fn_nice (fn_ok (fb := fb_put_together) F sc_put_together fun cdv A outer s H E hr =>
    vss_cons (vs_asgG (ve_ix (ve_ix (ve_var 0) (ve_int)) (ve_var 4)) (vg_tup rfl (vgs_cons (vg_name 5 sc_put_together.nd) (vgs_cons (vg_name 6 sc_put_together.nd) (vgs_cons (vg_name 7 sc_put_together.nd) (vgs_nil))))))
    (vss_cons (vs_asg 8 (ve_int) sc_put_together.nd)
    (vss_cons (vs_for (passes_of rfl) rfl (vi_tup (ve_var 6)) (vg_name 9 sc_put_together.nd) (vss_cons (vs_expr (ve_mm0 PySem.F.plainAttrs_list PySem.F.slot_list_pop PySem.F.type_list_pop mt_pop popV (ve_var 1)))
    (vss_one (vs_aug 8 (ve_mm0 PySem.F.plainAttrs_list PySem.F.slot_list_pop PySem.F.type_list_pop mt_pop popV (ve_var 2)) ip_addAll addIV sc_put_together.nd))))
    (vss_cons (vs_if (vt_cmp op_ge geV (ve_var 7) (ve_int)) (vss_one (vs_expr (ve_mm PySem.F.plainAttrs_list PySem.F.slot_list_append PySem.F.type_list_append mt_append appendV (ve_var 3) (va_cons (ve_tup (va_cons (ve_var 7) (va_cons (ve_var 8) (va_cons (ve_ix (ve_var 1) (ve_un un_neg negV (ve_int))) (va_nil))))) (va_nil))))) (vss_nil))
    (vss_one (vs_expr (ve_call (T.ok_lay) (hr.mono (by decide)) rfl T.g_lay T.F_lay.kp T.b_lay (takes_of rfl rfl rfl rfl) (va_cons (ve_var 0) (va_cons (ve_share 1) (va_cons (ve_share 2) (va_cons (ve_var 5) (va_cons (ve_var 8) (va_nil))))))))))))) bd_put_together
structure T_deed_behind [VL.Tabs] (P : Program) (w : World) (K : PySem.W.Frag) (mg : Str → Option Value) (base : Heap) where
  wt : VL.Tabs.W = w
  {f_put_together : Addr} {d_put_together : FuncData}
  g_put_together : mg "put_together" = some (.ref f_put_together)
  F_put_together : L2.Fun K "put_together" "put_together" s_put_together f_put_together d_put_together
  b_put_together : Binds K d_put_together ["tables", "states", "spans", "way", "number"] []
  ok_put_together : FnOk P w K mg base (L2.CX P w) 2 f_put_together d_put_together ["tables", "states", "spans", "way", "number"] (spV K 5 sp_put_together)
theorem ok_deed_behind {f : Addr} {fd : FuncData} (F : L2.Fun K "deed_behind" "deed_behind" s_deed_behind f fd) (T : T_deed_behind P w K mg base) : FnOk P w K mg base (L2.CX P w) 3 f fd ["tables", "states", "spans", "way", "kind"] (spV K 5 sp_deed_behind) :=
  fn_nice (fn_ok (fb := fb_deed_behind) F sc_deed_behind fun cdv A outer s H E hr =>
    vss_cons (vs_asg 5 (ve_mget1 hr.units T.wt (ve_ix (ve_ix (ve_var 0) (ve_int)) (ve_ix (ve_var 1) (ve_un un_neg negV (ve_int)))) (ve_var 4)) sc_deed_behind.nd)
    (vss_cons (vs_while (passes_of rfl) (VW.vt (vw_and (vt_cmp op_notN isNotV (ve_var 5) (ve_non)) (vw_and1 (vt_cmp (op_eqP hr.units) eqV' (ve_ix (ve_var 5) (ve_int)) (ve_str))))) (vss_cons (vs_expr (ve_call (T.ok_put_together) (hr.mono (by decide)) rfl T.g_put_together T.F_put_together.kp T.b_put_together (takes_of rfl rfl rfl rfl) (va_cons (ve_var 0) (va_cons (ve_share 1) (va_cons (ve_share 2) (va_cons (ve_share 3) (va_cons (ve_ix (ve_var 5) (ve_int)) (va_nil))))))))
    (vss_one (vs_asg 5 (ve_mget1 hr.units T.wt (ve_ix (ve_ix (ve_var 0) (ve_int)) (ve_ix (ve_var 1) (ve_un un_neg negV (ve_int)))) (ve_var 4)) sc_deed_behind.nd))))
    (vss_one (vs_ret (ve_var 5))))) bd_deed_behind
structure T_kind_at [VL.Tabs] (P : Program) (w : World) (K : PySem.W.Frag) (mg : Str → Option Value) (base : Heap) where
  clo : CloOk P w K mg base 1 clo_tbl
theorem ok_kind_at {f : Addr} {fd : FuncData} (F : L2.Fun K "kind_at" "kind_at" s_kind_at f fd) (T : T_kind_at P w K mg base) : FnOk P w K mg base (L2.CX P w) 2 f fd ["ask", "many", "at"] (spV K 3 sp_kind_at) :=
  fn_nice (fn_ok (fb := fb_kind_at) F sc_kind_at fun cdv A outer s H E hr =>
    vss_cons (vs_if (vt_cmp op_lt ltV (ve_var 2) (ve_var 1)) (vss_one (vs_ret (ve_callP 0 T.clo hr (by decide) (va_cons (ve_var 2) (va_nil))))) (vss_nil))
    (vss_one (vs_ret (ve_str)))) bd_kind_at
structure T_take [VL.Tabs] (P : Program) (w : World) (K : PySem.W.Frag) (mg : Str → Option Value) (base : Heap) where
  {f_lay : Addr} {d_lay : FuncData}
  g_lay : mg "lay" = some (.ref f_lay)
  F_lay : L2.Fun K "lay" "lay" s_lay f_lay d_lay
  b_lay : Binds K d_lay ["tables", "states", "spans", "symbol", "words"] []
  ok_lay : FnOk P w K mg base (L2.CX P w) 1 f_lay d_lay ["tables", "states", "spans", "symbol", "words"] (spV K 5 sp_lay)
theorem ok_take {f : Addr} {fd : FuncData} (F : L2.Fun K "take" "take" s_take f fd) (T : T_take P w K mg base) : FnOk P w K mg base (L2.CX P w) 2 f fd ["tables", "states", "spans", "way", "kind"] (spV K 5 sp_take) :=
  fn_nice (fn_ok (fb := fb_take) F sc_take fun cdv A outer s H E hr =>
    vss_cons (vs_expr (ve_mm PySem.F.plainAttrs_list PySem.F.slot_list_append PySem.F.type_list_append mt_append appendV (ve_var 3) (va_cons (ve_tup (va_cons (ve_un un_neg negV (ve_int)) (va_cons (ve_int) (va_cons (ve_ix (ve_var 1) (ve_un un_neg negV (ve_int))) (va_nil))))) (va_nil))))
    (vss_one (vs_expr (ve_call (T.ok_lay) (hr.mono (by decide)) rfl T.g_lay T.F_lay.kp T.b_lay (takes_of rfl rfl rfl rfl) (va_cons (ve_var 0) (va_cons (ve_share 1) (va_cons (ve_share 2) (va_cons (ve_var 4) (va_cons (ve_int) (va_nil)))))))))) bd_take
structure T_read_row [VL.Tabs] (P : Program) (w : World) (K : PySem.W.Frag) (mg : Str → Option Value) (base : Heap) where
  {fI_Stuck : Addr} {dI_Stuck : FuncData} (x_Stuck : XiF K mg 2 "Stuck" ["place"] fI_Stuck) (okI_Stuck : FnOk P w K mg base (L2.CX P w) 1 fI_Stuck dI_Stuck ["self", "place"] (spIni K ["place"])) (bI_Stuck : Binds K dI_Stuck ["self", "place"] [])
  {f_deed_behind : Addr} {d_deed_behind : FuncData}
  g_deed_behind : mg "deed_behind" = some (.ref f_deed_behind)
  F_deed_behind : L2.Fun K "deed_behind" "deed_behind" s_deed_behind f_deed_behind d_deed_behind
  b_deed_behind : Binds K d_deed_behind ["tables", "states", "spans", "way", "kind"] []
  ok_deed_behind : FnOk P w K mg base (L2.CX P w) 3 f_deed_behind d_deed_behind ["tables", "states", "spans", "way", "kind"] (spV K 5 sp_deed_behind)
  {f_kind_at : Addr} {d_kind_at : FuncData}
  g_kind_at : mg "kind_at" = some (.ref f_kind_at)
  F_kind_at : L2.Fun K "kind_at" "kind_at" s_kind_at f_kind_at d_kind_at
  b_kind_at : Binds K d_kind_at ["ask", "many", "at"] []
  ok_kind_at : FnOk P w K mg base (L2.CX P w) 2 f_kind_at d_kind_at ["ask", "many", "at"] (spV K 3 sp_kind_at)
  {f_take : Addr} {d_take : FuncData}
  g_take : mg "take" = some (.ref f_take)
  F_take : L2.Fun K "take" "take" s_take f_take d_take
  b_take : Binds K d_take ["tables", "states", "spans", "way", "kind"] []
  ok_take : FnOk P w K mg base (L2.CX P w) 2 f_take d_take ["tables", "states", "spans", "way", "kind"] (spV K 5 sp_take)
theorem ok_read_row {f : Addr} {fd : FuncData} (F : L2.Fun K "read_row" "read_row" s_read_row f fd) (T : T_read_row P w K mg base) : FnOk P w K mg base (L2.CX P w) 4 f fd ["tables", "ask", "many"] (spV K 3 sp_read_row) :=
  fn_nice (fn_ok (fb := fb_read_row) F sc_read_row fun cdv A outer s H E hr =>
    vss_cons (vs_asg 3 (ve_lst (va_cons (ve_int) (va_nil))) sc_read_row.nd)
    (vss_cons (vs_asg 4 (ve_lst (va_nil)) sc_read_row.nd)
    (vss_cons (vs_asg 5 (ve_lst (va_nil)) sc_read_row.nd)
    (vss_cons (vs_asg 6 (ve_int) sc_read_row.nd)
    (vss_one (vs_shareAt 3 (vs_shareAt 4 (vs_shareAt 5 (vs_while (passes_of rfl) (vt_val (ve_bl)) (vss_cons (vs_asg 7 (ve_call (T.ok_kind_at) (hr.mono (by decide)) rfl T.g_kind_at T.F_kind_at.kp T.b_kind_at (takes_of rfl rfl rfl rfl) (va_cons (ve_var 1) (va_cons (ve_var 2) (va_cons (ve_var 6) (va_nil))))) sc_read_row.nd)
    (vss_cons (vs_asg 8 (ve_call (T.ok_deed_behind) (hr.mono (by decide)) rfl T.g_deed_behind T.F_deed_behind.kp T.b_deed_behind (takes_of rfl rfl rfl rfl) (va_cons (ve_var 0) (va_cons (ve_share 3) (va_cons (ve_share 4) (va_cons (ve_share 5) (va_cons (ve_var 7) (va_nil))))))) sc_read_row.nd)
    (vss_cons (vs_if (vt_cmp op_isN isV (ve_var 8) (ve_non)) (vss_one (vs_raiseI T.x_Stuck T.okI_Stuck (hr.mono (by decide)) T.bI_Stuck rfl (takes_of rfl rfl rfl rfl) rfl (va_cons (ve_var 6) (va_nil)))) (vss_nil))
    (vss_cons (vs_if (vt_cmp (op_eqP hr.units) eqV' (ve_ix (ve_var 8) (ve_int)) (ve_str)) (vss_one (vs_ret (ve_var 5))) (vss_nil))
    (vss_cons (vs_expr (ve_call (T.ok_take) (hr.mono (by decide)) rfl T.g_take T.F_take.kp T.b_take (takes_of rfl rfl rfl rfl) (va_cons (ve_var 0) (va_cons (ve_share 3) (va_cons (ve_share 4) (va_cons (ve_share 5) (va_cons (ve_var 7) (va_nil))))))))
    (vss_one (vs_aug 6 (ve_int) ip_addAll addIV sc_read_row.nd)))))))))))))))) bd_read_row
structure T_fault_of [VL.Tabs] (P : Program) (w : World) (K : PySem.W.Frag) (mg : Str → Option Value) (base : Heap) where
  xcs : XcsF K cls_par
  fl_place : ∀ c, 0 < c → c < cls_par.length → PySem.W.findIn K (.ref (VL.Tabs.C c)) "place" = some none
  xg_Stuck : mg "Stuck" = some (.ref (VL.Tabs.C 2))
  n_len : mg "len" = none
  {f_read_row : Addr} {d_read_row : FuncData}
  g_read_row : mg "read_row" = some (.ref f_read_row)
  F_read_row : L2.Fun K "read_row" "read_row" s_read_row f_read_row d_read_row
  b_read_row : Binds K d_read_row ["tables", "ask", "many"] []
  ok_read_row : FnOk P w K mg base (L2.CX P w) 4 f_read_row d_read_row ["tables", "ask", "many"] (spV K 3 sp_read_row)
  {cc PP : Addr} (tb : LamX.TabB base mg cc PP) (tm : (PP, nm_fault_of) ∈ (VL.Tabs.T : List NdefX.NTab)) (tu : ∀ p ∈ (VL.Tabs.T : List NdefX.NTab), p.1 = PP → p.2 = nm_fault_of)
  nth_ask : NthFn K "fault_of" 0 (fwOf s_ask)
theorem ok_fault_of {f : Addr} {fd : FuncData} (F : L2.Fun K "fault_of" "fault_of" s_fault_of f fd) (T : T_fault_of P w K mg base) (HC : ∀ o fd', K.lookup f = some o → o.data = .func fd' → fd'.code = .ref T.cc) : FnOk P w K mg base (L2.CX P w) 5 f fd ["tables", "kinds"] (spV K 2 sp_fault_of) :=
  fn_okC (fb := fb_fault_of) F sc_fault_of HC (fun A outer s H E hr =>
    vss_cons (vs_def 2 0 T.nth_ask T.tb T.tm T.tu rfl rfl rfl (NdefX.ndef_free (sc := (defScope s_fault_of)) (nsc := C8.fnScope s_ask) (fr := []) (by decide +kernel)) rfl rfl rfl sc_fault_of.nd rfl (by first | exact Or.inl rfl | exact Or.inr rfl) (by first | exact .inl rfl | exact .inr rfl))
    (vss_cons (vs_tryAs T.xcs (by decide) T.xg_Stuck rfl (takes_of rfl rfl rfl rfl) sc_fault_of.nd (fun W' pn xe tk po => vss_one (vs_expr (ve_callCX (T.ok_read_row) (hr.mono (by decide)) rfl T.g_read_row T.F_read_row.kp T.b_read_row (fun _ => rfl) tk (tbl_cons (N := ["tables", "kinds", "ask", "e"]) (sc := (defScope s_fault_of)) T.nth_ask (by decide +kernel) (tbl_nil)) (va_cons (ve_var 0) (va_cons (ve_var 2) (va_cons (ve_cb1 call_lenAll lenV rfl T.n_len bt_len (ve_var 1)) (va_nil))))))) (fun a pn => vss_one (vs_ret (ve_xf T.xcs T.fl_place (ve_var 3)))))
    (vss_one (vs_ret (ve_non))))) bd_fault_of
structure T_deed_for [VL.Tabs] (P : Program) (w : World) (K : PySem.W.Frag) (mg : Str → Option Value) (base : Heap) where
  wt : VL.Tabs.W = w
theorem ok_deed_for {f : Addr} {fd : FuncData} (F : L2.Fun K "deed_for" "deed_for" s_deed_for f fd) (T : T_deed_for P w K mg base) : FnOk P w K mg base (L2.CX P w) 1 f fd ["tables", "states", "kind"] (spV K 3 sp_deed_for) :=
  fn_nice (fn_ok (fb := fb_deed_for) F sc_deed_for fun cdv A outer s H E hr =>
    vss_cons (vs_asg 3 (ve_mget1 hr.units T.wt (ve_ix (ve_ix (ve_var 0) (ve_int)) (ve_ix (ve_var 1) (ve_un un_neg negV (ve_int)))) (ve_var 2)) sc_deed_for.nd)
    (vss_cons (vs_while (passes_of rfl) (VW.vt (vw_and (vt_cmp op_notN isNotV (ve_var 3) (ve_non)) (vw_and1 (vt_cmp (op_eqP hr.units) eqV' (ve_ix (ve_var 3) (ve_int)) (ve_str))))) (vss_cons (vs_asgG (ve_ix (ve_ix (ve_var 0) (ve_int)) (ve_ix (ve_var 3) (ve_int))) (vg_tup rfl (vgs_cons (vg_name 4 sc_deed_for.nd) (vgs_cons (vg_name 5 sc_deed_for.nd) (vgs_cons (vg_name 6 sc_deed_for.nd) (vgs_nil))))))
    (vss_cons (vs_for (passes_of rfl) rfl (vi_tup (ve_var 5)) (vg_name 7 sc_deed_for.nd) (vss_one (vs_expr (ve_mm0 PySem.F.plainAttrs_list PySem.F.slot_list_pop PySem.F.type_list_pop mt_pop popV (ve_var 1)))))
    (vss_cons (vs_expr (ve_mm PySem.F.plainAttrs_list PySem.F.slot_list_append PySem.F.type_list_append mt_append appendV (ve_var 1) (va_cons (ve_mget hr.units T.wt (ve_ix (ve_ix (ve_var 0) (ve_int)) (ve_ix (ve_var 1) (ve_un un_neg negV (ve_int)))) (ve_var 4)) (va_nil))))
    (vss_one (vs_asg 3 (ve_mget1 hr.units T.wt (ve_ix (ve_ix (ve_var 0) (ve_int)) (ve_ix (ve_var 1) (ve_un un_neg negV (ve_int)))) (ve_var 2)) sc_deed_for.nd))))))
    (vss_one (vs_ret (ve_var 3))))) bd_deed_for
structure T_reads_on [VL.Tabs] (P : Program) (w : World) (K : PySem.W.Frag) (mg : Str → Option Value) (base : Heap) where
  n_list : mg "list" = none
  {f_deed_for : Addr} {d_deed_for : FuncData}
  g_deed_for : mg "deed_for" = some (.ref f_deed_for)
  F_deed_for : L2.Fun K "deed_for" "deed_for" s_deed_for f_deed_for d_deed_for
  b_deed_for : Binds K d_deed_for ["tables", "states", "kind"] []
  ok_deed_for : FnOk P w K mg base (L2.CX P w) 1 f_deed_for d_deed_for ["tables", "states", "kind"] (spV K 3 sp_deed_for)
theorem ok_reads_on {f : Addr} {fd : FuncData} (F : L2.Fun K "reads_on" "reads_on" s_reads_on f fd) (T : T_reads_on P w K mg base) : FnOk P w K mg base (L2.CX P w) 2 f fd ["tables", "stack", "kinds"] (spV K 3 sp_reads_on) :=
  fn_nice (fn_ok (fb := fb_reads_on) F sc_reads_on fun cdv A outer s H E hr =>
    vss_cons (vs_asg 3 (ve_ct1 call_list_of listV rfl T.n_list bt_list (ve_var 1)) sc_reads_on.nd)
    (vss_cons (vs_shareAt 3 (vs_for (passes_of rfl) rfl (vi_list (ve_var 2)) (vg_name 4 sc_reads_on.nd) (vss_cons (vs_asg 5 (ve_call (T.ok_deed_for) (hr.mono (by decide)) rfl T.g_deed_for T.F_deed_for.kp T.b_deed_for (takes_of rfl rfl rfl rfl) (va_cons (ve_var 0) (va_cons (ve_share 3) (va_cons (ve_var 4) (va_nil))))) sc_reads_on.nd)
    (vss_cons (vs_if (vt_cmp op_isN isV (ve_var 5) (ve_non)) (vss_one (vs_ret (ve_bl))) (vss_nil))
    (vss_one (vs_expr (ve_mm PySem.F.plainAttrs_list PySem.F.slot_list_append PySem.F.type_list_append mt_append appendV (ve_var 3) (va_cons (ve_ix (ve_var 5) (ve_int)) (va_nil)))))))))
    (vss_one (vs_ret (ve_cmp op_notN isNotV (ve_call (T.ok_deed_for) (hr.mono (by decide)) rfl T.g_deed_for T.F_deed_for.kp T.b_deed_for (takes_of rfl rfl rfl rfl) (va_cons (ve_var 0) (va_cons (ve_share 3) (va_cons (ve_str) (va_nil))))) (ve_non)))))) bd_reads_on
structure T_stacks_ahead [VL.Tabs] (P : Program) (w : World) (K : PySem.W.Frag) (mg : Str → Option Value) (base : Heap) where
  n_list : mg "list" = none
  {f_deed_for : Addr} {d_deed_for : FuncData}
  g_deed_for : mg "deed_for" = some (.ref f_deed_for)
  F_deed_for : L2.Fun K "deed_for" "deed_for" s_deed_for f_deed_for d_deed_for
  b_deed_for : Binds K d_deed_for ["tables", "states", "kind"] []
  ok_deed_for : FnOk P w K mg base (L2.CX P w) 1 f_deed_for d_deed_for ["tables", "states", "kind"] (spV K 3 sp_deed_for)
theorem ok_stacks_ahead {f : Addr} {fd : FuncData} (F : L2.Fun K "stacks_ahead" "stacks_ahead" s_stacks_ahead f fd) (T : T_stacks_ahead P w K mg base) : FnOk P w K mg base (L2.CX P w) 2 f fd ["tables", "kinds", "fault"] (spV K 3 sp_stacks_ahead) :=
  fn_nice (fn_ok (fb := fb_stacks_ahead) F sc_stacks_ahead fun cdv A outer s H E hr =>
    vss_cons (vs_asg 3 (ve_lst (va_cons (ve_int) (va_nil))) sc_stacks_ahead.nd)
    (vss_cons (vs_asg 4 (ve_lst (va_cons (ve_lst (va_cons (ve_int) (va_nil))) (va_nil))) sc_stacks_ahead.nd)
    (vss_cons (vs_shareAt 3 (vs_for (passes_of rfl) rfl (vi_list (ve_slice (ve_var 1) (vo_none) (vo_some (ve_var 2)))) (vg_name 5 sc_stacks_ahead.nd) (vss_cons (vs_asg 6 (ve_call (T.ok_deed_for) (hr.mono (by decide)) rfl T.g_deed_for T.F_deed_for.kp T.b_deed_for (takes_of rfl rfl rfl rfl) (va_cons (ve_var 0) (va_cons (ve_share 3) (va_cons (ve_var 5) (va_nil))))) sc_stacks_ahead.nd)
    (vss_cons (vs_expr (ve_mm PySem.F.plainAttrs_list PySem.F.slot_list_append PySem.F.type_list_append mt_append appendV (ve_var 3) (va_cons (ve_ix (ve_var 6) (ve_int)) (va_nil))))
    (vss_one (vs_expr (ve_mm PySem.F.plainAttrs_list PySem.F.slot_list_append PySem.F.type_list_append mt_append appendV (ve_var 4) (va_cons (ve_ct1 call_list_of listV rfl T.n_list bt_list (ve_var 3)) (va_nil)))))))))
    (vss_one (vs_ret (ve_var 4)))))) bd_stacks_ahead
structure T_least_stretch [VL.Tabs] (P : Program) (w : World) (K : PySem.W.Frag) (mg : Str → Option Value) (base : Heap) where
  n_len : mg "len" = none
  n_min : mg "min" = none
  n_range : mg "range" = none
  {f_reads_on : Addr} {d_reads_on : FuncData}
  g_reads_on : mg "reads_on" = some (.ref f_reads_on)
  F_reads_on : L2.Fun K "reads_on" "reads_on" s_reads_on f_reads_on d_reads_on
  b_reads_on : Binds K d_reads_on ["tables", "stack", "kinds"] []
  ok_reads_on : FnOk P w K mg base (L2.CX P w) 2 f_reads_on d_reads_on ["tables", "stack", "kinds"] (spV K 3 sp_reads_on)
  {f_stacks_ahead : Addr} {d_stacks_ahead : FuncData}
  g_stacks_ahead : mg "stacks_ahead" = some (.ref f_stacks_ahead)
  F_stacks_ahead : L2.Fun K "stacks_ahead" "stacks_ahead" s_stacks_ahead f_stacks_ahead d_stacks_ahead
  b_stacks_ahead : Binds K d_stacks_ahead ["tables", "kinds", "fault"] []
  ok_stacks_ahead : FnOk P w K mg base (L2.CX P w) 2 f_stacks_ahead d_stacks_ahead ["tables", "kinds", "fault"] (spV K 3 sp_stacks_ahead)
theorem ok_least_stretch {f : Addr} {fd : FuncData} (F : L2.Fun K "least_stretch" "least_stretch" s_least_stretch f fd) (T : T_least_stretch P w K mg base) : FnOk P w K mg base (L2.CX P w) 3 f fd ["tables", "kinds", "fault"] (spV K 3 sp_least_stretch) :=
  fn_nice (fn_ok (fb := fb_least_stretch) F sc_least_stretch fun cdv A outer s H E hr =>
    vss_cons (vs_asg 3 (ve_cb1 call_lenAll lenV rfl T.n_len bt_len (ve_var 1)) sc_least_stretch.nd)
    (vss_cons (vs_asg 4 (ve_call (T.ok_stacks_ahead) (hr.mono (by decide)) rfl T.g_stacks_ahead T.F_stacks_ahead.kp T.b_stacks_ahead (takes_of rfl rfl rfl rfl) (va_cons (ve_var 0) (va_cons (ve_var 1) (va_cons (ve_var 2) (va_nil))))) sc_least_stretch.nd)
    (vss_cons (vs_for (passes_of rfl) rfl (vi_range2 rfl T.n_range (ve_int) (ve_var 3)) (vg_name 5 sc_least_stretch.nd) (vss_one (vs_for (passes_of rfl) rfl (vi_range1 rfl T.n_range (ve_op op_addAll addV (ve_cb2 (call_min2 rfl) minV rfl T.n_min bt_min (ve_var 2) (ve_op op_sub subV (ve_var 3) (ve_var 5))) (ve_int))) (vg_name 6 sc_least_stretch.nd) (vss_one (vs_if (vt_val (ve_call (T.ok_reads_on) (hr.mono (by decide)) rfl T.g_reads_on T.F_reads_on.kp T.b_reads_on (takes_of rfl rfl rfl rfl) (va_cons (ve_var 0) (va_cons (ve_ix (ve_var 4) (ve_var 6)) (va_cons (ve_slice (ve_var 1) (vo_some (ve_op op_addAll addV (ve_var 6) (ve_var 5))) (vo_none)) (va_nil)))))) (vss_one (vs_ret (ve_tup (va_cons (ve_var 6) (va_cons (ve_op op_addAll addV (ve_var 6) (ve_var 5)) (va_nil)))))) (vss_nil))))))
    (vss_one (vs_ret (ve_tup (va_cons (ve_int) (va_cons (ve_var 3) (va_nil))))))))) bd_least_stretch
structure T_aside_of [VL.Tabs] (P : Program) (w : World) (K : PySem.W.Frag) (mg : Str → Option Value) (base : Heap) where
  {t_MOST_WORDS : Tok} (c_MOST_WORDS : mg "MOST_WORDS" = some (.int 40 t_MOST_WORDS))
  n_len : mg "len" = none
  {f_fault_of : Addr} {d_fault_of : FuncData}
  g_fault_of : mg "fault_of" = some (.ref f_fault_of)
  F_fault_of : L2.Fun K "fault_of" "fault_of" s_fault_of f_fault_of d_fault_of
  b_fault_of : Binds K d_fault_of ["tables", "kinds"] []
  ok_fault_of : FnOk P w K mg base (L2.CX P w) 5 f_fault_of d_fault_of ["tables", "kinds"] (spV K 2 sp_fault_of)
  {f_least_stretch : Addr} {d_least_stretch : FuncData}
  g_least_stretch : mg "least_stretch" = some (.ref f_least_stretch)
  F_least_stretch : L2.Fun K "least_stretch" "least_stretch" s_least_stretch f_least_stretch d_least_stretch
  b_least_stretch : Binds K d_least_stretch ["tables", "kinds", "fault"] []
  ok_least_stretch : FnOk P w K mg base (L2.CX P w) 3 f_least_stretch d_least_stretch ["tables", "kinds", "fault"] (spV K 3 sp_least_stretch)
theorem ok_aside_of {f : Addr} {fd : FuncData} (F : L2.Fun K "aside_of" "aside_of" s_aside_of f fd) (T : T_aside_of P w K mg base) : FnOk P w K mg base (L2.CX P w) 6 f fd ["tables", "kinds"] (spV K 2 sp_aside_of) :=
  fn_nice (fn_ok (fb := fb_aside_of) F sc_aside_of fun cdv A outer s H E hr =>
    vss_cons (vs_if (vt_cmp (op_eqP hr.units) eqV' (ve_var 1) (ve_lst (va_nil))) (vss_one (vs_ret (ve_tup (va_cons (ve_int) (va_cons (ve_int) (va_nil)))))) (vss_nil))
    (vss_cons (vs_asg 2 (ve_call (T.ok_fault_of) (hr.mono (by decide)) rfl T.g_fault_of T.F_fault_of.kp T.b_fault_of (takes_of rfl rfl rfl rfl) (va_cons (ve_var 0) (va_cons (ve_var 1) (va_nil)))) sc_aside_of.nd)
    (vss_cons (vs_if (vt_cmp op_isN isV (ve_var 2) (ve_non)) (vss_one (vs_ret (ve_tup (va_cons (ve_int) (va_cons (ve_int) (va_nil)))))) (vss_nil))
    (vss_cons (vs_if (vt_cmp op_gt gtV (ve_cb1 call_lenAll lenV rfl T.n_len bt_len (ve_var 1)) (ve_globInt rfl T.c_MOST_WORDS)) (vss_one (vs_ret (ve_tup (va_cons (ve_int) (va_cons (ve_cb1 call_lenAll lenV rfl T.n_len bt_len (ve_var 1)) (va_nil)))))) (vss_nil))
    (vss_one (vs_ret (ve_call (T.ok_least_stretch) (hr.mono (by decide)) rfl T.g_least_stretch T.F_least_stretch.kp T.b_least_stretch (takes_of rfl rfl rfl rfl) (va_cons (ve_var 0) (va_cons (ve_var 1) (va_cons (ve_var 2) (va_nil))))))))))) bd_aside_of
structure T_law [VL.Tabs] (P : Program) (w : World) (K : PySem.W.Frag) (mg : Str → Option Value) (base : Heap) where
  wt : VL.Tabs.W = w
  n_bool : mg "bool" = none
  n_int : mg "int" = none
  n_isinstance : mg "isinstance" = none
  n_len : mg "len" = none
  n_list : mg "list" = none
  n_range : mg "range" = none
  n_tuple : mg "tuple" = none
  {f__law_cell_at : Addr} {d__law_cell_at : FuncData}
  g__law_cell_at : mg "_law_cell_at" = some (.ref f__law_cell_at)
  F__law_cell_at : L2.Fun K "_law_cell_at" "_law_cell_at" s__law_cell_at f__law_cell_at d__law_cell_at
  b__law_cell_at : Binds K d__law_cell_at ["_law_script", "_law_k"] []
  ok__law_cell_at : FnOk P w K mg base (L2.CX P w) 1 f__law_cell_at d__law_cell_at ["_law_script", "_law_k"] (spV K 2 sp__law_cell_at)
  {f__law_due : Addr} {d__law_due : FuncData}
  g__law_due : mg "_law_due" = some (.ref f__law_due)
  F__law_due : L2.Fun K "_law_due" "_law_due" s__law_due f__law_due d__law_due
  b__law_due : Binds K d__law_due ["_law_row", "_law_kinds"] []
  ok__law_due : FnOk P w K mg base (L2.CX P w) 1 f__law_due d__law_due ["_law_row", "_law_kinds"] (spV K 2 sp__law_due)
  {f__law_kind : Addr} {d__law_kind : FuncData}
  g__law_kind : mg "_law_kind" = some (.ref f__law_kind)
  F__law_kind : L2.Fun K "_law_kind" "_law_kind" s__law_kind f__law_kind d__law_kind
  b__law_kind : Binds K d__law_kind ["_law_cell", "_law_kinds", "_law_others"] []
  ok__law_kind : FnOk P w K mg base (L2.CX P w) 1 f__law_kind d__law_kind ["_law_cell", "_law_kinds", "_law_others"] (spV K 3 sp__law_kind)
  {f__law_names : Addr} {d__law_names : FuncData}
  g__law_names : mg "_law_names" = some (.ref f__law_names)
  F__law_names : L2.Fun K "_law_names" "_law_names" s__law_names f__law_names d__law_names
  b__law_names : Binds K d__law_names ["_law_base", "_law_place", "_law_many"] []
  ok__law_names : FnOk P w K mg base (L2.CX P w) 1 f__law_names d__law_names ["_law_base", "_law_place", "_law_many"] (spV K 3 sp__law_names)
  {f__law_tables : Addr} {d__law_tables : FuncData}
  g__law_tables : mg "_law_tables" = some (.ref f__law_tables)
  F__law_tables : L2.Fun K "_law_tables" "_law_tables" s__law_tables f__law_tables d__law_tables
  b__law_tables : Binds K d__law_tables ["_law_sort", "_law_rank", "_law_kinds"] []
  ok__law_tables : FnOk P w K mg base (L2.CX P w) 1 f__law_tables d__law_tables ["_law_sort", "_law_rank", "_law_kinds"] (spV K 3 sp__law_tables)
  {f_aside_of : Addr} {d_aside_of : FuncData}
  g_aside_of : mg "aside_of" = some (.ref f_aside_of)
  F_aside_of : L2.Fun K "aside_of" "aside_of" s_aside_of f_aside_of d_aside_of
  b_aside_of : Binds K d_aside_of ["tables", "kinds"] []
  ok_aside_of : FnOk P w K mg base (L2.CX P w) 6 f_aside_of d_aside_of ["tables", "kinds"] (spV K 2 sp_aside_of)
theorem ok_law {f : Addr} {fd : FuncData} (F : L2.Fun K "law" "law" s_law f fd) (T : T_law P w K mg base) : FnOk P w K mg base (L2.CX P w) 7 f fd ["_law_script"] (spV K 1 sp_law) :=
  fn_nice (fn_ok (fb := fb_law) F sc_law fun cdv A outer s H E hr =>
    vss_cons (vs_asg 1 (ve_op op_addAll addV (ve_int) (ve_op op_mod modV (ve_call (T.ok__law_cell_at) (hr.mono (by decide)) rfl T.g__law_cell_at T.F__law_cell_at.kp T.b__law_cell_at (takes_of rfl rfl rfl rfl) (va_cons (ve_var 0) (va_cons (ve_int) (va_nil)))) (ve_int))) sc_law.nd)
    (vss_cons (vs_asg 2 (ve_call (T.ok__law_names) (hr.mono (by decide)) rfl T.g__law_names T.F__law_names.kp T.b__law_names (takes_of rfl rfl rfl rfl) (va_cons (ve_call (T.ok__law_cell_at) (hr.mono (by decide)) rfl T.g__law_cell_at T.F__law_cell_at.kp T.b__law_cell_at (takes_of rfl rfl rfl rfl) (va_cons (ve_var 0) (va_cons (ve_int) (va_nil)))) (va_cons (ve_call (T.ok__law_cell_at) (hr.mono (by decide)) rfl T.g__law_cell_at T.F__law_cell_at.kp T.b__law_cell_at (takes_of rfl rfl rfl rfl) (va_cons (ve_var 0) (va_cons (ve_int) (va_nil)))) (va_cons (ve_op op_addAll addV (ve_var 1) (ve_int)) (va_nil))))) sc_law.nd)
    (vss_cons (vs_asg 3 (ve_keep (ve_slice (ve_var 2) (vo_none) (vo_some (ve_var 1)))) sc_law.nd)
    (vss_cons (vs_asg 4 (ve_keep (ve_op op_addAll addV (ve_slice (ve_var 2) (vo_some (ve_var 1)) (vo_none)) (ve_lst (va_cons (ve_str) (va_nil))))) sc_law.nd)
    (vss_cons (vs_asg 5 (ve_op op_mod modV (ve_call (T.ok__law_cell_at) (hr.mono (by decide)) rfl T.g__law_cell_at T.F__law_cell_at.kp T.b__law_cell_at (takes_of rfl rfl rfl rfl) (va_cons (ve_var 0) (va_cons (ve_int) (va_nil)))) (ve_int)) sc_law.nd)
    (vss_cons (vs_asg 6 (ve_call (T.ok__law_tables) (hr.mono (by decide)) rfl T.g__law_tables T.F__law_tables.kp T.b__law_tables (takes_of rfl rfl rfl rfl) (va_cons (ve_ix (ve_var 2) (ve_var 1)) (va_cons (ve_var 5) (va_cons (ve_var 3) (va_nil))))) sc_law.nd)
    (vss_cons (vs_setLc 7 (own := [("_law_cell", 8)]) rfl sc_law.nd (vi_list (ve_slice (ve_var 0) (vo_some (ve_int)) (vo_none))) (blkOk_by (N := ["_law_script", "_law_many", "_law_names_here", "_law_kinds", "_law_others", "_law_rank", "_law_tables_here", "_law_row", "_law_cell", "_law_some", "_law_due_here", "_law_turn", "_law_handed", "_law_found", "_law_number"]) (sc := (defScope s_law)) (by decide +kernel)) (fun _ _ _ _ _ => vg_name 8 sc_law.nd) (fun _ _ _ _ _ => vts_nil) (fun _ _ _ _ _ => ve_call (T.ok__law_kind) (hr.mono (by decide)) rfl T.g__law_kind T.F__law_kind.kp T.b__law_kind takes0 (va_cons (ve_var 8) (va_cons (ve_var 3) (va_cons (ve_var 4) (va_nil))))))
    (vss_cons (vs_asg 8 (ve_call (T.ok__law_cell_at) (hr.mono (by decide)) rfl T.g__law_cell_at T.F__law_cell_at.kp T.b__law_cell_at (takes_of rfl rfl rfl rfl) (va_cons (ve_var 0) (va_cons (ve_int) (va_nil)))) sc_law.nd)
    (vss_eq eq_law_8 (vss_cons (vs_if (vt_cmp (op_eqP hr.units) eqV' (ve_op op_mod modV (ve_var 8) (ve_int)) (ve_int)) (vss_cons (vs_asg 9 (ve_op op_mulAll mulV (ve_lst (va_cons (ve_call (T.ok__law_kind) (hr.mono (by decide)) rfl T.g__law_kind T.F__law_kind.kp T.b__law_kind (takes_of rfl rfl rfl rfl) (va_cons (ve_op op_fdiv divV (ve_var 8) (ve_int)) (va_cons (ve_var 3) (va_cons (ve_var 4) (va_nil))))) (va_nil))) (ve_op op_addAll addV (ve_int) (ve_op op_mod modV (ve_op op_fdiv divV (ve_var 8) (ve_int)) (ve_int)))) sc_law.nd)
    (vss_one (vs_asg 7 (ve_op op_addAll addV (ve_var 9) (ve_op op_mulAll mulV (ve_lst (va_cons (ve_call (T.ok__law_kind) (hr.mono (by decide)) rfl T.g__law_kind T.F__law_kind.kp T.b__law_kind (takes_of rfl rfl rfl rfl) (va_cons (ve_op op_fdiv divV (ve_var 8) (ve_int)) (va_cons (ve_var 3) (va_cons (ve_var 4) (va_nil))))) (va_nil))) (ve_op op_sub subV (ve_op op_addAll addV (ve_int) (ve_op op_mod modV (ve_cb1 call_lenAll lenV rfl T.n_len bt_len (ve_var 0)) (ve_int))) (ve_cb1 call_lenAll lenV rfl T.n_len bt_len (ve_var 9))))) sc_law.nd))) (vss_nil))
    (vss_eq eq_law_9 (vss_cons (vs_if (vt_cmp (op_eqP hr.units) eqV' (ve_op op_mod modV (ve_var 8) (ve_int)) (ve_int)) (vss_one (vs_asg 7 (ve_revL (ve_var 7)) sc_law.nd)) (vss_nil))
    (vss_eq eq_law_10 (vss_cons (vs_asg 7 (ve_slice (ve_var 7) (vo_none) (vo_some (ve_int))) sc_law.nd)
    (vss_eq eq_law_11 (vss_cons (vs_asg 10 (ve_call (T.ok__law_due) (hr.mono (by decide)) rfl T.g__law_due T.F__law_due.kp T.b__law_due (takes_of rfl rfl rfl rfl) (va_cons (ve_var 7) (va_cons (ve_var 3) (va_nil)))) sc_law.nd)
    (vss_eq eq_law_12 (vss_cons (vs_for (passes_of rfl) rfl (vi_range1 rfl T.n_range (ve_int)) (vg_name 11 sc_law.nd) (vss_cons (vs_asg 12 (ve_ct1 call_list_of listV rfl T.n_list bt_list (ve_var 7)) sc_law.nd)
    (vss_cons (vs_asg 13 (ve_call (T.ok_aside_of) (hr.mono (by decide)) rfl T.g_aside_of T.F_aside_of.kp T.b_aside_of (takes_of rfl rfl rfl rfl) (va_cons (ve_var 6) (va_cons (ve_var 12) (va_nil)))) sc_law.nd)
    (vss_cons (vs_if (VW.vt (vw_or (vt_not (vt_val (ve_isi .tuple rfl T.n_isinstance rfl T.n_tuple bt_tuple (ve_var 13)))) (vw_or (vt_cmp (op_neP hr.units) eqV' (ve_cb1 call_lenAll lenV rfl T.n_len bt_len (ve_var 13)) (ve_int)) (vw_or1 (vt_cmp (op_neP hr.units) eqV' (ve_var 12) (ve_var 7)))))) (vss_one (vs_ret (ve_bl))) (vss_nil))
    (vss_cons (vs_for (passes_of rfl) rfl (vi_tup (ve_var 13)) (vg_name 14 sc_law.nd) (vss_one (vs_if (VW.vt (vw_or (vt_not (vt_val (ve_isi .int rfl T.n_isinstance rfl T.n_int bt_int (ve_var 14)))) (vw_or1 (vt_val (ve_isi .bool rfl T.n_isinstance rfl T.n_bool bt_bool (ve_var 14)))))) (vss_one (vs_ret (ve_bl))) (vss_nil))))
    (vss_one (vs_if (vt_cmp (op_neP hr.units) eqV' (ve_var 13) (ve_var 10)) (vss_one (vs_ret (ve_bl))) (vss_nil))))))))
    (vss_eq eq_law_13 (vss_one (vs_ret (ve_cmp (op_sm hr.units T.wt) smV (ve_var 6) (ve_call (T.ok__law_tables) (hr.mono (by decide)) rfl T.g__law_tables T.F__law_tables.kp T.b__law_tables (takes_of rfl rfl rfl rfl) (va_cons (ve_ix (ve_var 2) (ve_var 1)) (va_cons (ve_var 5) (va_cons (ve_var 3) (va_nil))))))))))))))))))))))))))) bd_law
end
theorem all_mk {l : PySem.W.OpenLaw} {w : World} {K : PySem.W.Frag} {h : Heap} {mg : Str → Option Value} {fa f1 f2 f3 f4 f5 f6 f7 f8 f9 f10 f11 f12 f13 f14 f15 f16 f17 f18 : Addr} {ts : List Addr} (X : K.In h) (G : h.Ns mainGlobals mg) (hfa : mg "law" = some (.ref fa)) (YT : ∀ P ∈ ts, h.get? P = some { cls := .none, data := .fields #[] })
    {cc12 PP12 : Addr} {cq12 : Value} {dq12 : Option Addr} {vs12 : Array Value} {sq12 : Array (Option Value)}
    {od1 od2 od3 od4 od5 od6 od7 od8 od9 od10 od11 od12 od13 od14 od15 od16 od17 od18 an1 an2 an3 an4 an5 an6 an7 an8 an9 an10 an11 an12 an13 an14 an15 an16 an17 an18 : Option Addr} {sl1 sl2 sl3 sl4 sl5 sl6 sl7 sl8 sl9 sl10 sl11 sl12 sl13 sl14 sl15 sl16 sl17 sl18 : Array (Option Value)} {oc1 oc2 oc3 oc4 oc5 oc6 oc7 oc8 oc9 oc10 oc11 oc12 oc13 oc14 oc15 oc16 oc17 oc18 kV1 kV2 kV3 kV4 kV5 kV6 kV7 kV8 kV9 kV10 kV11 kV12 kV13 kV14 kV15 kV16 kV17 kV18 dc1 dc2 dc3 dc4 dc5 dc6 dc7 dc8 dc9 dc10 dc11 dc12 dc13 dc14 dc15 dc16 dc17 dc18 pm1 pm2 pm3 pm4 pm5 pm6 pm7 pm8 pm9 pm10 pm11 pm12 pm13 pm14 pm15 pm16 pm17 pm18 cd1 cd2 cd3 cd4 cd5 cd6 cd7 cd8 cd9 cd10 cd11 cd13 cd14 cd15 cd16 cd17 cd18 ct1 ct2 ct3 ct4 ct5 ct6 ct7 ct8 ct9 ct10 ct11 ct12 ct13 ct14 ct15 ct16 ct17 ct18 : Value}
    {t_MOST_WORDS : Tok}
    (a1 : PySem.W.nsIn K mainGlobals "_law_cell_at" = some (some (.ref f1))) (l1 : K.lookup f1 = some ⟨oc1, od1, .func (PySem.W.fnOf "_law_cell_at" "_law_cell_at" (defArgs s__law_cell_at) (defBody s__law_cell_at) (defScope s__law_cell_at) .none kV1 dc1 pm1 an1 cd1 ct1), sl1⟩) (c1 : PySem.W.codeIn K cd1 "_law_cell_at" = true) (k1 : PySem.W.keepIn K (.ref f1) = true)
    (a2 : PySem.W.nsIn K mainGlobals "_law_due" = some (some (.ref f2))) (l2 : K.lookup f2 = some ⟨oc2, od2, .func (PySem.W.fnOf "_law_due" "_law_due" (defArgs s__law_due) (defBody s__law_due) (defScope s__law_due) .none kV2 dc2 pm2 an2 cd2 ct2), sl2⟩) (c2 : PySem.W.codeIn K cd2 "_law_due" = true) (k2 : PySem.W.keepIn K (.ref f2) = true)
    (a3 : PySem.W.nsIn K mainGlobals "_law_kind" = some (some (.ref f3))) (l3 : K.lookup f3 = some ⟨oc3, od3, .func (PySem.W.fnOf "_law_kind" "_law_kind" (defArgs s__law_kind) (defBody s__law_kind) (defScope s__law_kind) .none kV3 dc3 pm3 an3 cd3 ct3), sl3⟩) (c3 : PySem.W.codeIn K cd3 "_law_kind" = true) (k3 : PySem.W.keepIn K (.ref f3) = true)
    (a4 : PySem.W.nsIn K mainGlobals "_law_names" = some (some (.ref f4))) (l4 : K.lookup f4 = some ⟨oc4, od4, .func (PySem.W.fnOf "_law_names" "_law_names" (defArgs s__law_names) (defBody s__law_names) (defScope s__law_names) .none kV4 dc4 pm4 an4 cd4 ct4), sl4⟩) (c4 : PySem.W.codeIn K cd4 "_law_names" = true) (k4 : PySem.W.keepIn K (.ref f4) = true)
    (a5 : PySem.W.nsIn K mainGlobals "_law_tables" = some (some (.ref f5))) (l5 : K.lookup f5 = some ⟨oc5, od5, .func (PySem.W.fnOf "_law_tables" "_law_tables" (defArgs s__law_tables) (defBody s__law_tables) (defScope s__law_tables) .none kV5 dc5 pm5 an5 cd5 ct5), sl5⟩) (c5 : PySem.W.codeIn K cd5 "_law_tables" = true) (k5 : PySem.W.keepIn K (.ref f5) = true)
    (a6 : PySem.W.nsIn K mainGlobals "lay" = some (some (.ref f6))) (l6 : K.lookup f6 = some ⟨oc6, od6, .func (PySem.W.fnOf "lay" "lay" (defArgs s_lay) (defBody s_lay) (defScope s_lay) .none kV6 dc6 pm6 an6 cd6 ct6), sl6⟩) (c6 : PySem.W.codeIn K cd6 "lay" = true) (k6 : PySem.W.keepIn K (.ref f6) = true)
    (a7 : PySem.W.nsIn K mainGlobals "put_together" = some (some (.ref f7))) (l7 : K.lookup f7 = some ⟨oc7, od7, .func (PySem.W.fnOf "put_together" "put_together" (defArgs s_put_together) (defBody s_put_together) (defScope s_put_together) .none kV7 dc7 pm7 an7 cd7 ct7), sl7⟩) (c7 : PySem.W.codeIn K cd7 "put_together" = true) (k7 : PySem.W.keepIn K (.ref f7) = true)
    (a8 : PySem.W.nsIn K mainGlobals "deed_behind" = some (some (.ref f8))) (l8 : K.lookup f8 = some ⟨oc8, od8, .func (PySem.W.fnOf "deed_behind" "deed_behind" (defArgs s_deed_behind) (defBody s_deed_behind) (defScope s_deed_behind) .none kV8 dc8 pm8 an8 cd8 ct8), sl8⟩) (c8 : PySem.W.codeIn K cd8 "deed_behind" = true) (k8 : PySem.W.keepIn K (.ref f8) = true)
    (a9 : PySem.W.nsIn K mainGlobals "kind_at" = some (some (.ref f9))) (l9 : K.lookup f9 = some ⟨oc9, od9, .func (PySem.W.fnOf "kind_at" "kind_at" (defArgs s_kind_at) (defBody s_kind_at) (defScope s_kind_at) .none kV9 dc9 pm9 an9 cd9 ct9), sl9⟩) (c9 : PySem.W.codeIn K cd9 "kind_at" = true) (k9 : PySem.W.keepIn K (.ref f9) = true)
    (a10 : PySem.W.nsIn K mainGlobals "take" = some (some (.ref f10))) (l10 : K.lookup f10 = some ⟨oc10, od10, .func (PySem.W.fnOf "take" "take" (defArgs s_take) (defBody s_take) (defScope s_take) .none kV10 dc10 pm10 an10 cd10 ct10), sl10⟩) (c10 : PySem.W.codeIn K cd10 "take" = true) (k10 : PySem.W.keepIn K (.ref f10) = true)
    (a11 : PySem.W.nsIn K mainGlobals "read_row" = some (some (.ref f11))) (l11 : K.lookup f11 = some ⟨oc11, od11, .func (PySem.W.fnOf "read_row" "read_row" (defArgs s_read_row) (defBody s_read_row) (defScope s_read_row) .none kV11 dc11 pm11 an11 cd11 ct11), sl11⟩) (c11 : PySem.W.codeIn K cd11 "read_row" = true) (k11 : PySem.W.keepIn K (.ref f11) = true)
    (a12 : PySem.W.nsIn K mainGlobals "fault_of" = some (some (.ref f12))) (l12 : K.lookup f12 = some ⟨oc12, od12, .func (PySem.W.fnOf "fault_of" "fault_of" (defArgs s_fault_of) (defBody s_fault_of) (defScope s_fault_of) .none kV12 dc12 pm12 an12 (.ref cc12) ct12), sl12⟩) (c12 : PySem.W.codeIn K (.ref cc12) "fault_of" = true) (k12 : PySem.W.keepIn K (.ref f12) = true) (m12 : K.lookup cc12 = some ⟨cq12, dq12, .fields vs12, sq12⟩) (p12 : vs12[11]? = some (.ref PP12)) (q12 : PySem.W.codeHdIn K cc12 PP12 = true) (r12 : K.lookup PP12 = none) (t12 : PP12 ∈ ts)
    (a13 : PySem.W.nsIn K mainGlobals "deed_for" = some (some (.ref f13))) (l13 : K.lookup f13 = some ⟨oc13, od13, .func (PySem.W.fnOf "deed_for" "deed_for" (defArgs s_deed_for) (defBody s_deed_for) (defScope s_deed_for) .none kV13 dc13 pm13 an13 cd13 ct13), sl13⟩) (c13 : PySem.W.codeIn K cd13 "deed_for" = true) (k13 : PySem.W.keepIn K (.ref f13) = true)
    (a14 : PySem.W.nsIn K mainGlobals "reads_on" = some (some (.ref f14))) (l14 : K.lookup f14 = some ⟨oc14, od14, .func (PySem.W.fnOf "reads_on" "reads_on" (defArgs s_reads_on) (defBody s_reads_on) (defScope s_reads_on) .none kV14 dc14 pm14 an14 cd14 ct14), sl14⟩) (c14 : PySem.W.codeIn K cd14 "reads_on" = true) (k14 : PySem.W.keepIn K (.ref f14) = true)
    (a15 : PySem.W.nsIn K mainGlobals "stacks_ahead" = some (some (.ref f15))) (l15 : K.lookup f15 = some ⟨oc15, od15, .func (PySem.W.fnOf "stacks_ahead" "stacks_ahead" (defArgs s_stacks_ahead) (defBody s_stacks_ahead) (defScope s_stacks_ahead) .none kV15 dc15 pm15 an15 cd15 ct15), sl15⟩) (c15 : PySem.W.codeIn K cd15 "stacks_ahead" = true) (k15 : PySem.W.keepIn K (.ref f15) = true)
    (a16 : PySem.W.nsIn K mainGlobals "least_stretch" = some (some (.ref f16))) (l16 : K.lookup f16 = some ⟨oc16, od16, .func (PySem.W.fnOf "least_stretch" "least_stretch" (defArgs s_least_stretch) (defBody s_least_stretch) (defScope s_least_stretch) .none kV16 dc16 pm16 an16 cd16 ct16), sl16⟩) (c16 : PySem.W.codeIn K cd16 "least_stretch" = true) (k16 : PySem.W.keepIn K (.ref f16) = true)
    (a17 : PySem.W.nsIn K mainGlobals "aside_of" = some (some (.ref f17))) (l17 : K.lookup f17 = some ⟨oc17, od17, .func (PySem.W.fnOf "aside_of" "aside_of" (defArgs s_aside_of) (defBody s_aside_of) (defScope s_aside_of) .none kV17 dc17 pm17 an17 cd17 ct17), sl17⟩) (c17 : PySem.W.codeIn K cd17 "aside_of" = true) (k17 : PySem.W.keepIn K (.ref f17) = true)
    (a18 : PySem.W.nsIn K mainGlobals "law" = some (some (.ref f18))) (l18 : K.lookup f18 = some ⟨oc18, od18, .func (PySem.W.fnOf "law" "law" (defArgs s_law) (defBody s_law) (defScope s_law) .none kV18 dc18 pm18 an18 cd18 ct18), sl18⟩) (c18 : PySem.W.codeIn K cd18 "law" = true) (k18 : PySem.W.keepIn K (.ref f18) = true)
    (z1 : PySem.W.nsIn K mainGlobals "bool" = some none)
    (z2 : PySem.W.nsIn K mainGlobals "int" = some none)
    (z3 : PySem.W.nsIn K mainGlobals "isinstance" = some none)
    (z4 : PySem.W.nsIn K mainGlobals "len" = some none)
    (z5 : PySem.W.nsIn K mainGlobals "list" = some none)
    (z6 : PySem.W.nsIn K mainGlobals "min" = some none)
    (z7 : PySem.W.nsIn K mainGlobals "range" = some none)
    (z8 : PySem.W.nsIn K mainGlobals "tuple" = some none)
    (y1 : PySem.W.nsIn K mainGlobals "MOST_WORDS" = some (some (.int 40 t_MOST_WORDS)))
    (hcls : clsChk K cls_ns cls_par = true)
    (hfl_place : noFldB K cls_ns cls_par "place" = true)
    {C_Stuck g_Stuck fI_Stuck : Addr} {nm_Stuck q_Stuck N_Stuck bs_Stuck sn_Stuck sub_Stuck ab_Stuck col_Stuck dd_Stuck m0_Stuck m1_Stuck m2_Stuck m3_Stuck m5_Stuck od_Stuck an_Stuck oc_Stuck kV_Stuck dc_Stuck pm_Stuck cd_Stuck ct_Stuck sl_Stuck : _}
    (aC_Stuck : PySem.W.nsIn K mainGlobals "Stuck" = some (some (.ref C_Stuck))) (xL_Stuck : K.lookup C_Stuck = some (excClassObj nm_Stuck q_Stuck C_Stuck N_Stuck bs_Stuck [.ref g_Stuck, .type "ValueError", .type "Exception", .type "BaseException", .type "object"] true sn_Stuck sub_Stuck ab_Stuck col_Stuck dd_Stuck m0_Stuck m1_Stuck m2_Stuck m3_Stuck m5_Stuck "ValueError.__new__"))
    (sa_Stuck : PySem.W.findIn K (.ref C_Stuck) "__setattr__" = some (some (.builtin "object.__setattr__"))) (kC_Stuck : PySem.W.keepIn K (.ref C_Stuck) = true) (eC_Stuck : PySem.W.subIn K (.ref C_Stuck) (.type "BaseException") = some true) (tC_Stuck : PySem.W.typeIn K (.ref C_Stuck) = some (.type "type"))
    (nf_Stuck_place : PySem.W.findIn K (.ref C_Stuck) "place" = some none)
    (i1_Stuck : PySem.W.findIn K (.ref C_Stuck) "__init__" = some (some (.ref fI_Stuck))) (i2_Stuck : PySem.W.typeIn K (.ref fI_Stuck) = some (.type "function")) (i3_Stuck : K.lookup fI_Stuck = some ⟨oc_Stuck, od_Stuck, .func (PySem.W.fnOf "__init__" "Stuck.__init__" (defArgs s_ini_Stuck) (defBody s_ini_Stuck) (defScope s_ini_Stuck) .none kV_Stuck dc_Stuck pm_Stuck an_Stuck cd_Stuck ct_Stuck), sl_Stuck⟩) (i4_Stuck : PySem.W.codeIn K cd_Stuck "Stuck.__init__" = true) (i5_Stuck : PySem.W.keepIn K (.ref fI_Stuck) = true)
    : LamX.LawAtS l w K (L2.CX l.prog w) 7 63 "_law_script" mg fa h := by
  have e := hfa.symm.trans (PySem.W.mg_of X G a18)
  cases e
  have F1 := fun_mk (st := s__law_cell_at) l1 c1 k1
  have b1 := F1.binds (ps := ["_law_script", "_law_k"]) fun _ _ _ _ _ _ us hl => match us, hl with | [_, _], _ => rfl
  have F2 := fun_mk (st := s__law_due) l2 c2 k2
  have b2 := F2.binds (ps := ["_law_row", "_law_kinds"]) fun _ _ _ _ _ _ us hl => match us, hl with | [_, _], _ => rfl
  have F3 := fun_mk (st := s__law_kind) l3 c3 k3
  have b3 := F3.binds (ps := ["_law_cell", "_law_kinds", "_law_others"]) fun _ _ _ _ _ _ us hl => match us, hl with | [_, _, _], _ => rfl
  have F4 := fun_mk (st := s__law_names) l4 c4 k4
  have b4 := F4.binds (ps := ["_law_base", "_law_place", "_law_many"]) fun _ _ _ _ _ _ us hl => match us, hl with | [_, _, _], _ => rfl
  have F5 := fun_mk (st := s__law_tables) l5 c5 k5
  have b5 := F5.binds (ps := ["_law_sort", "_law_rank", "_law_kinds"]) fun _ _ _ _ _ _ us hl => match us, hl with | [_, _, _], _ => rfl
  have F6 := fun_mk (st := s_lay) l6 c6 k6
  have b6 := F6.binds (ps := ["tables", "states", "spans", "symbol", "words"]) fun _ _ _ _ _ _ us hl => match us, hl with | [_, _, _, _, _], _ => rfl
  have F7 := fun_mk (st := s_put_together) l7 c7 k7
  have b7 := F7.binds (ps := ["tables", "states", "spans", "way", "number"]) fun _ _ _ _ _ _ us hl => match us, hl with | [_, _, _, _, _], _ => rfl
  have F8 := fun_mk (st := s_deed_behind) l8 c8 k8
  have b8 := F8.binds (ps := ["tables", "states", "spans", "way", "kind"]) fun _ _ _ _ _ _ us hl => match us, hl with | [_, _, _, _, _], _ => rfl
  have F9 := fun_mk (st := s_kind_at) l9 c9 k9
  have b9 := F9.binds (ps := ["ask", "many", "at"]) fun _ _ _ _ _ _ us hl => match us, hl with | [_, _, _], _ => rfl
  have F10 := fun_mk (st := s_take) l10 c10 k10
  have b10 := F10.binds (ps := ["tables", "states", "spans", "way", "kind"]) fun _ _ _ _ _ _ us hl => match us, hl with | [_, _, _, _, _], _ => rfl
  have F11 := fun_mk (st := s_read_row) l11 c11 k11
  have b11 := F11.binds (ps := ["tables", "ask", "many"]) fun _ _ _ _ _ _ us hl => match us, hl with | [_, _, _], _ => rfl
  have F12 := fun_mk (st := s_fault_of) l12 c12 k12
  have b12 := F12.binds (ps := ["tables", "kinds"]) fun _ _ _ _ _ _ us hl => match us, hl with | [_, _], _ => rfl
  have F13 := fun_mk (st := s_deed_for) l13 c13 k13
  have b13 := F13.binds (ps := ["tables", "states", "kind"]) fun _ _ _ _ _ _ us hl => match us, hl with | [_, _, _], _ => rfl
  have F14 := fun_mk (st := s_reads_on) l14 c14 k14
  have b14 := F14.binds (ps := ["tables", "stack", "kinds"]) fun _ _ _ _ _ _ us hl => match us, hl with | [_, _, _], _ => rfl
  have F15 := fun_mk (st := s_stacks_ahead) l15 c15 k15
  have b15 := F15.binds (ps := ["tables", "kinds", "fault"]) fun _ _ _ _ _ _ us hl => match us, hl with | [_, _, _], _ => rfl
  have F16 := fun_mk (st := s_least_stretch) l16 c16 k16
  have b16 := F16.binds (ps := ["tables", "kinds", "fault"]) fun _ _ _ _ _ _ us hl => match us, hl with | [_, _, _], _ => rfl
  have F17 := fun_mk (st := s_aside_of) l17 c17 k17
  have b17 := F17.binds (ps := ["tables", "kinds"]) fun _ _ _ _ _ _ us hl => match us, hl with | [_, _], _ => rfl
  have F18 := fun_mk (st := s_law) l18 c18 k18
  letI : VL.Tabs := ⟨[(PP12, nm_fault_of)], lamT, w, clsOf K cls_ns⟩
  have memC : ∀ p : Addr × Addr, p ∈ [(cc12, PP12)] → p ∈ [(cc12, PP12)] := fun _ h => h
  refine ⟨PySem.W.fnOf "law" "law" (defArgs s_law) (defBody s_law) (defScope s_law) .none kV18 dc18 pm18 an18 cd18 ct18, [(cc12, PP12)], spV K 1 sp_law, (List.forall_mem_cons.mpr ⟨YT _ t12, fun _ h => nomatch h⟩), (List.forall_mem_cons.mpr ⟨r12, fun _ h => nomatch h⟩), (List.forall_mem_cons.mpr ⟨PySem.W.codeHd_of_K X q12, fun _ h => nomatch h⟩), fun s v => .of_eq rfl, fun H a ns hl _ hH hS => VL.law_start (List.forall_mem_cons.mpr ⟨NdefX.TabN.nil (hH (cc12, PP12) (by simp)), fun _ h => nomatch h⟩) hS fun Q Qe hq => ⟨ns, hl, rfl, rfl, hq⟩, fun base KB NB TBs => ?_⟩
  have FI_Stuck := fun_mk (st := s_ini_Stuck) i3_Stuck i4_Stuck i5_Stuck
  have bI_Stuck := FI_Stuck.binds (ps := ["self", "place"]) fun _ _ _ _ _ _ us hl => match us, hl with | [_, _], _ => rfl
  have eC_Stuck' := cls_same hcls 2 (x := "Stuck") (by decide) (by decide) rfl aC_Stuck
  have okI_Stuck := ini1 (P := l.prog) (w := w) (mg := mg) (base := base) FI_Stuck sc_ini_Stuck rfl (fun _ _ _ _ => rfl) (by decide) (by decide) vis_ini_Stuck
  have xi_Stuck : XiF K mg 2 "Stuck" ["place"] fI_Stuck := ⟨xg_of X G hcls 2 "Stuck" (by decide) (by decide) rfl, (by show OexC K (clsOf K cls_ns 2); rw [eC_Stuck']; exact ⟨⟨_, _, _, _, _, _, _, _, _, _, _, _, _, _, _, xL_Stuck, rfl⟩, sa_Stuck, eC_Stuck, tC_Stuck, kC_Stuck⟩), (by show ∀ f ∈ (["place"] : List Str), PySem.W.findIn K (.ref (clsOf K cls_ns 2)) f = some none; rw [eC_Stuck']; exact List.forall_mem_cons.mpr ⟨nf_Stuck_place, fun _ h => (nomatch h)⟩), (by show PySem.W.findIn K (.ref (clsOf K cls_ns 2)) "__init__" = _; rw [eC_Stuck']; exact i1_Stuck), i2_Stuck⟩
  have tn_ask : T_ask l.prog w K mg base := { dummy := () }
  have ok1 := ok__law_cell_at (P := l.prog) (w := w) (mg := mg) (base := base) F1 { n_len := PySem.W.mg_none_of X G z4 }
  have ok2 := ok__law_due (P := l.prog) (w := w) (mg := mg) (base := base) F2 { n_len := PySem.W.mg_none_of X G z4 }
  have ok3 := ok__law_kind (P := l.prog) (w := w) (mg := mg) (base := base) F3 { n_len := PySem.W.mg_none_of X G z4 }
  have ok4 := ok__law_names (P := l.prog) (w := w) (mg := mg) (base := base) F4 { n_int := PySem.W.mg_none_of X G z2, n_len := PySem.W.mg_none_of X G z4, n_range := PySem.W.mg_none_of X G z7 }
  have ok5 := ok__law_tables (P := l.prog) (w := w) (mg := mg) (base := base) F5 { wt := rfl, n_len := PySem.W.mg_none_of X G z4, n_range := PySem.W.mg_none_of X G z7 }
  have ok6 := ok_lay (P := l.prog) (w := w) (mg := mg) (base := base) F6 { wt := rfl }
  have ok7 := ok_put_together (P := l.prog) (w := w) (mg := mg) (base := base) F7 { f_lay := f6, d_lay := _, g_lay := PySem.W.mg_of X G a6, F_lay := F6, b_lay := b6, ok_lay := ok6 }
  have ok8 := ok_deed_behind (P := l.prog) (w := w) (mg := mg) (base := base) F8 { wt := rfl, f_put_together := f7, d_put_together := _, g_put_together := PySem.W.mg_of X G a7, F_put_together := F7, b_put_together := b7, ok_put_together := ok7 }
  have ok9 := ok_kind_at (P := l.prog) (w := w) (mg := mg) (base := base) F9 { clo := clo_cons (nth_def (rfl) ⟨_, _, _, defBody s_fault_of, a12, l12, rfl, rfl, rfl⟩) (by decide) (fun f name qual cl c => gok_nok (nok_ask tn_ask f name qual cl c)) (clo_nil) }
  have ok10 := ok_take (P := l.prog) (w := w) (mg := mg) (base := base) F10 { f_lay := f6, d_lay := _, g_lay := PySem.W.mg_of X G a6, F_lay := F6, b_lay := b6, ok_lay := ok6 }
  have ok11 := ok_read_row (P := l.prog) (w := w) (mg := mg) (base := base) F11 { x_Stuck := xi_Stuck, okI_Stuck := okI_Stuck, bI_Stuck := bI_Stuck, f_deed_behind := f8, d_deed_behind := _, g_deed_behind := PySem.W.mg_of X G a8, F_deed_behind := F8, b_deed_behind := b8, ok_deed_behind := ok8, f_kind_at := f9, d_kind_at := _, g_kind_at := PySem.W.mg_of X G a9, F_kind_at := F9, b_kind_at := b9, ok_kind_at := ok9, f_take := f10, d_take := _, g_take := PySem.W.mg_of X G a10, F_take := F10, b_take := b10, ok_take := ok10 }
  have ok12 := ok_fault_of (P := l.prog) (w := w) (mg := mg) (base := base) F12 { xcs := xcs_of hcls, fl_place := noFld_of hfl_place, xg_Stuck := xg_of X G hcls 2 "Stuck" (by decide) (by decide) rfl, n_len := PySem.W.mg_none_of X G z4, f_read_row := f11, d_read_row := _, g_read_row := PySem.W.mg_of X G a11, F_read_row := F11, b_read_row := b11, ok_read_row := ok11, cc := cc12, PP := PP12, tb := TBs (cc12, PP12) (by simp), tm := (by show (PP12, nm_fault_of) ∈ [(PP12, nm_fault_of)]; simp), tu := List.forall_mem_cons.mpr ⟨fun _ => rfl, fun _ h => nomatch h⟩, nth_ask := (nth_def (rfl) ⟨_, _, _, defBody s_fault_of, a12, l12, rfl, rfl, rfl⟩) } (fun o fd' h1 h2 => by rw [l12] at h1; cases h1; cases h2; rfl)
  have ok13 := ok_deed_for (P := l.prog) (w := w) (mg := mg) (base := base) F13 { wt := rfl }
  have ok14 := ok_reads_on (P := l.prog) (w := w) (mg := mg) (base := base) F14 { n_list := PySem.W.mg_none_of X G z5, f_deed_for := f13, d_deed_for := _, g_deed_for := PySem.W.mg_of X G a13, F_deed_for := F13, b_deed_for := b13, ok_deed_for := ok13 }
  have ok15 := ok_stacks_ahead (P := l.prog) (w := w) (mg := mg) (base := base) F15 { n_list := PySem.W.mg_none_of X G z5, f_deed_for := f13, d_deed_for := _, g_deed_for := PySem.W.mg_of X G a13, F_deed_for := F13, b_deed_for := b13, ok_deed_for := ok13 }
  have ok16 := ok_least_stretch (P := l.prog) (w := w) (mg := mg) (base := base) F16 { n_len := PySem.W.mg_none_of X G z4, n_min := PySem.W.mg_none_of X G z6, n_range := PySem.W.mg_none_of X G z7, f_reads_on := f14, d_reads_on := _, g_reads_on := PySem.W.mg_of X G a14, F_reads_on := F14, b_reads_on := b14, ok_reads_on := ok14, f_stacks_ahead := f15, d_stacks_ahead := _, g_stacks_ahead := PySem.W.mg_of X G a15, F_stacks_ahead := F15, b_stacks_ahead := b15, ok_stacks_ahead := ok15 }
  have ok17 := ok_aside_of (P := l.prog) (w := w) (mg := mg) (base := base) F17 { c_MOST_WORDS := PySem.W.mg_of X G y1, n_len := PySem.W.mg_none_of X G z4, f_fault_of := f12, d_fault_of := _, g_fault_of := PySem.W.mg_of X G a12, F_fault_of := F12, b_fault_of := b12, ok_fault_of := ok12, f_least_stretch := f16, d_least_stretch := _, g_least_stretch := PySem.W.mg_of X G a16, F_least_stretch := F16, b_least_stretch := b16, ok_least_stretch := ok16 }
  have ok18 := ok_law (P := l.prog) (w := w) (mg := mg) (base := base) F18 { wt := rfl, n_bool := PySem.W.mg_none_of X G z1, n_int := PySem.W.mg_none_of X G z2, n_isinstance := PySem.W.mg_none_of X G z3, n_len := PySem.W.mg_none_of X G z4, n_list := PySem.W.mg_none_of X G z5, n_range := PySem.W.mg_none_of X G z7, n_tuple := PySem.W.mg_none_of X G z8, f__law_cell_at := f1, d__law_cell_at := _, g__law_cell_at := PySem.W.mg_of X G a1, F__law_cell_at := F1, b__law_cell_at := b1, ok__law_cell_at := ok1, f__law_due := f2, d__law_due := _, g__law_due := PySem.W.mg_of X G a2, F__law_due := F2, b__law_due := b2, ok__law_due := ok2, f__law_kind := f3, d__law_kind := _, g__law_kind := PySem.W.mg_of X G a3, F__law_kind := F3, b__law_kind := b3, ok__law_kind := ok3, f__law_names := f4, d__law_names := _, g__law_names := PySem.W.mg_of X G a4, F__law_names := F4, b__law_names := b4, ok__law_names := ok4, f__law_tables := f5, d__law_tables := _, g__law_tables := PySem.W.mg_of X G a5, F__law_tables := F5, b__law_tables := b5, ok__law_tables := ok5, f_aside_of := f17, d_aside_of := _, g_aside_of := PySem.W.mg_of X G a17, F_aside_of := F17, b_aside_of := b17, ok_aside_of := ok17 }
  exact ok18
end LW
open PySem PySem.W PyProof.Rows
set_option maxHeartbeats 0 in
theorem PySem.Challenge.cw_regrowth_k50_single_words_aside_holds : PySem.Challenge.rw_regrowth_k50_single_words_aside.Holds := by
  w_on; o_law; k_head; (case hw => w_witness2)
  k_fill
  refine LamX.walk_ofTs (l := PySem.Challenge.rw_regrowth_k50_single_words_aside) (n := 63) (k := 7) (x := "_law_script") (CX := fun w => L2.CX PySem.Challenge.rw_regrowth_k50_single_words_aside.prog w) rfl (by decide) rfl ⟨rfl, by decide, by decide⟩ (fun w h Y => PySem.W.km_in_of Y) ?F (fun _ _ _ _ _ h => VL.cx_no h)
  case F =>
    intro w mg fa h Y KX G hmg
    refine' LW.all_mk (l := PySem.Challenge.rw_regrowth_k50_single_words_aside) KX G hmg (PySem.W.km_tabs_of Y) ?a1 ?l1 ?c1 ?k1 ?a2 ?l2 ?c2 ?k2 ?a3 ?l3 ?c3 ?k3 ?a4 ?l4 ?c4 ?k4 ?a5 ?l5 ?c5 ?k5 ?a6 ?l6 ?c6 ?k6 ?a7 ?l7 ?c7 ?k7 ?a8 ?l8 ?c8 ?k8 ?a9 ?l9 ?c9 ?k9 ?a10 ?l10 ?c10 ?k10 ?a11 ?l11 ?c11 ?k11 ?a12 ?l12 ?c12 ?k12 ?m12 ?p12 ?q12 ?r12 ?t12 ?a13 ?l13 ?c13 ?k13 ?a14 ?l14 ?c14 ?k14 ?a15 ?l15 ?c15 ?k15 ?a16 ?l16 ?c16 ?k16 ?a17 ?l17 ?c17 ?k17 ?a18 ?l18 ?c18 ?k18 ?z1 ?z2 ?z3 ?z4 ?z5 ?z6 ?z7 ?z8 ?y1 ?hcls ?hfl_place ?aC_Stuck ?xL_Stuck ?sa_Stuck ?kC_Stuck ?eC_Stuck ?tC_Stuck ?nf_Stuck_place ?i1_Stuck ?i2_Stuck ?i3_Stuck ?i4_Stuck ?i5_Stuck
    (case a1 => k_is); (case l1 => k_is); (case c1 => k_is); (case k1 => k_is); (case a2 => k_is); (case l2 => k_is); (case c2 => k_is); (case k2 => k_is); (case a3 => k_is); (case l3 => k_is); (case c3 => k_is); (case k3 => k_is); (case a4 => k_is); (case l4 => k_is); (case c4 => k_is); (case k4 => k_is); (case a5 => k_is); (case l5 => k_is); (case c5 => k_is); (case k5 => k_is); (case a6 => k_is); (case l6 => k_is); (case c6 => k_is); (case k6 => k_is); (case a7 => k_is); (case l7 => k_is); (case c7 => k_is); (case k7 => k_is); (case a8 => k_is); (case l8 => k_is); (case c8 => k_is); (case k8 => k_is); (case a9 => k_is); (case l9 => k_is); (case c9 => k_is); (case k9 => k_is); (case a10 => k_is); (case l10 => k_is); (case c10 => k_is); (case k10 => k_is); (case a11 => k_is); (case l11 => k_is); (case c11 => k_is); (case k11 => k_is); (case a12 => k_is); (case l12 => k_is); (case c12 => k_is); (case k12 => k_is); (case m12 => k_is); (case a13 => k_is); (case l13 => k_is); (case c13 => k_is); (case k13 => k_is); (case a14 => k_is); (case l14 => k_is); (case c14 => k_is); (case k14 => k_is); (case a15 => k_is); (case l15 => k_is); (case c15 => k_is); (case k15 => k_is); (case a16 => k_is); (case l16 => k_is); (case c16 => k_is); (case k16 => k_is); (case a17 => k_is); (case l17 => k_is); (case c17 => k_is); (case k17 => k_is); (case a18 => k_is); (case l18 => k_is); (case c18 => k_is); (case k18 => k_is); (case z1 => k_is); (case z2 => k_is); (case z3 => k_is); (case z4 => k_is); (case z5 => k_is); (case z6 => k_is); (case z7 => k_is); (case z8 => k_is); (case y1 => k_is)
    (case hcls => kernel_rfl)
    (case hfl_place => kernel_rfl)
    (case aC_Stuck => k_is)
    (case xL_Stuck => k_is)
    (case sa_Stuck => k_is)
    (case kC_Stuck => k_is)
    (case eC_Stuck => k_is)
    (case tC_Stuck => k_is)
    (case nf_Stuck_place => k_is)
    (case i1_Stuck => k_is)
    (case i2_Stuck => k_is)
    (case i3_Stuck => k_is)
    (case i4_Stuck => k_is)
    (case i5_Stuck => k_is)
    (case p12 => rfl); (case q12 => kernel_rfl); (case r12 => kernel_rfl); (case t12 => decide)
