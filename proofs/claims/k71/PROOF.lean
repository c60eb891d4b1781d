import PyProof.Rows.All
import Wide.All
import OpenK.AllK
import Wide.FinOn
import HandS.ForMost
import HandS.Exc
import HandS.TryOnly
import HandS.ExcOwn
import HandS.WordsExc
import HandS.IsInst
import HandS.Style
import HandS.Zip
import HandS.Strs
import HandS.More
import KE.DataEq
import KE.Datum
import PySem.Challenge.RW_regrowth_k71_binders_seen
set_option Elab.async false
set_option linter.all false
set_option maxRecDepth 100000
/-! The value layer: what the slots of a frame hold, as trees; the containers that a frame alone holds; what is frozen. -/
namespace VL
open PySem PySem.Spec PyProof.Rows L2

/-- a value as a tree; raw: an object as it is; gh: the k-th shared container; kt, kl: a tuple, a list that is read alone (the module's, the script) -/
inductive D where
  | non | bl (b : Bool) | int (i : Int) | str (x : Str) | raw (v : V) | gh (k : Nat)
  | tup (ds : List D) | lst (ds : List D) | kt (ds : List D) | kl (ds : List D) | dK (kvs : List (Key × D)) | dT (kvs : List (List Key × D))

mutual
inductive Rep (K : PySem.W.Frag) (γ : List Addr) (G : Hp) : V → D → Prop
  | non : Rep K γ G .non .non
  | bl (b : Bool) : Rep K γ G (.bl b) (.bl b)
  | int (i : Int) : Rep K γ G (.int i) (.int i)
  | str (x : Str) : Rep K γ G (.str x) (.str x)
  | raw (v : V) : Rep K γ G v (.raw v)
  | gh {k : Nat} {a : Addr} : γ[k]? = some a → Rep K γ G (.ref a) (.gh k)
  | tup {a : Addr} {xs : List V} {ds : List D} : G a = some (.tup xs) → RepL K γ G xs ds → Rep K γ G (.ref a) (.tup ds)
  | lst {a : Addr} {xs : List V} {ds : List D} : G a = some (.lst xs) → RepL K γ G xs ds → Rep K γ G (.ref a) (.lst ds)
  | kt {a : Addr} {xs : List V} {ds : List D} : SqT K G a xs → RepL K γ G xs ds → Rep K γ G (.ref a) (.kt ds)
  | kl {a : Addr} {xs : List V} {ds : List D} : SqL K G a xs → RepL K γ G xs ds → Rep K γ G (.ref a) (.kl ds)
  | dK {a : Addr} {kvs : List (Key × V)} {es : List (Key × D)} : G a = some (.dK kvs) → kvs.map (·.1) = es.map (·.1) → RepL K γ G (kvs.map (·.2)) (es.map (·.2)) → Rep K γ G (.ref a) (.dK es)
  | dT {a : Addr} {kvs : List (List Key × V)} {es : List (List Key × D)} : G a = some (.dT kvs) → kvs.map (·.1) = es.map (·.1) → RepL K γ G (kvs.map (·.2)) (es.map (·.2)) → Rep K γ G (.ref a) (.dT es)
inductive RepL (K : PySem.W.Frag) (γ : List Addr) (G : Hp) : List V → List D → Prop
  | nil : RepL K γ G [] []
  | cons {v : V} {vs : List V} {d : D} {ds : List D} : Rep K γ G v d → RepL K γ G vs ds → RepL K γ G (v :: vs) (d :: ds)
end

/-- the content of a container that is not frozen -/
inductive ORep (K : PySem.W.Frag) (γ : List Addr) (G : Hp) : HO → D → Prop
  | lst {xs : List V} {ds : List D} : RepL K γ G xs ds → ORep K γ G (.lst xs) (.lst ds)
  | dK {kvs : List (Key × V)} {es : List (Key × D)} : kvs.map (·.1) = es.map (·.1) → RepL K γ G (kvs.map (·.2)) (es.map (·.2)) → ORep K γ G (.dK kvs) (.dK es)
  | dT {kvs : List (List Key × V)} {es : List (List Key × D)} : kvs.map (·.1) = es.map (·.1) → RepL K γ G (kvs.map (·.2)) (es.map (·.2)) → ORep K γ G (.dT kvs) (.dT es)

def Ext (G G' : Hp) : Prop := ∀ a o, G a = some o → G' a = some o
def Pre (γ γ' : List Addr) : Prop := ∃ more, γ' = γ ++ more
theorem Ext.refl (G : Hp) : Ext G G := fun _ _ h => h
theorem Ext.trans {G G1 G2 : Hp} (a : Ext G G1) (b : Ext G1 G2) : Ext G G2 := fun x o h => b x o (a x o h)
theorem Pre.refl (γ : List Addr) : Pre γ γ := ⟨[], by simp⟩
theorem Pre.trans {γ γ1 γ2 : List Addr} (a : Pre γ γ1) (b : Pre γ1 γ2) : Pre γ γ2 := by
  obtain ⟨m, rfl⟩ := a
  obtain ⟨n, rfl⟩ := b
  exact ⟨m ++ n, by simp⟩
theorem Pre.get {γ γ' : List Addr} (p : Pre γ γ') {k : Nat} {a : Addr} (h : γ[k]? = some a) : γ'[k]? = some a := by
  obtain ⟨m, rfl⟩ := p
  rw [List.getElem?_append_left (List.getElem?_eq_some_iff.mp h).1]
  exact h
theorem Pre.mem {γ γ' : List Addr} (p : Pre γ γ') {a : Addr} (h : a ∈ γ) : a ∈ γ' := by
  obtain ⟨m, rfl⟩ := p
  exact List.mem_append_left _ h

theorem sqL_ext {K : PySem.W.Frag} {G G' : Hp} (e : Ext G G') {a : Addr} {xs : List V} (h : SqL K G a xs) : SqL K G' a xs := by
  rcases h with (h | ⟨o, h⟩) | h
  · exact .inl (.inl (e _ _ h))
  · exact .inl (.inr ⟨o, e _ _ h⟩)
  · exact .inr h
theorem sqT_ext {K : PySem.W.Frag} {G G' : Hp} (e : Ext G G') {a : Addr} {xs : List V} (h : SqT K G a xs) : SqT K G' a xs := by
  rcases h with (h | ⟨o, h⟩) | h
  · exact .inl (.inl (e _ _ h))
  · exact .inl (.inr ⟨o, e _ _ h⟩)
  · exact .inr h

section
variable {K : PySem.W.Frag} {γ γ' : List Addr} {G G' : Hp}
mutual
theorem Rep.mono (p : Pre γ γ') (e : Ext G G') : ∀ {v : V} {d : D}, Rep K γ G v d → Rep K γ' G' v d
  | _, _, .non => .non
  | _, _, .bl b => .bl b
  | _, _, .int i => .int i
  | _, _, .str x => .str x
  | _, _, .raw v => .raw v
  | _, _, .gh h => .gh (p.get h)
  | _, _, .tup h r => .tup (e _ _ h) (RepL.mono p e r)
  | _, _, .lst h r => .lst (e _ _ h) (RepL.mono p e r)
  | _, _, .kt h r => .kt (sqT_ext e h) (RepL.mono p e r)
  | _, _, .kl h r => .kl (sqL_ext e h) (RepL.mono p e r)
  | _, _, .dK h k r => .dK (e _ _ h) k (RepL.mono p e r)
  | _, _, .dT h k r => .dT (e _ _ h) k (RepL.mono p e r)
theorem RepL.mono (p : Pre γ γ') (e : Ext G G') : ∀ {vs : List V} {ds : List D}, RepL K γ G vs ds → RepL K γ' G' vs ds
  | _, _, .nil => .nil
  | _, _, .cons h r => .cons (Rep.mono p e h) (RepL.mono p e r)
end
theorem ORep.mono (p : Pre γ γ') (e : Ext G G') {o : HO} {d : D} (h : ORep K γ G o d) : ORep K γ' G' o d := by
  cases h with
  | lst r => exact .lst (r.mono p e)
  | dK k r => exact .dK k (r.mono p e)
  | dT k r => exact .dT k (r.mono p e)
theorem Rep.ofO {a : Addr} {o : HO} {d : D} (h : G a = some o) (r : ORep K γ G o d) : Rep K γ G (.ref a) d := by
  cases r with
  | lst r => exact .lst h r
  | dK k r => exact .dK h k r
  | dT k r => exact .dT h k r
theorem RepL.length : ∀ {vs : List V} {ds : List D}, RepL K γ G vs ds → vs.length = ds.length
  | _, _, .nil => rfl
  | _, _, .cons _ r => by rw [List.length_cons, List.length_cons, RepL.length r]
theorem RepL.get : ∀ {vs : List V} {ds : List D} {i : Nat} {d : D}, RepL K γ G vs ds → ds[i]? = some d → ∃ v, vs[i]? = some v ∧ Rep K γ G v d
  | _, _, _, _, .nil, e => by simp at e
  | _, _, 0, _, .cons h _, e => by simp at e; subst e; exact ⟨_, rfl, h⟩
  | _, _, i + 1, d, .cons _ r, e => by
    obtain ⟨v, e1, h⟩ := RepL.get (i := i) r (by simpa using e)
    exact ⟨v, by simpa using e1, h⟩
theorem RepL.get' : ∀ {vs : List V} {ds : List D} {i : Nat} {v : V}, RepL K γ G vs ds → vs[i]? = some v → ∃ d, ds[i]? = some d ∧ Rep K γ G v d
  | _, _, _, _, .nil, e => by simp at e
  | _, _, 0, _, .cons h _, e => by simp at e; subst e; exact ⟨_, rfl, h⟩
  | _, _, i + 1, d, .cons _ r, e => by
    obtain ⟨v, e1, h⟩ := RepL.get' (i := i) r (by simpa using e)
    exact ⟨v, by simpa using e1, h⟩
theorem RepL.append : ∀ {vs ws : List V} {ds es : List D}, RepL K γ G vs ds → RepL K γ G ws es → RepL K γ G (vs ++ ws) (ds ++ es)
  | _, _, _, _, .nil, s => s
  | _, _, _, _, .cons h r, s => .cons h (RepL.append r s)
theorem RepL.take : ∀ {vs : List V} {ds : List D} (n : Nat), RepL K γ G vs ds → RepL K γ G (vs.take n) (ds.take n)
  | _, _, 0, _ => by simpa using RepL.nil
  | _, _, _ + 1, .nil => by simpa using RepL.nil
  | _, _, n + 1, .cons h r => by simpa using RepL.cons h (RepL.take n r)
theorem RepL.drop : ∀ {vs : List V} {ds : List D} (n : Nat), RepL K γ G vs ds → RepL K γ G (vs.drop n) (ds.drop n)
  | _, _, 0, r => by simpa using r
  | _, _, _ + 1, .nil => by simpa using RepL.nil
  | _, _, n + 1, .cons h r => by simpa using RepL.drop n r
theorem RepL.set : ∀ {vs : List V} {ds : List D} (i : Nat) {v : V} {d : D}, Rep K γ G v d → RepL K γ G vs ds → RepL K γ G (vs.set i v) (ds.set i d)
  | _, _, _, _, _, _, .nil => by simpa using RepL.nil
  | _, _, 0, _, _, q, .cons _ r => by simpa using RepL.cons q r
  | _, _, i + 1, _, _, q, .cons h r => by simpa using RepL.cons h (RepL.set i q r)
theorem RepL.reverse {vs : List V} {ds : List D} (h : RepL K γ G vs ds) : RepL K γ G vs.reverse ds.reverse := by
  induction vs generalizing ds with
  | nil => cases h; simpa using RepL.nil
  | cons v vs ih =>
    cases h with
    | cons a r => simpa using RepL.append (ih r) (.cons a .nil)
theorem RepL.dropLast {vs : List V} {ds : List D} (h : RepL K γ G vs ds) : RepL K γ G vs.dropLast ds.dropLast := by
  rw [List.dropLast_eq_take, List.dropLast_eq_take, h.length]
  exact h.take _
theorem RepL.eraseIdx : ∀ {vs : List V} {ds : List D} (i : Nat), RepL K γ G vs ds → RepL K γ G (vs.eraseIdx i) (ds.eraseIdx i)
  | _, _, _, .nil => by simpa using RepL.nil
  | _, _, 0, .cons _ r => by simpa using r
  | _, _, i + 1, .cons h r => by simpa using RepL.cons h (RepL.eraseIdx i r)
theorem RepL.flat : ∀ {vss : List (List V)} {dss : List (List D)}, List.length vss = List.length dss → (∀ (i : Nat) (vs : List V) (ds : List D), vss[i]? = some vs → dss[i]? = some ds → RepL K γ G vs ds) → RepL K γ G vss.flatten dss.flatten
  | [], [], _, _ => by simpa using RepL.nil
  | [], _ :: _, e, _ => by simp at e
  | _ :: _, [], e, _ => by simp at e
  | vs :: vss, ds :: dss, e, h => by
    rw [List.flatten_cons, List.flatten_cons]
    exact RepL.append (h 0 vs ds rfl rfl) (RepL.flat (by simpa using e) fun i vs ds h1 h2 => h (i + 1) vs ds (by simpa using h1) (by simpa using h2))
end

/-! ### the state -/
/-- what a slot holds: nothing known; a value; a container that this slot alone holds -/
inductive Sl where
  | no | val (d : D) | own (d : D)
/-- the slots, the shared containers -/
structure M where
  env : List Sl
  gs : List D
/-- the concrete side: what is frozen, all, the shared containers' addresses, the slots -/
structure Wd where
  G : Hp
  H : Hp
  γ : List Addr
  σ : L2.St

structure SOk (K : PySem.W.Frag) (w : Wd) (m : M) : Prop where
  sub : Ext w.G w.H
  len : m.env.length = w.σ.length
  val : ∀ (i : Nat) d, m.env[i]? = some (.val d) → ∃ v, w.σ[i]? = some (some v) ∧ Rep K w.γ w.G v d
  own : ∀ (i : Nat) d, m.env[i]? = some (.own d) → ∃ a o, w.σ[i]? = some (some (.ref a)) ∧ w.G a = none ∧ a ∉ w.γ ∧ w.H a = some o ∧ ORep K w.γ w.G o d
  inj : ∀ (i j : Nat) d e a, m.env[i]? = some (.own d) → m.env[j]? = some (.own e) → w.σ[i]? = some (some (.ref a)) → w.σ[j]? = some (some (.ref a)) → i = j
  gl : m.gs.length = w.γ.length
  gh : ∀ (k : Nat) a d, w.γ[k]? = some a → m.gs[k]? = some d → w.G a = none ∧ ∃ o, w.H a = some o ∧ ORep K w.γ w.G o d
  gnd : w.γ.Nodup

def Own (w : Wd) (m : M) (a : Addr) : Prop := a ∈ w.γ ∨ ∃ (i : Nat) (d : D), m.env[i]? = some (.own d) ∧ w.σ[i]? = some (some (.ref a))

structure Step (w : Wd) (O : Addr → Prop) (w' : Wd) (O' : Addr → Prop) : Prop where
  gg : Ext w.G w'.G
  fr : ∀ a o, w.H a = some o → ¬ O a → w'.H a = some o
  gn : ∀ a o, w'.G a = some o → w.G a = some o ∨ O a ∨ w.H a = none
  on : ∀ a, O' a → O a ∨ w.H a = none
  al : ∀ a o, w.H a = some o → ∃ o', w'.H a = some o'
  gp : Pre w.γ w'.γ

theorem Step.refl (w : Wd) (O : Addr → Prop) : Step w O w O := ⟨Ext.refl _, fun _ _ h _ => h, fun _ _ h => .inl h, fun _ h => .inl h, fun _ o h => ⟨o, h⟩, Pre.refl _⟩
theorem none_or {α : Type} (x : Option α) : x = none ∨ ∃ o, x = some o := by cases x with | none => exact .inl rfl | some o => exact .inr ⟨o, rfl⟩
theorem Step.back {w w' : Wd} {O O' : Addr → Prop} (s : Step w O w' O') {a : Addr} (h : w'.H a = none) : w.H a = none := by
  rcases none_or (w.H a) with e | ⟨o, e⟩
  · exact e
  · obtain ⟨o', e'⟩ := s.al a o e
    rw [h] at e'; cases e'
theorem Step.trans {w w1 w2 : Wd} {O O1 O2 : Addr → Prop} (a : Step w O w1 O1) (b : Step w1 O1 w2 O2) : Step w O w2 O2 where
  gg := a.gg.trans b.gg
  fr := fun x o h n => b.fr x o (a.fr x o h n) fun z => (a.on x z).elim n fun e => by rw [h] at e; cases e
  gn := fun x o h => by
    rcases b.gn x o h with h | h | h
    · exact a.gn x o h
    · exact .inr (a.on x h)
    · exact .inr (.inr (a.back h))
  on := fun x h => by
    rcases b.on x h with h | h
    · exact a.on x h
    · exact .inr (a.back h)
  al := fun x o h => by
    obtain ⟨o1, h1⟩ := a.al x o h
    exact b.al x o1 h1
  gp := a.gp.trans b.gp
theorem Step.weak {w w' : Wd} {O O' O2 : Addr → Prop} (s : Step w O w' O') (h : ∀ a, O2 a → O' a ∨ w'.H a = none) : Step w O w' O2 :=
  ⟨s.gg, s.fr, s.gn, fun a q => (h a q).elim (s.on a) fun z => .inr (s.back z), s.al, s.gp⟩

/-- what an expression gives: a frozen value; a new container that nobody else holds; what the i-th slot holds -/
inductive Ret where
  | fz (d : D) | tmp (d : D) | sl (i : Nat)

def RetOk (K : PySem.W.Frag) (H0 : Hp) (w : Wd) (m : M) (v : V) : Ret → Prop
  | .fz d => Rep K w.γ w.G v d
  | .tmp d => ∃ p o, v = .ref p ∧ H0 p = none ∧ w.G p = none ∧ ¬ Own w m p ∧ w.H p = some o ∧ ORep K w.γ w.G o d
  | .sl i => w.σ[i]? = some (some v)

theorem RetOk.step {K : PySem.W.Frag} {H0 : Hp} {w w' : Wd} {m m' : M} {v : V} {r : Ret} (h : RetOk K H0 w m v r) (s : Step w (Own w m) w' (Own w' m')) (e : w'.σ = w.σ) : RetOk K H0 w' m' v r := by
  cases r with
  | fz d => exact Rep.mono s.gp s.gg h
  | tmp d =>
    obtain ⟨p, o, rfl, h1, h2, h3, h4, h5⟩ := h
    refine ⟨p, o, rfl, h1, ?_, ?_, s.fr _ _ h4 h3, h5.mono s.gp s.gg⟩
    · rcases none_or (w'.G p) with e | ⟨u, e⟩
      · exact e
      · rcases s.gn p u e with z | z | z
        · rw [h2] at z; cases z
        · exact absurd z h3
        · rw [h4] at z; cases z
    · intro z
      rcases s.on p z with z | z
      · exact h3 z
      · rw [h4] at z; cases z
  | sl i => show w'.σ[i]? = some (some v); rw [e]; exact h
theorem RetOk.from {K : PySem.W.Frag} {H0 H1 : Hp} {w : Wd} {m : M} {v : V} {r : Ret} (h : RetOk K H1 w m v r) (b : ∀ a, H1 a = none → H0 a = none) : RetOk K H0 w m v r := by
  cases r with
  | fz d => exact h
  | tmp d =>
    obtain ⟨p, o, rfl, h1, h2, h3, h4, h5⟩ := h
    exact ⟨p, o, rfl, b _ h1, h2, h3, h4, h5⟩
  | sl i => exact h

/-- what is seen of a value -/
def Vw (K : PySem.W.Frag) (w : Wd) (v : V) : D → Prop
  | .non => v = .non
  | .bl b => v = .bl b
  | .int i => v = .int i
  | .str x => v = .str x
  | .raw u => v = u
  | .gh k => ∃ a, v = .ref a ∧ w.γ[k]? = some a
  | .tup ds => ∃ a xs, v = .ref a ∧ w.G a = some (.tup xs) ∧ RepL K w.γ w.G xs ds
  | .lst ds => ∃ a xs, v = .ref a ∧ w.H a = some (.lst xs) ∧ RepL K w.γ w.G xs ds
  | .kt ds => ∃ a xs, v = .ref a ∧ SqT K w.G a xs ∧ RepL K w.γ w.G xs ds
  | .kl ds => ∃ a xs, v = .ref a ∧ SqL K w.G a xs ∧ RepL K w.γ w.G xs ds
  | .dK es => ∃ a kvs, v = .ref a ∧ w.H a = some (.dK kvs) ∧ kvs.map (·.1) = es.map (·.1) ∧ RepL K w.γ w.G (kvs.map (·.2)) (es.map (·.2))
  | .dT es => ∃ a kvs, v = .ref a ∧ w.H a = some (.dT kvs) ∧ kvs.map (·.1) = es.map (·.1) ∧ RepL K w.γ w.G (kvs.map (·.2)) (es.map (·.2))
theorem Vw.ofRep {K : PySem.W.Frag} {w : Wd} {v : V} {d : D} (e : Ext w.G w.H) (h : Rep K w.γ w.G v d) : Vw K w v d := by
  cases h with
  | non => rfl
  | bl b => rfl
  | int i => rfl
  | str x => rfl
  | raw v => rfl
  | gh h => exact ⟨_, rfl, h⟩
  | tup h r => exact ⟨_, _, rfl, h, r⟩
  | lst h r => exact ⟨_, _, rfl, e _ _ h, r⟩
  | kt h r => exact ⟨_, _, rfl, h, r⟩
  | kl h r => exact ⟨_, _, rfl, h, r⟩
  | dK h k r => exact ⟨_, _, rfl, e _ _ h, k, r⟩
  | dT h k r => exact ⟨_, _, rfl, e _ _ h, k, r⟩
theorem Vw.ofO {K : PySem.W.Frag} {w : Wd} {a : Addr} {o : HO} {d : D} (h : w.H a = some o) (r : ORep K w.γ w.G o d) : Vw K w (.ref a) d := by
  cases r with
  | lst r => exact ⟨_, _, rfl, h, r⟩
  | dK k r => exact ⟨_, _, rfl, h, k, r⟩
  | dT k r => exact ⟨_, _, rfl, h, k, r⟩

def deg (m : M) : D → Option D
  | .gh k => m.gs[k]?
  | d => some d
/-- the content that is seen -/
def view (m : M) : Ret → Option D
  | .fz d => deg m d
  | .tmp d => some d
  | .sl i => match m.env[i]? with
    | some (.own d) => some d
    | some (.val d) => deg m d
    | _ => none

section
variable {K : PySem.W.Frag} {w w' : Wd} {m m' : M}
theorem SOk.ghAt (s : SOk K w m) {k : Nat} {d : D} (h : m.gs[k]? = some d) : ∃ a o, w.γ[k]? = some a ∧ w.G a = none ∧ w.H a = some o ∧ ORep K w.γ w.G o d := by
  have hk := (List.getElem?_eq_some_iff.mp h).1
  have e : w.γ[k]? = some (w.γ[k]'(by rw [← s.gl]; exact hk)) := List.getElem?_eq_getElem _
  obtain ⟨h1, o, h2, h3⟩ := s.gh k _ d e h
  exact ⟨_, o, e, h1, h2, h3⟩
theorem SOk.seen (s : SOk K w m) {v : V} {d e : D} (h : Rep K w.γ w.G v d) (q : deg m d = some e) : Vw K w v e := by
  cases d
  case gh k =>
    cases h with
    | gh h =>
      obtain ⟨a, o, h1, h2, h3, h4⟩ := s.ghAt (show m.gs[k]? = some e from q)
      rw [h] at h1
      cases h1
      exact .ofO h3 h4
  all_goals
    dsimp only [deg] at q
    cases q
    exact .ofRep s.sub h
theorem SOk.view (s : SOk K w m) {H0 : Hp} {v : V} {r : Ret} {d : D} (h : RetOk K H0 w m v r) (q : view m r = some d) : Vw K w v d := by
  cases r with
  | fz e => exact s.seen h q
  | tmp e =>
    cases q
    obtain ⟨p, o, rfl, _, _, _, h4, h5⟩ := h
    exact .ofO h4 h5
  | sl i =>
    have h : w.σ[i]? = some (some v) := h
    dsimp only [VL.view] at q
    split at q
    · rename_i e he
      cases q
      obtain ⟨a, o, h1, _, _, h4, h5⟩ := s.own i _ he
      rw [h] at h1
      cases h1
      exact .ofO h4 h5
    · rename_i e he
      obtain ⟨v', h1, h2⟩ := s.val i _ he
      rw [h] at h1
      cases h1
      exact s.seen h2 q
    · cases q

/-- a new object is laid, frozen -/
def Wd.lay (w : Wd) (p : Addr) (o : HO) : Wd := ⟨upd w.G p o, upd w.H p o, w.γ, w.σ⟩
def Wd.put (w : Wd) (p : Addr) (o : HO) : Wd := ⟨w.G, upd w.H p o, w.γ, w.σ⟩
def Wd.frz (w : Wd) (p : Addr) (o : HO) : Wd := ⟨upd w.G p o, w.H, w.γ, w.σ⟩
def Wd.slot (w : Wd) (i : Nat) (v : V) : Wd := ⟨w.G, w.H, w.γ, w.σ.set i (some v)⟩
theorem ext_upd {G : Hp} {p : Addr} {o : HO} (h : G p = none) : Ext G (upd G p o) := fun a u e => by
  rw [upd_ne (ne_of_none e h)]; exact e
theorem ext_upd2 {G H : Hp} {p : Addr} {o : HO} (s : Ext G H) : Ext (upd G p o) (upd H p o) := fun a u e => by
  by_cases ha : a = p
  · subst ha; rw [upd_same] at e ⊢; exact e
  · rw [upd_ne ha] at e ⊢; exact s a u e
theorem SOk.gnone (s : SOk K w m) {p : Addr} (h : w.H p = none) : w.G p = none := by
  rcases none_or (w.G p) with e | ⟨o, e⟩
  · exact e
  · rw [s.sub _ _ e] at h; cases h
theorem SOk.ownAl (s : SOk K w m) {p : Addr} (h : Own w m p) : w.G p = none ∧ ∃ o, w.H p = some o := by
  rcases h with h | ⟨i, d, h1, h2⟩
  · obtain ⟨k, hk⟩ := List.mem_iff_getElem?.mp h
    have hl : k < m.gs.length := by rw [s.gl]; exact (List.getElem?_eq_some_iff.mp hk).1
    obtain ⟨e1, o, e2, _⟩ := s.gh k p _ hk (List.getElem?_eq_getElem hl)
    exact ⟨e1, o, e2⟩
  · obtain ⟨a, o, e1, e2, _, e4, _⟩ := s.own i d h1
    rw [h2] at e1
    cases e1
    exact ⟨e2, o, e4⟩
theorem SOk.notOwn (s : SOk K w m) {p : Addr} (h : w.H p = none) : ¬ Own w m p := fun z => by
  obtain ⟨_, o, e⟩ := s.ownAl z
  rw [h] at e; cases e
theorem SOk.lay (s : SOk K w m) {p : Addr} {o : HO} (h : w.H p = none) : SOk K (w.lay p o) m ∧ Step w (Own w m) (w.lay p o) (Own (w.lay p o) m) := by
  have hg := s.gnone h
  have e := ext_upd (o := o) hg
  have ne : ∀ a, (∃ u, w.H a = some u) → a ≠ p := fun a ⟨u, z⟩ q => by subst q; rw [h] at z; cases z
  refine ⟨⟨ext_upd2 s.sub, s.len, fun i d q => ?_, fun i d q => ?_, s.inj, s.gl, fun k a d h1 h2 => ?_, s.gnd⟩, ⟨e, fun a u q _ => ?_, fun a u q => ?_, fun a q => .inl q, fun a u q => ?_, Pre.refl _⟩⟩
  · obtain ⟨v, h1, h2⟩ := s.val i d q
    exact ⟨v, h1, h2.mono (Pre.refl _) e⟩
  · obtain ⟨a, u, h1, h2, h3, h4, h5⟩ := s.own i d q
    have n := ne a ⟨u, h4⟩
    exact ⟨a, u, h1, (upd_ne n).trans h2, h3, (upd_ne n).trans h4, h5.mono (Pre.refl _) e⟩
  · obtain ⟨h3, u, h4, h5⟩ := s.gh k a d h1 h2
    have n := ne a ⟨u, h4⟩
    exact ⟨(upd_ne n).trans h3, u, (upd_ne n).trans h4, h5.mono (Pre.refl _) e⟩
  · exact (upd_ne (ne a ⟨u, q⟩)).trans q
  · by_cases ha : a = p
    · subst ha; exact .inr (.inr h)
    · exact .inl ((upd_ne ha).symm.trans q)
  · exact ⟨u, (upd_ne (ne a ⟨u, q⟩)).trans q⟩
/-- a new object that nobody holds -/
theorem SOk.put (s : SOk K w m) {p : Addr} {o : HO} (h : w.H p = none) : SOk K (w.put p o) m ∧ Step w (Own w m) (w.put p o) (Own (w.put p o) m) := by
  have ne : ∀ a, (∃ u, w.H a = some u) → a ≠ p := fun a ⟨u, z⟩ q => by subst q; rw [h] at z; cases z
  refine ⟨⟨s.sub.trans (ext_upd h), s.len, s.val, fun i d q => ?_, s.inj, s.gl, fun k a d h1 h2 => ?_, s.gnd⟩, ⟨Ext.refl _, fun a u q _ => ?_, fun a u q => .inl q, fun a q => .inl q, fun a u q => ?_, Pre.refl _⟩⟩
  · obtain ⟨a, u, h1, h2, h3, h4, h5⟩ := s.own i d q
    exact ⟨a, u, h1, h2, h3, (upd_ne (ne a ⟨u, h4⟩)).trans h4, h5⟩
  · obtain ⟨h3, u, h4, h5⟩ := s.gh k a d h1 h2
    exact ⟨h3, u, (upd_ne (ne a ⟨u, h4⟩)).trans h4, h5⟩
  · exact (upd_ne (ne a ⟨u, q⟩)).trans q
  · exact ⟨u, (upd_ne (ne a ⟨u, q⟩)).trans q⟩
theorem SOk.putRet (s : SOk K w m) {p : Addr} {o : HO} {d : D} (h : w.H p = none) (r : ORep K w.γ w.G o d) : RetOk K w.H (w.put p o) m (.ref p) (.tmp d) := by
  refine ⟨p, o, rfl, h, s.gnone h, fun z => ?_, upd_same, r⟩
  exact s.notOwn h z
/-- a container that nobody else holds is frozen -/
theorem SOk.frz (s : SOk K w m) {p : Addr} {o : HO} (h : w.H p = some o) (hg : w.G p = none) (n : ¬ Own w m p) : SOk K (w.frz p o) m ∧ (∀ H0 : Hp, H0 p = none → ∀ w0 O0, w0.H = H0 → Step w0 O0 w (Own w m) → Step w0 O0 (w.frz p o) (Own (w.frz p o) m)) := by
  have e := ext_upd (o := o) hg
  refine ⟨⟨fun a u q => ?_, s.len, fun i d q => ?_, fun i d q => ?_, s.inj, s.gl, fun k a d h1 h2 => ?_, s.gnd⟩, fun H0 h0 w0 O0 e0 st => ⟨st.gg.trans e, st.fr, fun a u q => ?_, st.on, st.al, st.gp⟩⟩
  · by_cases ha : a = p
    · subst ha; rw [show (w.frz a o).G a = some o from upd_same] at q; cases q; exact h
    · exact s.sub a u ((upd_ne ha).symm.trans q)
  · obtain ⟨v, h1, h2⟩ := s.val i d q
    exact ⟨v, h1, h2.mono (Pre.refl _) e⟩
  · obtain ⟨a, u, h1, h2, h3, h4, h5⟩ := s.own i d q
    have na : a ≠ p := fun z => n (.inr ⟨i, d, q, by rw [← z]; exact h1⟩)
    exact ⟨a, u, h1, (upd_ne na).trans h2, h3, h4, h5.mono (Pre.refl _) e⟩
  · obtain ⟨h3, u, h4, h5⟩ := s.gh k a d h1 h2
    have na : a ≠ p := fun z => n (.inl (by rw [← z]; exact List.mem_of_getElem? h1))
    exact ⟨(upd_ne na).trans h3, u, h4, h5.mono (Pre.refl _) e⟩
  · by_cases ha : a = p
    · subst ha; exact .inr (.inr (by rw [e0]; exact h0))
    · exact st.gn a u ((upd_ne ha).symm.trans q)
end
end VL

/-! The value layer: slots stored, containers written; the judgements. -/
namespace VL
open PySem PySem.Spec PyProof.Rows L2
section
variable {K : PySem.W.Frag} {w w' : Wd} {m m' : M}
theorem getset {α : Type} {l : List α} {i j : Nat} {x y : α} (h : (l.set i x)[j]? = some y) : (j = i ∧ y = x ∧ i < l.length) ∨ (j ≠ i ∧ l[j]? = some y) := by
  by_cases e : j = i
  · subst e
    have hl : j < l.length := by
      have z := (List.getElem?_eq_some_iff.mp h).1
      rw [List.length_set] at z; exact z
    rw [List.getElem?_set_self hl] at h
    cases h
    exact .inl ⟨rfl, rfl, hl⟩
  · rw [List.getElem?_set_ne (Ne.symm e)] at h
    exact .inr ⟨e, h⟩
def M.set (m : M) (i : Nat) (s : Sl) : M := ⟨m.env.set i s, m.gs⟩
theorem SOk.slotFrz (s : SOk K w m) {i : Nat} {d : D} {a : Addr} {o : HO} (h : m.env[i]? = some (.own d)) (ha : w.σ[i]? = some (some (.ref a))) (ho : w.H a = some o) (hg : w.G a = none) (hn : a ∉ w.γ) (r : ORep K w.γ w.G o d) :
    SOk K (w.frz a o) (m.set i (.val d)) ∧ Step w (Own w m) (w.frz a o) (Own (w.frz a o) (m.set i (.val d))) := by
  have e := ext_upd (o := o) hg
  refine ⟨⟨fun b u q => ?_, by have z := s.len; simpa [M.set, Wd.frz, Wd.put, Wd.slot] using z, fun j d' q => ?_, fun j d' q => ?_, fun j k d1 d2 b q1 q2 => ?_, s.gl, fun k b d' h1 h2 => ?_, s.gnd⟩, ⟨e, fun _ _ q _ => q, fun b u q => ?_, fun b q => ?_, fun b u q => ⟨u, q⟩, Pre.refl _⟩⟩
  · by_cases hb : b = a
    · subst hb; rw [show (w.frz b o).G b = some o from upd_same] at q; cases q; exact ho
    · exact s.sub b u ((upd_ne hb).symm.trans q)
  · rcases getset q with ⟨rfl, z, _⟩ | ⟨_, q⟩
    · cases z
      exact ⟨_, ha, Rep.ofO upd_same (r.mono (Pre.refl _) e)⟩
    · obtain ⟨v, h1, h2⟩ := s.val j d' q
      exact ⟨v, h1, h2.mono (Pre.refl _) e⟩
  · rcases getset q with ⟨_, z, _⟩ | ⟨hj, q⟩
    · cases z
    · obtain ⟨b, u, h1, h2, h3, h4, h5⟩ := s.own j d' q
      have nb : b ≠ a := fun z => hj (s.inj j i _ _ a q h (by rw [← z]; exact h1) ha)
      exact ⟨b, u, h1, (upd_ne nb).trans h2, h3, h4, h5.mono (Pre.refl _) e⟩
  · rcases getset q1 with ⟨_, z, _⟩ | ⟨_, q1⟩
    · cases z
    · rcases getset q2 with ⟨_, z, _⟩ | ⟨_, q2⟩
      · cases z
      · exact s.inj j k d1 d2 b q1 q2
  · obtain ⟨h3, u, h4, h5⟩ := s.gh k b d' h1 h2
    have nb : b ≠ a := fun z => hn (by rw [← z]; exact List.mem_of_getElem? h1)
    exact ⟨(upd_ne nb).trans h3, u, h4, h5.mono (Pre.refl _) e⟩
  · by_cases hb : b = a
    · subst hb; exact .inr (.inl (.inr ⟨i, d, h, ha⟩))
    · exact .inl ((upd_ne hb).symm.trans q)
  · rcases q with q | ⟨j, d', q1, q2⟩
    · exact .inl (.inl q)
    · rcases getset q1 with ⟨_, z, _⟩ | ⟨_, q1⟩
      · cases z
      · exact .inl (.inr ⟨j, d', q1, q2⟩)
theorem SOk.setVal (s : SOk K w m) {i : Nat} {v : V} {d : D} (hi : i < w.σ.length) (r : Rep K w.γ w.G v d) :
    SOk K (w.slot i v) (m.set i (.val d)) ∧ Step w (Own w m) (w.slot i v) (Own (w.slot i v) (m.set i (.val d))) := by
  have old : ∀ (j : Nat) s', (m.set i (.val d)).env[j]? = some s' → (j = i ∧ s' = .val d) ∨ (j ≠ i ∧ m.env[j]? = some s') := fun j s' q => (getset q).elim (fun z => .inl ⟨z.1, z.2.1⟩) .inr
  have sg : ∀ {j : Nat}, j ≠ i → (w.slot i v).σ[j]? = w.σ[j]? := fun hj => List.getElem?_set_ne (Ne.symm hj)
  refine ⟨⟨s.sub, by have z := s.len; simpa [M.set, Wd.frz, Wd.put, Wd.slot] using z, fun j d' q => ?_, fun j d' q => ?_, fun j k d1 d2 b q1 q2 e1 e2 => ?_, s.gl, s.gh, s.gnd⟩, ⟨Ext.refl _, fun _ _ q _ => q, fun _ _ q => .inl q, fun b q => ?_, fun b u q => ⟨u, q⟩, Pre.refl _⟩⟩
  · rcases old j _ q with ⟨rfl, z⟩ | ⟨hj, q⟩
    · cases z; exact ⟨v, List.getElem?_set_self hi, r⟩
    · obtain ⟨u, h1, h2⟩ := s.val j d' q
      exact ⟨u, (sg hj).trans h1, h2⟩
  · rcases old j _ q with ⟨rfl, z⟩ | ⟨hj, q⟩
    · cases z
    · obtain ⟨a, o, h1, h2⟩ := s.own j d' q
      exact ⟨a, o, (sg hj).trans h1, h2⟩
  · rcases old j _ q1 with ⟨_, z⟩ | ⟨hj, q1⟩
    · cases z
    · rcases old k _ q2 with ⟨_, z⟩ | ⟨hk, q2⟩
      · cases z
      · exact s.inj j k d1 d2 b q1 q2 ((sg hj).symm.trans e1) ((sg hk).symm.trans e2)
  · rcases q with q | ⟨j, d', q1, q2⟩
    · exact .inl (.inl q)
    · rcases old j _ q1 with ⟨_, z⟩ | ⟨hj, q1⟩
      · cases z
      · exact .inl (.inr ⟨j, d', q1, (sg hj).symm.trans q2⟩)
theorem SOk.setOwn (s : SOk K w m) {i : Nat} {p : Addr} {o : HO} {d : D} (hi : i < w.σ.length) (hg : w.G p = none) (n : ¬ Own w m p) (hp : w.H p = some o) (r : ORep K w.γ w.G o d) :
    SOk K (w.slot i (.ref p)) (m.set i (.own d)) ∧ ∀ a, Own (w.slot i (.ref p)) (m.set i (.own d)) a → Own w m a ∨ a = p := by
  have old : ∀ (j : Nat) s', (m.set i (.own d)).env[j]? = some s' → (j = i ∧ s' = .own d) ∨ (j ≠ i ∧ m.env[j]? = some s') := fun j s' q => (getset q).elim (fun z => .inl ⟨z.1, z.2.1⟩) .inr
  have sg : ∀ {j : Nat}, j ≠ i → (w.slot i (.ref p)).σ[j]? = w.σ[j]? := fun hj => List.getElem?_set_ne (Ne.symm hj)
  have si : (w.slot i (.ref p)).σ[i]? = some (some (.ref p)) := List.getElem?_set_self hi
  refine ⟨⟨s.sub, by have z := s.len; simpa [M.set, Wd.frz, Wd.put, Wd.slot] using z, fun j d' q => ?_, fun j d' q => ?_, fun j k d1 d2 b q1 q2 e1 e2 => ?_, s.gl, s.gh, s.gnd⟩, fun b q => ?_⟩
  · rcases old j _ q with ⟨_, z⟩ | ⟨hj, q⟩
    · cases z
    · obtain ⟨u, h1, h2⟩ := s.val j d' q
      exact ⟨u, (sg hj).trans h1, h2⟩
  · rcases old j _ q with ⟨rfl, z⟩ | ⟨hj, q⟩
    · cases z; exact ⟨p, o, si, hg, fun z => n (.inl z), hp, r⟩
    · obtain ⟨a, o, h1, h2⟩ := s.own j d' q
      exact ⟨a, o, (sg hj).trans h1, h2⟩
  · rcases old j _ q1 with ⟨hj, z1⟩ | ⟨hj, r1⟩
    · rcases old k _ q2 with ⟨hk, _⟩ | ⟨hk, r2⟩
      · rw [hj, hk]
      · subst hj
        have z := e1.symm.trans si
        cases z
        exact absurd (.inr ⟨k, d2, r2, (sg hk).symm.trans e2⟩) n
    · rcases old k _ q2 with ⟨hk, _⟩ | ⟨hk, r2⟩
      · subst hk
        have z := e2.symm.trans si
        cases z
        exact absurd (.inr ⟨j, d1, r1, (sg hj).symm.trans e1⟩) n
      · exact s.inj j k d1 d2 b r1 r2 ((sg hj).symm.trans e1) ((sg hk).symm.trans e2)
  · rcases q with q | ⟨j, d', q1, q2⟩
    · exact .inl (.inl q)
    · rcases old j _ q1 with ⟨hj, z⟩ | ⟨hj, q1⟩
      · subst hj
        have z := q2.symm.trans si
        cases z
        exact .inr rfl
      · exact .inl (.inr ⟨j, d', q1, (sg hj).symm.trans q2⟩)
/-- the i-th slot's own container is written -/
theorem SOk.write (s : SOk K w m) {i : Nat} {d d' : D} {a : Addr} {o' : HO} (h : m.env[i]? = some (.own d)) (ha : w.σ[i]? = some (some (.ref a))) (r : ORep K w.γ w.G o' d') :
    SOk K (w.put a o') (m.set i (.own d')) ∧ Step w (Own w m) (w.put a o') (Own (w.put a o') (m.set i (.own d'))) := by
  obtain ⟨a', o, ha', hg, hn, ho, _⟩ := s.own i d h
  have z := ha'.symm.trans ha
  cases z
  have old : ∀ (j : Nat) s', (m.set i (.own d')).env[j]? = some s' → (j = i ∧ s' = .own d') ∨ (j ≠ i ∧ m.env[j]? = some s') := fun j s' q => (getset q).elim (fun z => .inl ⟨z.1, z.2.1⟩) .inr
  have ownd : ∀ (j : Nat) e, (m.set i (.own d')).env[j]? = some (.own e) → ∃ e', m.env[j]? = some (.own e') := fun j e q => by
    rcases old j _ q with ⟨hj, _⟩ | ⟨_, q⟩
    · exact ⟨d, by rw [hj]; exact h⟩
    · exact ⟨e, q⟩
  refine ⟨⟨fun b u q => ?_, by have z := s.len; simpa [M.set, Wd.frz, Wd.put, Wd.slot] using z, fun j e q => ?_, fun j e q => ?_, fun j k d1 d2 b q1 q2 e1 e2 => ?_, s.gl, fun k b e h1 h2 => ?_, s.gnd⟩, ⟨Ext.refl _, fun b u q nb => ?_, fun _ _ q => .inl q, fun b q => ?_, fun b u q => ?_, Pre.refl _⟩⟩
  · have nb : b ≠ a := fun z => by rw [z] at q; rw [show w.G a = some u from q] at hg; cases hg
    exact (upd_ne nb).trans (s.sub b u q)
  · rcases old j _ q with ⟨_, z⟩ | ⟨_, q⟩
    · cases z
    · exact s.val j e q
  · rcases old j _ q with ⟨hj, z⟩ | ⟨hj, q⟩
    · subst hj
      cases z
      exact ⟨a, o', ha, hg, hn, upd_same, r⟩
    · obtain ⟨b, u, h1, h2, h3, h4, h5⟩ := s.own j e q
      have nb : b ≠ a := fun z => hj (s.inj j i _ _ a q h (by rw [← z]; exact h1) ha)
      exact ⟨b, u, h1, h2, h3, (upd_ne nb).trans h4, h5⟩
  · obtain ⟨e1', z1⟩ := ownd j _ q1
    obtain ⟨e2', z2⟩ := ownd k _ q2
    exact s.inj j k _ _ b z1 z2 e1 e2
  · obtain ⟨h3, u, h4, h5⟩ := s.gh k b e h1 h2
    have nb : b ≠ a := fun z => hn (by rw [← z]; exact List.mem_of_getElem? h1)
    exact ⟨h3, u, (upd_ne nb).trans h4, h5⟩
  · have : b ≠ a := fun z => nb (.inr ⟨i, d, h, by rw [z]; exact ha⟩)
    exact (upd_ne this).trans q
  · rcases q with q | ⟨j, e, q1, q2⟩
    · exact .inl (.inl q)
    · obtain ⟨e', z⟩ := ownd j _ q1
      exact .inl (.inr ⟨j, e', z, q2⟩)
  · by_cases hb : b = a
    · exact ⟨o', by rw [hb]; exact upd_same⟩
    · exact ⟨u, (upd_ne hb).trans q⟩
/-- the k-th shared container is written -/
theorem SOk.writeG (s : SOk K w m) {k : Nat} {d' : D} {a : Addr} {o' : HO} (hk : w.γ[k]? = some a) (r : ORep K w.γ w.G o' d') :
    SOk K (w.put a o') ⟨m.env, m.gs.set k d'⟩ ∧ Step w (Own w m) (w.put a o') (Own (w.put a o') ⟨m.env, m.gs.set k d'⟩) := by
  have hm : a ∈ w.γ := List.mem_of_getElem? hk
  have hg := (s.ownAl (.inl hm)).1
  refine ⟨⟨fun b u q => ?_, s.len, s.val, fun j e q => ?_, s.inj, by have z := s.gl; simpa [Wd.put] using z, fun j b e h1 h2 => ?_, s.gnd⟩, ⟨Ext.refl _, fun b u q nb => ?_, fun _ _ q => .inl q, fun b q => .inl q, fun b u q => ?_, Pre.refl _⟩⟩
  · have nb : b ≠ a := fun z => by rw [z] at q; rw [show w.G a = some u from q] at hg; cases hg
    exact (upd_ne nb).trans (s.sub b u q)
  · obtain ⟨b, u, h1, h2, h3, h4, h5⟩ := s.own j e q
    have nb : b ≠ a := fun z => h3 (by rw [z]; exact hm)
    exact ⟨b, u, h1, h2, h3, (upd_ne nb).trans h4, h5⟩
  · rcases getset h2 with ⟨rfl, z, _⟩ | ⟨hj, h2⟩
    · have h1 : w.γ[j]? = some b := h1
      rw [hk] at h1
      cases h1; cases z
      exact ⟨hg, o', upd_same, r⟩
    · obtain ⟨h3, u, h4, h5⟩ := s.gh j b e h1 h2
      have nb : b ≠ a := fun z => hj (by
        have h1 : w.γ[j]? = some b := h1
        rw [z] at h1
        obtain ⟨l1, e1⟩ := List.getElem?_eq_some_iff.mp h1
        obtain ⟨l2, e2⟩ := List.getElem?_eq_some_iff.mp hk
        exact (List.getElem_inj s.gnd).mp (e1.trans e2.symm))
      exact ⟨h3, u, (upd_ne nb).trans h4, h5⟩
  · have : b ≠ a := fun z => nb (.inl (by rw [z]; exact hm))
    exact (upd_ne this).trans q
  · by_cases hb : b = a
    · exact ⟨o', by rw [hb]; exact upd_same⟩
    · exact ⟨u, (upd_ne hb).trans q⟩
/-- a slot's own container becomes a shared one -/
theorem SOk.share (s : SOk K w m) {i : Nat} {d : D} {a : Addr} (h : m.env[i]? = some (.own d)) (ha : w.σ[i]? = some (some (.ref a))) :
    SOk K ⟨w.G, w.H, w.γ ++ [a], w.σ⟩ ⟨m.env.set i (.val (.gh m.gs.length)), m.gs ++ [d]⟩ ∧ Step w (Own w m) ⟨w.G, w.H, w.γ ++ [a], w.σ⟩ (Own ⟨w.G, w.H, w.γ ++ [a], w.σ⟩ ⟨m.env.set i (.val (.gh m.gs.length)), m.gs ++ [d]⟩) := by
  obtain ⟨a', o, ha', hg, hn, ho, r⟩ := s.own i d h
  have z := ha'.symm.trans ha
  cases z
  have p : Pre w.γ (w.γ ++ [a]) := ⟨[a], rfl⟩
  refine ⟨⟨s.sub, by simpa using s.len, fun j d' q => ?_, fun j d' q => ?_, fun j k d1 d2 b q1 q2 => ?_, by simp [s.gl], fun k b e h1 h2 => ?_, ?_⟩, ⟨Ext.refl _, fun _ _ q _ => q, fun _ _ q => .inl q, fun b q => ?_, fun b u q => ⟨u, q⟩, p⟩⟩
  · rcases getset q with ⟨rfl, z, _⟩ | ⟨_, q⟩
    · cases z
      refine ⟨_, ha, .gh ?_⟩
      show (w.γ ++ [a])[m.gs.length]? = some a
      rw [s.gl]; simp
    · obtain ⟨v, h1, h2⟩ := s.val j d' q
      exact ⟨v, h1, h2.mono p (Ext.refl _)⟩
  · rcases getset q with ⟨_, z, _⟩ | ⟨hj, q⟩
    · cases z
    · obtain ⟨b, u, h1, h2, h3, h4, h5⟩ := s.own j d' q
      have nb : b ≠ a := fun z => hj (s.inj j i _ _ a q h (by rw [← z]; exact h1) ha)
      exact ⟨b, u, h1, h2, by simp [h3, nb], h4, h5.mono p (Ext.refl _)⟩
  · rcases getset q1 with ⟨_, z, _⟩ | ⟨_, q1⟩
    · cases z
    · rcases getset q2 with ⟨_, z, _⟩ | ⟨_, q2⟩
      · cases z
      · exact s.inj j k d1 d2 b q1 q2
  · by_cases hk : k < w.γ.length
    · have h1 : (w.γ ++ [a])[k]? = some b := h1
      have h2 : (m.gs ++ [d])[k]? = some e := h2
      rw [List.getElem?_append_left hk] at h1
      rw [List.getElem?_append_left (by rw [s.gl]; exact hk)] at h2
      obtain ⟨h3, u, h4, h5⟩ := s.gh k b e h1 h2
      exact ⟨h3, u, h4, h5.mono p (Ext.refl _)⟩
    · have hl := (List.getElem?_eq_some_iff.mp h1).1
      have hl : k < (w.γ ++ [a]).length := hl
      rw [List.length_append, List.length_singleton] at hl
      have hk : k = w.γ.length := by omega
      subst hk
      have h1 : (w.γ ++ [a])[w.γ.length]? = some b := h1
      have h2 : (m.gs ++ [d])[w.γ.length]? = some e := h2
      rw [← s.gl] at h2
      simp at h1 h2
      subst h1; subst h2
      exact ⟨hg, o, ho, r.mono p (Ext.refl _)⟩
  · refine List.nodup_append.mpr ⟨s.gnd, by simp, fun x hx y hy e => ?_⟩
    simp at hy
    rw [hy] at e
    exact hn (by rw [← e]; exact hx)
  · rcases q with q | ⟨j, d', q1, q2⟩
    · have q : b ∈ w.γ ++ [a] := q
      rcases List.mem_append.mp q with q | q
      · exact .inl (.inl q)
      · simp at q
        subst q
        exact .inl (.inr ⟨i, d, h, ha⟩)
    · rcases getset q1 with ⟨_, z, _⟩ | ⟨_, q1⟩
      · cases z
      · exact .inl (.inr ⟨j, d', q1, q2⟩)
end

/-! ### the judgements -/
/-- an exception: its class; its fields -/
structure Xc where
  C : Addr
  fs : List (Str × D)
abbrev PX := Xc → M → Prop
/-- an expression's reading -/
abbrev FE := M → (Ret → M → Prop) → PX → Prop
/-- a test's -/
abbrev FT := M → (Bool → M → Prop) → PX → Prop
/-- an argument list's -/
abbrev FA := M → (List D → M → Prop) → PX → Prop
structure EndsV where
  nx : M → Prop
  rt : Ret → M → Prop
  bk : M → Prop
  ct : M → Prop
  ex : PX
abbrev FS := EndsV → M → Prop

/-- behind a part: the state -/
structure Aft (K : PySem.W.Frag) (w : Wd) (m : M) (w' : Wd) (m' : M) : Prop where
  ok : SOk K w' m'
  st : Step w (Own w m) w' (Own w' m')
theorem Aft.trans {K : PySem.W.Frag} {w w1 w2 : Wd} {m m1 m2 : M} (a : Aft K w m w1 m1) (b : Aft K w1 m1 w2 m2) : Aft K w m w2 m2 := ⟨b.ok, a.st.trans b.st⟩
theorem Aft.refl {K : PySem.W.Frag} {w : Wd} {m : M} (s : SOk K w m) : Aft K w m w m := ⟨s, .refl _ _⟩
/-- the exceptions' fields, as they lie -/
def XRep (K : PySem.W.Frag) (w : Wd) (xc : Xc) (d : Option Addr) : Prop := xc.fs = [] ∧ d = none ∨ ∃ dd fv, d = some dd ∧ w.H dd = some (.xd fv) ∧ fv.map (·.1) = xc.fs.map (·.1) ∧ RepL K w.γ w.G (fv.map (·.2)) (xc.fs.map (·.2))
def ExOk (K : PySem.W.Frag) (W : WX) (w : Wd) (m : M) (Qx : PX) : Prop := ∀ xc m' w' d, w'.σ = w.σ → Aft K w m w' m' → XRep K w' xc d → Qx xc m' → W (.ref xc.C) d w'.σ w'.H
structure VE (X : Cx) (W : WX) (e : Expr) (f : FE) : Prop where
  ex : ∃ t, PE X e t ∧ ∀ (w : Wd) (m : M) (Q : Ret → M → Prop) (Qx : PX) (Q' : VK), SOk X.K w m → f m Q Qx →
    (∀ r m' w' v, w'.σ = w.σ → Aft X.K w m w' m' → RetOk X.K w.H w' m' v r → Q r m' → Q' v w'.H) → ExOk X.K W w m Qx → t w.σ w.H Q'
structure VT (X : Cx) (W : WX) (e : Expr) (f : FT) : Prop where
  ex : ∃ t, PT X e t ∧ ∀ (w : Wd) (m : M) (Q : Bool → M → Prop) (Qx : PX) (Q' : Bool → Hp → Prop), SOk X.K w m → f m Q Qx →
    (∀ r m' w', w'.σ = w.σ → Aft X.K w m w' m' → Q r m' → Q' r w'.H) → ExOk X.K W w m Qx → t w.σ w.H Q'
structure VW (X : Cx) (W : WX) (e : Expr) (f : FT) : Prop where
  ex : ∃ t, PW X e t ∧ ∀ (w : Wd) (m : M) (Q : Bool → M → Prop) (Qx : PX) (Q' : Bool → Hp → Prop), SOk X.K w m → f m Q Qx →
    (∀ r m' w', w'.σ = w.σ → Aft X.K w m w' m' → Q r m' → Q' r w'.H) → ExOk X.K W w m Qx → t w.σ w.H Q'
structure VA (X : Cx) (W : WX) (es : List Expr) (f : FA) : Prop where
  ex : ∃ t, PA X es t ∧ ∀ (w : Wd) (m : M) (Q : List D → M → Prop) (Qx : PX) (Q' : List V → Hp → Prop), SOk X.K w m → f m Q Qx →
    (∀ ds m' w' vs, w'.σ = w.σ → Aft X.K w m w' m' → RepL X.K w'.γ w'.G vs ds → Q ds m' → Q' vs w'.H) → ExOk X.K W w m Qx → t w.σ w.H Q'
/-- what is wanted behind a statement, concretely -/
structure EndsOk (K : PySem.W.Frag) (W : WX) (w : Wd) (m : M) (E : EndsV) (D : Ends) : Prop where
  nx : ∀ m' w', Aft K w m w' m' → E.nx m' → D.nx w'.σ w'.H
  rt : ∀ r m' w' v, Aft K w m w' m' → RetOk K w.H w' m' v r → E.rt r m' → D.rt v w'.H
  bk : ∀ m' w', Aft K w m w' m' → E.bk m' → D.bk w'.σ w'.H
  ct : ∀ m' w', Aft K w m w' m' → E.ct m' → D.ct w'.σ w'.H
  ex : ∀ xc m' w' d, Aft K w m w' m' → XRep K w' xc d → E.ex xc m' → W (.ref xc.C) d w'.σ w'.H
structure VS (X : Cx) (W : WX) (st : Stmt) (f : FS) : Prop where
  ex : ∃ t, PS X st t ∧ ∀ (w : Wd) (m : M) (E : EndsV) (D : Ends), SOk X.K w m → f E m → EndsOk X.K W w m E D → t D w.σ w.H
structure VSs (X : Cx) (W : WX) (st : List Stmt) (f : FS) : Prop where
  ex : ∃ t, PSs X st t ∧ ∀ (w : Wd) (m : M) (E : EndsV) (D : Ends), SOk X.K w m → f E m → EndsOk X.K W w m E D → t D w.σ w.H
theorem ExOk.aft {K : PySem.W.Frag} {W : WX} {w w1 : Wd} {m m1 : M} {Qx : PX} (h : ExOk K W w m Qx) (a : Aft K w m w1 m1) (e : w1.σ = w.σ) : ExOk K W w1 m1 Qx :=
  fun xc m' w' d e' a' x q => h xc m' w' d (e'.trans e) (a.trans a') x q
theorem EndsOk.aft {K : PySem.W.Frag} {W : WX} {w w1 : Wd} {m m1 : M} {E : EndsV} {D : Ends} (h : EndsOk K W w m E D) (a : Aft K w m w1 m1) : EndsOk K W w1 m1 E D :=
  ⟨fun m' w' a' q => h.nx m' w' (a.trans a') q, fun r m' w' v a' r' q => h.rt r m' w' v (a.trans a') (r'.from fun _ z => a.st.back z) q, fun m' w' a' q => h.bk m' w' (a.trans a') q,
    fun m' w' a' q => h.ct m' w' (a.trans a') q, fun xc m' w' d a' x q => h.ex xc m' w' d (a.trans a') x q⟩
theorem EndsOk.exOk {K : PySem.W.Frag} {W : WX} {w : Wd} {m : M} {E : EndsV} {D : Ends} (h : EndsOk K W w m E D) : ExOk K W w m E.ex := fun xc m' w' d _ a x q => h.ex xc m' w' d a x q
end VL

/-! The value layer: expressions. -/
namespace VL
open PySem PySem.Spec PyProof.Rows L2

def bindO {α : Type} (o : Option α) (k : α → Prop) : Prop := match o with | some a => k a | none => False
/-- both ways of a test -/
def iteP (c : Bool) (A B : Prop) : Prop := (c = true → A) ∧ (c = false → B)
theorem bindO_elim {α : Type} {o : Option α} {k : α → Prop} (h : bindO o k) : ∃ a, o = some a ∧ k a := by
  cases o with
  | none => exact h.elim
  | some a => exact ⟨a, rfl, h⟩
@[simp] theorem bindO_some {α : Type} {a : α} {k : α → Prop} : bindO (some a) k = k a := rfl
theorem bindO_of {α : Type} {o : Option α} {a : α} {k : α → Prop} (e : o = some a) (h : k a) : bindO o k := by subst e; exact h

/-! ### data that is compared -/
mutual
def toPy : D → Option PyData
  | .non => some .none
  | .bl b => some (.bool b)
  | .int i => some (.int i)
  | .str x => some (.str x)
  | .tup ds => match toPyL ds with | some ps => some (.tuple ps) | none => none
  | .kt ds => match toPyL ds with | some ps => some (.tuple ps) | none => none
  | .lst ds => match toPyL ds with | some ps => some (.list ps) | none => none
  | .kl ds => match toPyL ds with | some ps => some (.list ps) | none => none
  | .raw _ => none
  | .gh _ => none
  | .dK _ => none
  | .dT _ => none
def toPyL : List D → Option (List PyData)
  | [] => some []
  | d :: ds => match toPy d with
    | some p => match toPyL ds with | some ps => some (p :: ps) | none => none
    | none => none
end
section
variable {K : PySem.W.Frag} {γ : List Addr} {G H : Hp}
mutual
theorem Rep.dp (e : Ext G H) : ∀ (d : D) {v : V} {p : PyData}, Rep K γ G v d → toPy d = some p → Dp K H v p
  | .non, _, _, .non, q => by simp [toPy] at q; subst q; exact .non
  | .bl b, _, _, .bl _, q => by simp [toPy] at q; subst q; exact .bl _
  | .int b, _, _, .int _, q => by simp [toPy] at q; subst q; exact .int _
  | .str b, _, _, .str _, q => by simp [toPy] at q; subst q; exact .str _
  | .raw _, _, _, _, q => by simp [toPy] at q
  | .gh _, _, _, _, q => by simp [toPy] at q
  | .dK _, _, _, _, q => by simp [toPy] at q
  | .dT _, _, _, _, q => by simp [toPy] at q
  | .tup ds, _, _, .tup h r, q => by
    cases z : toPyL ds with
    | none => simp [toPy, z] at q
    | some ps => simp [toPy, z] at q; subst q; exact .tup (.inl (.inl (e _ _ h))) (RepL.dp e ds r z)
  | .kt ds, _, _, .kt h r, q => by
    cases z : toPyL ds with
    | none => simp [toPy, z] at q
    | some ps => simp [toPy, z] at q; subst q; exact .tup (sqT_ext e h) (RepL.dp e ds r z)
  | .lst ds, _, _, .lst h r, q => by
    cases z : toPyL ds with
    | none => simp [toPy, z] at q
    | some ps => simp [toPy, z] at q; subst q; exact .lst (.inl (.inl (e _ _ h))) (RepL.dp e ds r z)
  | .kl ds, _, _, .kl h r, q => by
    cases z : toPyL ds with
    | none => simp [toPy, z] at q
    | some ps => simp [toPy, z] at q; subst q; exact .lst (sqL_ext e h) (RepL.dp e ds r z)
theorem RepL.dp (e : Ext G H) : ∀ (ds : List D) {vs : List V} {ps : List PyData}, RepL K γ G vs ds → toPyL ds = some ps → DpAll K H vs ps
  | [], _, _, .nil, q => by simp [toPyL] at q; subst q; exact .nil
  | d :: ds, _, _, .cons h r, q => by
    cases z : toPy d with
    | none => simp [toPyL, z] at q
    | some p =>
      cases z2 : toPyL ds with
      | none => simp [toPyL, z, z2] at q
      | some ps => simp [toPyL, z, z2] at q; subst q; exact .cons (Rep.dp e d h z) (RepL.dp e ds r z2)
end
mutual
theorem dp_plain : ∀ (p : PyData) {v : V}, Dp K H v p → p.plain = true
  | .none, _, _ => rfl
  | .bool _, _, _ => rfl
  | .int _, _, _ => rfl
  | .str _, _, _ => rfl
  | .list ps, _, .lst _ r => by simp only [PyData.plain]; exact dp_plainL ps r
  | .tuple ps, _, .tup _ r => by simp only [PyData.plain]; exact dp_plainL ps r
  | .dict _, _, h => by cases h
theorem dp_plainL : ∀ (ps : List PyData) {vs : List V}, DpAll K H vs ps → PyData.plainAll ps = true
  | [], _, _ => rfl
  | p :: ps, _, .cons h r => by simp only [PyData.plainAll, dp_plain p h, dp_plainL ps r, Bool.and_self]
end
end
theorem Vw.dp {K : PySem.W.Frag} {w : Wd} {v : V} {d : D} {p : PyData} (e : Ext w.G w.H) (h : Vw K w v d) (q : toPy d = some p) : Dp K w.H v p := by
  cases d with
  | non => cases h; simp [toPy] at q; subst q; exact .non
  | bl b => cases h; simp [toPy] at q; subst q; exact .bl _
  | int b => cases h; simp [toPy] at q; subst q; exact .int _
  | str b => cases h; simp [toPy] at q; subst q; exact .str _
  | raw _ => simp [toPy] at q
  | gh _ => simp [toPy] at q
  | dK _ => simp [toPy] at q
  | dT _ => simp [toPy] at q
  | tup ds =>
    obtain ⟨a, xs, rfl, h1, r⟩ := h
    cases z : toPyL ds with
    | none => simp [toPy, z] at q
    | some ps => simp [toPy, z] at q; subst q; exact .tup (.inl (.inl (e _ _ h1))) (RepL.dp e ds r z)
  | kt ds =>
    obtain ⟨a, xs, rfl, h1, r⟩ := h
    cases z : toPyL ds with
    | none => simp [toPy, z] at q
    | some ps => simp [toPy, z] at q; subst q; exact .tup (sqT_ext e h1) (RepL.dp e ds r z)
  | lst ds =>
    obtain ⟨a, xs, rfl, h1, r⟩ := h
    cases z : toPyL ds with
    | none => simp [toPy, z] at q
    | some ps => simp [toPy, z] at q; subst q; exact .lst (.inl (.inl h1)) (RepL.dp e ds r z)
  | kl ds =>
    obtain ⟨a, xs, rfl, h1, r⟩ := h
    cases z : toPyL ds with
    | none => simp [toPy, z] at q
    | some ps => simp [toPy, z] at q; subst q; exact .lst (sqL_ext e h1) (RepL.dp e ds r z)

/-! ### what an expression gives is kept -/
def keep (m : M) : Ret → Option (D × M)
  | .fz d => some (d, m)
  | .tmp d => some (d, m)
  | .sl i => match m.env[i]? with
    | some (.own d) => some (d, m.set i (.val d))
    | some (.val d) => some (d, m)
    | _ => none
theorem SOk.frzA {K : PySem.W.Frag} {w0 w : Wd} {m0 m : M} {p : Addr} {o : HO} (a : Aft K w0 m0 w m) (h : w.H p = some o) (hg : w.G p = none) (n : ¬ Own w m p) (h0 : w0.H p = none) : Aft K w0 m0 (w.frz p o) m := by
  obtain ⟨s, k⟩ := a.ok.frz h hg n
  exact ⟨s, k w0.H h0 w0 _ rfl a.st⟩
theorem keep_ok {K : PySem.W.Frag} {w0 w : Wd} {m0 m m' : M} {v : V} {r : Ret} {d : D} (a : Aft K w0 m0 w m) (h : RetOk K w0.H w m v r) (e : keep m r = some (d, m')) :
    ∃ w', w'.σ = w.σ ∧ w'.H = w.H ∧ Aft K w0 m0 w' m' ∧ Rep K w'.γ w'.G v d := by
  cases r with
  | fz d' => cases e; exact ⟨w, rfl, rfl, a, h⟩
  | tmp d' =>
    cases e
    obtain ⟨p, o, rfl, h1, h2, h3, h4, h5⟩ := h
    exact ⟨w.frz p o, rfl, rfl, SOk.frzA a h4 h2 h3 h1, Rep.ofO upd_same (h5.mono (Pre.refl _) (ext_upd h2))⟩
  | sl i =>
    have h : w.σ[i]? = some (some v) := h
    dsimp only [keep] at e
    split at e
    · rename_i d' he
      cases e
      obtain ⟨b, o, h1, h2, h3, h4, h5⟩ := a.ok.own i _ he
      rw [h] at h1
      cases h1
      obtain ⟨s, st⟩ := a.ok.slotFrz he h h4 h2 h3 h5
      exact ⟨w.frz b o, rfl, rfl, ⟨s, a.st.trans st⟩, Rep.ofO upd_same (h5.mono (Pre.refl _) (ext_upd h2))⟩
    · rename_i d' he
      cases e
      obtain ⟨v', h1, h2⟩ := a.ok.val i _ he
      rw [h] at h1
      cases h1
      exact ⟨w, rfl, rfl, a, h2⟩
    · cases e

theorem retFz {K : PySem.W.Frag} {H0 : Hp} {w : Wd} {m : M} {v : V} {d : D} (h : Rep K w.γ w.G v d) : RetOk K H0 w m v (.fz d) := h
theorem retSl {K : PySem.W.Frag} {H0 : Hp} {w : Wd} {m : M} {v : V} {i : Nat} (h : w.σ[i]? = some (some v)) : RetOk K H0 w m v (.sl i) := h
section
variable {X : Cx} {W : WX} {a b : Expr} {es : List Expr} {fa fb : FE} {ga : FA} {pos : Pos}
/-! ### names, constants -/
def fVar (i : Nat) : FE := fun m Q _ => match m.env[i]? with
  | some (.val d) => Q (.fz d) m
  | some (.own _) => Q (.sl i) m
  | _ => False
theorem ve_var (i : Nat) {x : Str} (hN : X.N[i]? = some x := by rfl) (hv : Vis X.env.scope x := by first | exact Or.inl rfl | exact Or.inr (Or.inl rfl) | exact Or.inr (Or.inr rfl)) (hd : (x == ("__debug__" : Str)) = false := by decide)
    (hcd : (x == ("__classdict__" : Str)) = false := by decide) : VE X W (.Name x pos) (fVar i) := by
  refine ⟨⟨_, pe_var hN hv hd hcd, fun w m Q Qx Q' s h k kx => ?_⟩⟩
  show ∃ v, w.σ[i]? = some (some v) ∧ Q' v w.H
  unfold fVar at h
  split at h
  · rename_i d e
    obtain ⟨v, h1, h2⟩ := s.val i d e
    exact ⟨v, h1, k _ m w v rfl (.refl s) (retFz h2) h⟩
  · rename_i d e
    obtain ⟨p, o, h1, _⟩ := s.own i d e
    exact ⟨_, h1, k _ m w _ rfl (.refl s) (retSl h1) h⟩
  · exact h.elim
def fC (d : D) : FE := fun m Q _ => Q (.fz d) m
theorem ve_int {i j pos} : VE X W (.Constant (.int i) j pos) (fC (.int i)) := ⟨⟨_, pe_int, fun w m Q Qx Q' s h k kx => k _ m w _ rfl (.refl s) (retFz (.int i)) h⟩⟩
theorem ve_bl {i j pos} : VE X W (.Constant (.bool i) j pos) (fC (.bl i)) := ⟨⟨_, pe_bl, fun w m Q Qx Q' s h k kx => k _ m w _ rfl (.refl s) (retFz (.bl i)) h⟩⟩
theorem ve_non {j pos} : VE X W (.Constant .none j pos) (fC .non) := ⟨⟨_, pe_non, fun w m Q Qx Q' s h k kx => k _ m w _ rfl (.refl s) (retFz .non) h⟩⟩
theorem ve_str {i j pos} : VE X W (.Constant (.str i) j pos) (fC (.str i)) := ⟨⟨_, pe_str, fun w m Q Qx Q' s h k kx => k _ m w _ rfl (.refl s) (retFz (.str i)) h⟩⟩
/-- a global name, as it is -/
theorem ve_glob {x : Str} {v : V} {u : Value} {pos : Pos} (hg : Gl X x) (hm : X.mg x = some u) (r : RelV v u) (hd : (x == ("__debug__" : Str)) = false := by decide) : VE X W (.Name x pos) (fC (.raw v)) :=
  ⟨⟨_, pe_glob hg hm r hd, fun w m Q Qx Q' s h k kx => k _ m w _ rfl (.refl s) (retFz (.raw v)) h⟩⟩
theorem ve_globInt {x : Str} {i : Int} {t : Tok} {pos : Pos} (hg : Gl X x) (hm : X.mg x = some (.int i t)) (hd : (x == ("__debug__" : Str)) = false := by decide) : VE X W (.Name x pos) (fC (.int i)) :=
  ⟨⟨_, pe_glob (v := .int i) hg hm ⟨_, rfl⟩ hd, fun w m Q Qx Q' s h k kx => k _ m w _ rfl (.refl s) (retFz (.int i)) h⟩⟩
theorem ve_globStr {x : Str} {z : Str} {t : Tok} {pos : Pos} (hg : Gl X x) (hm : X.mg x = some (.str z t)) (hd : (x == ("__debug__" : Str)) = false := by decide) : VE X W (.Name x pos) (fC (.str z)) :=
  ⟨⟨_, pe_glob (v := .str z) hg hm ⟨_, rfl⟩ hd, fun w m Q Qx Q' s h k kx => k _ m w _ rfl (.refl s) (retFz (.str z)) h⟩⟩

/-! ### two values, one value: by what is seen -/
abbrev G2 := D → D → (Ret → Prop) → Prop
abbrev G1 := D → (Ret → Prop) → Prop
def OpV (K : PySem.W.Frag) (r2 : R2) (g : G2) : Prop := ∀ (w : Wd) (m : M) (v u : V) (d e : D) (k : Ret → Prop) (Q' : VK), SOk K w m → Vw K w v d → Vw K w u e → g d e k →
  (∀ r w' v', w'.σ = w.σ → Aft K w m w' m → RetOk K w.H w' m v' r → k r → Q' v' w'.H) → r2 v u w.H Q'
def UnV (K : PySem.W.Frag) (r1 : V → Hp → VK → Prop) (g : G1) : Prop := ∀ (w : Wd) (m : M) (v : V) (d : D) (k : Ret → Prop) (Q' : VK), SOk K w m → Vw K w v d → g d k →
  (∀ r w' v', w'.σ = w.σ → Aft K w m w' m → RetOk K w.H w' m v' r → k r → Q' v' w'.H) → r1 v w.H Q'
def fOp (g : G2) (fa fb : FE) : FE := fun m Q Qx => fa m (fun ra m1 => fb m1 (fun rb m2 => bindO (view m2 ra) fun d => bindO (view m2 rb) fun e => g d e fun r => Q r m2) Qx) Qx
def fUn (g : G1) (fa : FE) : FE := fun m Q Qx => fa m (fun ra m1 => bindO (view m1 ra) fun d => g d fun r => Q r m1) Qx
/-- the core of all rules with two operands -/
theorem bin_core {K : PySem.W.Frag} {r2 : R2} {g : G2} (hv : OpV K r2 g) {ta tb : TE} {fa fb : FE} 
    (sa : ∀ (w : Wd) (m : M) (Q : Ret → M → Prop) (Qx : PX) (Q' : VK), SOk K w m → fa m Q Qx → (∀ r m' w' v, w'.σ = w.σ → Aft K w m w' m' → RetOk K w.H w' m' v r → Q r m' → Q' v w'.H) → ExOk K W w m Qx → ta w.σ w.H Q')
    (sb : ∀ (w : Wd) (m : M) (Q : Ret → M → Prop) (Qx : PX) (Q' : VK), SOk K w m → fb m Q Qx → (∀ r m' w' v, w'.σ = w.σ → Aft K w m w' m' → RetOk K w.H w' m' v r → Q r m' → Q' v w'.H) → ExOk K W w m Qx → tb w.σ w.H Q')
    {w : Wd} {m : M} {Q : Ret → M → Prop} {Qx : PX} {Q' : VK} (s : SOk K w m) (h : fOp g fa fb m Q Qx) (k : ∀ r m' w' v, w'.σ = w.σ → Aft K w m w' m' → RetOk K w.H w' m' v r → Q r m' → Q' v w'.H) (kx : ExOk K W w m Qx) : tOp r2 ta tb w.σ w.H Q' := by
  refine sa w m _ Qx _ s h (fun ra m1 w1 x e1 a1 r1 q1 => ?_) kx
  rw [← e1]
  refine sb w1 m1 _ Qx _ a1.ok q1 (fun rb m2 w2 y e2 a2 r2' q2 => ?_) (kx.aft a1 e1)
  obtain ⟨d, hd, q2⟩ := bindO_elim q2
  obtain ⟨e, he, q2⟩ := bindO_elim q2
  have ra' := r1.step a2.st e2
  refine hv w2 m2 x y d e _ Q' a2.ok (a2.ok.view ra' hd) (a2.ok.view r2' he) q2 fun r w3 v' e3 a3 r3 k3 => ?_
  have a12 := a1.trans a2
  exact k r m2 w3 v' (e3.trans (e2.trans e1)) (a12.trans a3) (r3.from fun _ z => a12.st.back z) k3
theorem ve_op {op : Operator} {r2 : R2} {g : G2} (ho : OpR X (binaryOp op) r2) (hv : OpV X.K r2 g) (ha : VE X W a fa) (hb : VE X W b fb) : VE X W (.BinOp a op b pos) (fOp g fa fb) := by
  obtain ⟨ta, pa, sa⟩ := ha.ex
  obtain ⟨tb, pb, sb⟩ := hb.ex
  exact ⟨⟨_, pe_op ho pa pb, fun w m Q Qx Q' s h k kx => bin_core hv sa sb s h k kx⟩⟩
theorem ve_cmp {op : CmpOp} {r2 : R2} {g : G2} (ho : OpR X (compareOp op) r2) (hv : OpV X.K r2 g) (ha : VE X W a fa) (hb : VE X W b fb) (hm : behindInMarks op b = false := by first | rfl | exact nomark _ | (cases b <;> rfl)) : VE X W (.Compare a [op] [b] pos) (fOp g fa fb) := by
  obtain ⟨ta, pa, sa⟩ := ha.ex
  obtain ⟨tb, pb, sb⟩ := hb.ex
  exact ⟨⟨_, pe_cmpR ho pa pb hm, fun w m Q Qx Q' s h k kx => bin_core hv sa sb s h k kx⟩⟩
def asB : Ret → Option Bool
  | .fz (.bl b) => some b
  | _ => none
theorem asB_ok {K : PySem.W.Frag} {H0 : Hp} {w : Wd} {m : M} {v : V} {r : Ret} {c : Bool} (h : RetOk K H0 w m v r) (e : asB r = some c) : v = .bl c := by
  cases r with
  | fz d =>
    cases d <;> simp [asB] at e
    subst e
    cases h
    rfl
  | tmp d => simp [asB] at e
  | sl i => simp [asB] at e
def fTest (f : FE) : FT := fun m Q Qx => f m (fun r m1 => bindO (asB r) fun c => Q c m1) Qx
theorem vt_cmp {op : CmpOp} {r2 : R2} {g : G2} (ho : OpR X (compareOp op) r2) (hv : OpV X.K r2 g) (ha : VE X W a fa) (hb : VE X W b fb) (hm : behindInMarks op b = false := by first | rfl | exact nomark _ | (cases b <;> rfl)) : VT X W (.Compare a [op] [b] pos) (fTest (fOp g fa fb)) := by
  obtain ⟨ta, pa, sa⟩ := ha.ex
  obtain ⟨tb, pb, sb⟩ := hb.ex
  refine ⟨⟨_, pt_cmpR ho pa pb hm, fun w m Q Qx Q' s h k kx => ?_⟩⟩
  refine bin_core hv sa sb s h (fun r m' w' v e a1 r1 q => ?_) kx
  obtain ⟨c, hc, q⟩ := bindO_elim q
  exact ⟨c, asB_ok r1 hc, k c m' w' e a1 q⟩
theorem vt_val {f : FE} (ha : VE X W a f) (he : ∀ whole, isTrue a X.env whole = (do let v ← whole; standAt a.pos; holding [v] (truthy v)) := by intro _; rfl) : VT X W a (fTest f) := by
  obtain ⟨ta, pa, sa⟩ := ha.ex
  refine ⟨⟨_, pt_val pa he, fun w m Q Qx Q' s h k kx => ?_⟩⟩
  refine sa w m _ Qx _ s h (fun r m' w' v e a1 r1 q => ?_) kx
  obtain ⟨c, hc, q⟩ := bindO_elim q
  exact ⟨c, asB_ok r1 hc, k c m' w' e a1 q⟩
theorem ve_un {op : UnaryOp} {r1 : V → Hp → VK → Prop} {g : G1} (ho : UnR X (unaryOp op) r1) (hv : UnV X.K r1 g) (ha : VE X W a fa) : VE X W (.UnaryOp op a pos) (fUn g fa) := by
  obtain ⟨ta, pa, sa⟩ := ha.ex
  refine ⟨⟨_, pe_un ho pa, fun w m Q Qx Q' s h k kx => ?_⟩⟩
  refine sa w m _ Qx _ s h (fun r m' w' v e a1 r1 q => ?_) kx
  obtain ⟨d, hd, q⟩ := bindO_elim q
  refine hv w' m' v d _ Q' a1.ok (a1.ok.view r1 hd) q fun r w3 v' e3 a3 r3 k3 => ?_
  exact k r m' w3 v' (e3.trans e) (a1.trans a3) (r3.from fun _ z => a1.st.back z) k3

/-! ### and, or, not, if .. else -/
def fAnd (f g : FT) : FT := fun m Q Qx => f m (fun c m1 => iteP c (g m1 Q Qx) (Q false m1)) Qx
def fOr (f g : FT) : FT := fun m Q Qx => f m (fun c m1 => iteP c (Q true m1) (g m1 Q Qx)) Qx
def fNot (f : FT) : FT := fun m Q Qx => f m (fun c m1 => Q (!c) m1) Qx
variable {ft gt : FT} {rest : List Expr}
theorem VW.vt (h : VW X W a ft) : VT X W a ft := by
  obtain ⟨t, p, s⟩ := h.ex
  exact ⟨⟨t, p.pt, s⟩⟩
theorem vw_and1 (ha : VT X W a ft) : VW X W (.BoolOp .And [a] pos) ft := by
  obtain ⟨t, p, s⟩ := ha.ex
  exact ⟨⟨t, pw_and1 p, s⟩⟩
theorem vw_or1 (ha : VT X W a ft) : VW X W (.BoolOp .Or [a] pos) ft := by
  obtain ⟨t, p, s⟩ := ha.ex
  exact ⟨⟨t, pw_or1 p, s⟩⟩
theorem vw_and (ha : VT X W a ft) (hb : VW X W (.BoolOp .And (b :: rest) pos) gt) : VW X W (.BoolOp .And (a :: b :: rest) pos) (fAnd ft gt) := by
  obtain ⟨ta, pa, sa⟩ := ha.ex
  obtain ⟨tb, pb, sb⟩ := hb.ex
  refine ⟨⟨_, pw_and pa pb, fun w m Q Qx Q' s h k kx => ?_⟩⟩
  refine sa w m _ Qx _ s h (fun c m1 w1 e1 a1 q => ?_) kx
  cases c with
  | false => exact k false m1 w1 e1 a1 (q.2 rfl)
  | true =>
    rw [if_pos rfl, ← e1]
    exact sb w1 m1 Q Qx Q' a1.ok (q.1 rfl) (fun r m' w' e a' q' => k r m' w' (e.trans e1) (a1.trans a') q') (kx.aft a1 e1)
theorem vw_or (ha : VT X W a ft) (hb : VW X W (.BoolOp .Or (b :: rest) pos) gt) : VW X W (.BoolOp .Or (a :: b :: rest) pos) (fOr ft gt) := by
  obtain ⟨ta, pa, sa⟩ := ha.ex
  obtain ⟨tb, pb, sb⟩ := hb.ex
  refine ⟨⟨_, pw_or pa pb, fun w m Q Qx Q' s h k kx => ?_⟩⟩
  refine sa w m _ Qx _ s h (fun c m1 w1 e1 a1 q => ?_) kx
  cases c with
  | true => exact k true m1 w1 e1 a1 (q.1 rfl)
  | false =>
    rw [if_neg Bool.false_ne_true, ← e1]
    exact sb w1 m1 Q Qx Q' a1.ok (q.2 rfl) (fun r m' w' e a' q' => k r m' w' (e.trans e1) (a1.trans a') q') (kx.aft a1 e1)
theorem vt_not (ha : VT X W a ft) : VT X W (.UnaryOp .Not a pos) (fNot ft) := by
  obtain ⟨ta, pa, sa⟩ := ha.ex
  exact ⟨⟨_, pt_not pa, fun w m Q Qx Q' s h k kx => sa w m _ Qx _ s h (fun c m1 w1 e1 a1 q => k (!c) m1 w1 e1 a1 q) kx⟩⟩
def fIf (ft : FT) (fa fb : FE) : FE := fun m Q Qx => ft m (fun c m1 => iteP c (fa m1 Q Qx) (fb m1 Q Qx)) Qx
theorem ve_if {c : Expr} (hc : VT X W c ft) (ha : VE X W a fa) (hb : VE X W b fb) : VE X W (.IfExp c a b pos) (fIf ft fa fb) := by
  obtain ⟨tc, pc, sc⟩ := hc.ex
  obtain ⟨ta, pa, sa⟩ := ha.ex
  obtain ⟨tb, pb, sb⟩ := hb.ex
  refine ⟨⟨_, pe_ifExp pc pa pb, fun w m Q Qx Q' s h k kx => ?_⟩⟩
  refine sc w m _ Qx _ s h (fun c m1 w1 e1 a1 q => ?_) kx
  cases c with
  | true =>
    rw [if_pos rfl, ← e1]
    exact sa w1 m1 Q Qx Q' a1.ok (q.1 rfl) (fun r m' w' v e a' r' q' => k r m' w' v (e.trans e1) (a1.trans a') (r'.from fun _ z => a1.st.back z) q') (kx.aft a1 e1)
  | false =>
    rw [if_neg Bool.false_ne_true, ← e1]
    exact sb w1 m1 Q Qx Q' a1.ok (q.2 rfl) (fun r m' w' v e a' r' q' => k r m' w' v (e.trans e1) (a1.trans a') (r'.from fun _ z => a1.st.back z) q') (kx.aft a1 e1)
/-- and, or, not as values: truths -/
def fAndV (f g : FE) : FE := fun m Q Qx => f m (fun r m1 => bindO (asB r) fun c => iteP c (g m1 Q Qx) (Q (.fz (.bl false)) m1)) Qx
def fOrV (f g : FE) : FE := fun m Q Qx => f m (fun r m1 => bindO (asB r) fun c => iteP c (Q (.fz (.bl true)) m1) (g m1 Q Qx)) Qx
def fNotV (f : FE) : FE := fun m Q Qx => f m (fun r m1 => bindO (asB r) fun c => Q (.fz (.bl (!c))) m1) Qx
theorem ve_one {op} (ha : VE X W a fa) : VE X W (.BoolOp op [a] pos) fa := by
  obtain ⟨ta, pa, sa⟩ := ha.ex
  exact ⟨⟨_, pe_one pa, sa⟩⟩
theorem ve_and (ha : VE X W a fa) (hb : VE X W (.BoolOp .And (b :: rest) pos) fb) : VE X W (.BoolOp .And (a :: b :: rest) pos) (fAndV fa fb) := by
  obtain ⟨ta, pa, sa⟩ := ha.ex
  obtain ⟨tb, pb, sb⟩ := hb.ex
  refine ⟨⟨_, pe_and pa pb, fun w m Q Qx Q' s h k kx => ?_⟩⟩
  refine sa w m _ Qx _ s h (fun r m1 w1 v e1 a1 r1 q => ?_) kx
  obtain ⟨c, hc, q⟩ := bindO_elim q
  refine ⟨c, asB_ok r1 hc, ?_⟩
  cases c with
  | true =>
    rw [if_pos rfl, ← e1]
    exact sb w1 m1 Q Qx Q' a1.ok (q.1 rfl) (fun r m' w' v e a' r' q' => k r m' w' v (e.trans e1) (a1.trans a') (r'.from fun _ z => a1.st.back z) q') (kx.aft a1 e1)
  | false => exact k (.fz (.bl false)) m1 w1 _ e1 a1 (.bl false) (q.2 rfl)
theorem ve_or (ha : VE X W a fa) (hb : VE X W (.BoolOp .Or (b :: rest) pos) fb) : VE X W (.BoolOp .Or (a :: b :: rest) pos) (fOrV fa fb) := by
  obtain ⟨ta, pa, sa⟩ := ha.ex
  obtain ⟨tb, pb, sb⟩ := hb.ex
  refine ⟨⟨_, pe_or pa pb, fun w m Q Qx Q' s h k kx => ?_⟩⟩
  refine sa w m _ Qx _ s h (fun r m1 w1 v e1 a1 r1 q => ?_) kx
  obtain ⟨c, hc, q⟩ := bindO_elim q
  refine ⟨c, asB_ok r1 hc, ?_⟩
  cases c with
  | false =>
    rw [if_neg Bool.false_ne_true, ← e1]
    exact sb w1 m1 Q Qx Q' a1.ok (q.2 rfl) (fun r m' w' v e a' r' q' => k r m' w' v (e.trans e1) (a1.trans a') (r'.from fun _ z => a1.st.back z) q') (kx.aft a1 e1)
  | true => exact k (.fz (.bl true)) m1 w1 _ e1 a1 (.bl true) (q.1 rfl)
theorem ve_not (ha : VE X W a fa) : VE X W (.UnaryOp .Not a pos) (fNotV fa) := by
  obtain ⟨ta, pa, sa⟩ := ha.ex
  refine ⟨⟨_, pe_not pa, fun w m Q Qx Q' s h k kx => ?_⟩⟩
  refine sa w m _ Qx _ s h (fun r m1 w1 v e1 a1 r1 q => ?_) kx
  obtain ⟨c, hc, q⟩ := bindO_elim q
  exact ⟨c, asB_ok r1 hc, k (.fz (.bl (!c))) m1 w1 _ e1 a1 (.bl _) q⟩

/-! ### argument lists, displays -/
def aNil : FA := fun m Q _ => Q [] m
def aCons (f : FE) (g : FA) : FA := fun m Q Qx => f m (fun r m1 => bindO (keep m1 r) fun p => g p.2 (fun ds m2 => Q (p.1 :: ds) m2) Qx) Qx
theorem va_nil : VA X W [] aNil := ⟨⟨_, pa_nil, fun w m Q Qx Q' s h k kx => k [] m w [] rfl (.refl s) .nil h⟩⟩
theorem va_cons (ha : VE X W a fa) (hb : VA X W es ga) (hs : starEach (a :: es) X.env = (false, eval a X.env) :: starEach es X.env := by rfl) : VA X W (a :: es) (aCons fa ga) := by
  obtain ⟨ta, pa, sa⟩ := ha.ex
  obtain ⟨tb, pb, sb⟩ := hb.ex
  refine ⟨⟨_, pa_cons pa pb hs, fun w m Q Qx Q' s h k kx => ?_⟩⟩
  refine sa w m _ Qx _ s h (fun r m1 w1 v e1 a1 r1 q => ?_) kx
  obtain ⟨⟨d, m2⟩, hk, q⟩ := bindO_elim q
  obtain ⟨w2, e2, eH, a2, r2⟩ := keep_ok a1 r1 hk
  rw [← eH, ← e1, ← e2]
  have e21 := e2.trans e1
  refine sb w2 m2 _ Qx _ a2.ok q (fun ds m3 w3 vs e3 a3 r3 q3 => ?_) (kx.aft a2 e21)
  exact k _ m3 w3 _ (e3.trans e21) (a2.trans a3) (.cons (r2.mono a3.st.gp a3.st.gg) r3) q3
def fTup (g : FA) : FE := fun m Q Qx => g m (fun ds m1 => ds.length ≤ sizeLine ∧ Q (.fz (.tup ds)) m1) Qx
def fLst (g : FA) : FE := fun m Q Qx => g m (fun ds m1 => ds.length ≤ sizeLine ∧ Q (.tmp (.lst ds)) m1) Qx
theorem ve_tup {x1} (hb : VA X W es ga) : VE X W (.Tuple es x1 pos) (fTup ga) := by
  obtain ⟨tb, pb, sb⟩ := hb.ex
  refine ⟨⟨_, pe_tup pb, fun w m Q Qx Q' s h k kx => ?_⟩⟩
  refine sb w m _ Qx _ s h (fun ds m1 w1 vs e1 a1 r1 q => ?_) kx
  refine ⟨by rw [r1.length]; exact q.1, fun p hp => ?_⟩
  obtain ⟨s2, st2⟩ := a1.ok.lay (o := .tup vs) hp
  exact k _ m1 (w1.lay p (.tup vs)) _ e1 (a1.trans ⟨s2, st2⟩) (retFz (.tup upd_same (r1.mono (Pre.refl _) st2.gg))) q.2
theorem ve_lst (hb : VA X W es ga) : VE X W (.List es pos) (fLst ga) := by
  obtain ⟨tb, pb, sb⟩ := hb.ex
  refine ⟨⟨_, pe_lst pb, fun w m Q Qx Q' s h k kx => ?_⟩⟩
  refine sb w m _ Qx _ s h (fun ds m1 w1 vs e1 a1 r1 q => ?_) kx
  refine ⟨by rw [r1.length]; exact q.1, fun p hp => ?_⟩
  obtain ⟨s2, st2⟩ := a1.ok.put (o := .lst vs) hp
  exact k _ m1 (w1.put p (.lst vs)) _ e1 (a1.trans ⟨s2, st2⟩) ((a1.ok.putRet hp (.lst r1)).from fun _ z => a1.st.back z) q.2
/-- what the expression gives is frozen at once -/
def fKeep (f : FE) : FE := fun m Q Qx => f m (fun r m1 => bindO (keep m1 r) fun p => Q (.fz p.1) p.2) Qx
theorem ve_keep (ha : VE X W a fa) : VE X W a (fKeep fa) := by
  obtain ⟨ta, pa, sa⟩ := ha.ex
  refine ⟨⟨ta, pa, fun w m Q Qx Q' s h k kx => ?_⟩⟩
  refine sa w m _ Qx _ s h (fun r m1 w1 v e1 a1 r1 q => ?_) kx
  obtain ⟨⟨d, m2⟩, hk, q⟩ := bindO_elim q
  obtain ⟨w2, e2, eH, a2, r2⟩ := keep_ok a1 r1 hk
  rw [← eH]
  exact k _ m2 w2 v (e2.trans e1) a2 (retFz r2) q
/-- a slot's own container is shared from now on -/
def fShare (i : Nat) : FE := fun m Q _ => match m.env[i]? with
  | some (.own d) => Q (.fz (.gh m.gs.length)) ⟨m.env.set i (.val (.gh m.gs.length)), m.gs ++ [d]⟩
  | some (.val (.gh k)) => Q (.fz (.gh k)) m
  | _ => False
theorem ve_share (i : Nat) {x : Str} (hN : X.N[i]? = some x := by rfl) (hv : Vis X.env.scope x := by first | exact Or.inl rfl | exact Or.inr (Or.inl rfl) | exact Or.inr (Or.inr rfl)) (hd : (x == ("__debug__" : Str)) = false := by decide)
    (hcd : (x == ("__classdict__" : Str)) = false := by decide) : VE X W (.Name x pos) (fShare i) := by
  refine ⟨⟨_, pe_var hN hv hd hcd, fun w m Q Qx Q' s h k kx => ?_⟩⟩
  show ∃ v, w.σ[i]? = some (some v) ∧ Q' v w.H
  unfold fShare at h
  split at h
  · rename_i d e
    obtain ⟨p, o, h1, _⟩ := s.own i d e
    obtain ⟨s2, st2⟩ := s.share e h1
    refine ⟨_, h1, k (.fz (.gh m.gs.length)) ⟨m.env.set i (.val (.gh m.gs.length)), m.gs ++ [d]⟩ ⟨w.G, w.H, w.γ ++ [p], w.σ⟩ _ rfl ⟨s2, st2⟩ (retFz (.gh ?_)) h⟩
    show (w.γ ++ [p])[m.gs.length]? = some p
    rw [s.gl]; simp
  · rename_i j e
    obtain ⟨v, h1, h2⟩ := s.val i _ e
    exact ⟨v, h1, k _ m w v rfl (.refl s) (retFz h2) h⟩
  · exact h.elim
end
end VL

/-! The value layer: operators, subscripts, slices, built-ins. -/
namespace VL
open PySem PySem.Spec PyProof.Rows L2

section
variable {K : PySem.W.Frag}
theorem outFz {w : Wd} {m : M} {v : V} {d : D} {k : Ret → Prop} {Q' : VK} (s : SOk K w m) (q : ∀ r w' v', w'.σ = w.σ → Aft K w m w' m → RetOk K w.H w' m v' r → k r → Q' v' w'.H) (r : Rep K w.γ w.G v d) (h : k (.fz d)) : Q' v w.H :=
  q _ w v rfl (.refl s) (retFz r) h
theorem outTmp {w : Wd} {m : M} {p : Addr} {o : HO} {d : D} {k : Ret → Prop} {Q' : VK} (s : SOk K w m) (q : ∀ r w' v', w'.σ = w.σ → Aft K w m w' m → RetOk K w.H w' m v' r → k r → Q' v' w'.H) (hp : w.H p = none) (r : ORep K w.γ w.G o d) (h : k (.tmp d)) : Q' (.ref p) (upd w.H p o) := by
  obtain ⟨s2, st2⟩ := s.put (o := o) hp
  exact q (.tmp d) (w.put p o) (.ref p) rfl ⟨s2, st2⟩ (s.putRet hp r) h
theorem outNew {w : Wd} {m : M} {p : Addr} {xs : List V} {ds : List D} {k : Ret → Prop} {Q' : VK} (s : SOk K w m) (q : ∀ r w' v', w'.σ = w.σ → Aft K w m w' m → RetOk K w.H w' m v' r → k r → Q' v' w'.H) (hp : w.H p = none) (r : RepL K w.γ w.G xs ds) (h : k (.fz (.tup ds))) : Q' (.ref p) (upd w.H p (.tup xs)) := by
  obtain ⟨s2, st2⟩ := s.lay (o := .tup xs) hp
  exact q (.fz (.tup ds)) (w.lay p (.tup xs)) (.ref p) rfl ⟨s2, st2⟩ (retFz (.tup upd_same (r.mono (Pre.refl _) st2.gg))) h
theorem rep_nil {γ : List Addr} {G : Hp} {xs : List V} {ds : List D} (r : RepL K γ G xs ds) : xs = [] ↔ ds = [] := by
  cases r with
  | nil => simp
  | cons _ _ => simp

/-! ### arithmetic -/
def gAdd : G2 := fun d e k => match d, e with
  | .int i, .int j => k (.fz (.int (i + j)))
  | .int i, .bl b => k (.fz (.int (i + b2i b)))
  | .str x, .str y => x.length + y.length ≤ sizeLine ∧ k (.fz (.str (x ++ y)))
  | .lst a, .lst b => a.length + b.length ≤ sizeLine ∧ k (.tmp (.lst (a ++ b)))
  | .tup a, .tup b => a ≠ [] ∧ a.length + b.length ≤ sizeLine ∧ k (.fz (.tup (a ++ b)))
  | _, _ => False
def rAddAll (K : PySem.W.Frag) : R2 := fun x y H Q => (∃ i j, x = .int i ∧ y = .int j ∧ Q (.int (i + j)) H) ∨ (∃ i k, x = .int i ∧ y = .bl k ∧ Q (.int (i + b2i k)) H) ∨
  (∃ i j, x = .str i ∧ y = .str j ∧ i.length + j.length ≤ sizeLine ∧ Q (.str (i ++ j)) H) ∨ rCat x y H Q ∨ rCatT K x y H Q
theorem op_addAll {X : Cx} : OpR X (binaryOp .Add) (rAddAll X.K) := op_add.or (op_add_ib.or (op_add_str.or (op_cat.or op_catT)))
theorem addV : OpV K (rAddAll K) gAdd := by
  intro w m v u d e k Q' s hv hu h q
  unfold gAdd at h
  split at h
  · cases hv; cases hu
    exact .inl ⟨_, _, rfl, rfl, outFz s q (.int _) h⟩
  · cases hv; cases hu
    exact .inr (.inl ⟨_, _, rfl, rfl, outFz s q (.int _) h⟩)
  · cases hv; cases hu
    exact .inr (.inr (.inl ⟨_, _, rfl, rfl, h.1, outFz s q (.str _) h.2⟩))
  · obtain ⟨a, xs, rfl, h1, r1⟩ := hv
    obtain ⟨b, ys, rfl, h2, r2⟩ := hu
    refine .inr (.inr (.inr (.inl ⟨_, _, _, _, rfl, rfl, h1, h2, by rw [r1.length, r2.length]; exact h.1, fun p hp => ?_⟩)))
    exact outTmp s q hp (.lst (r1.append r2)) h.2
  · obtain ⟨a, xs, rfl, h1, r1⟩ := hv
    obtain ⟨b, ys, rfl, h2, r2⟩ := hu
    refine .inr (.inr (.inr (.inr ⟨_, _, _, _, rfl, rfl, .inl (.inl (s.sub _ _ h1)), .inl (.inl (s.sub _ _ h2)), fun z => h.1 ((rep_nil r1).mp z), by rw [r1.length, r2.length]; exact h.2.1, fun z => ?_, fun z p hp => ?_⟩)))
    · have z2 := (rep_nil r2).mp z
      subst z2
      have h3 := h.2.2
      rw [List.append_nil] at h3
      subst z
      exact outFz s q (.tup h1 r1) h3
    · exact outNew s q hp (r1.append r2) h.2.2
  · exact h.elim
def gInt (C : Int → Int → Prop) (g : Int → Int → Int) : G2 := fun d e k => match d, e with
  | .int i, .int j => C i j ∧ k (.fz (.int (g i j)))
  | _, _ => False
theorem intV {C : Int → Int → Prop} {g : Int → Int → Int} : OpV K (rI C fun i j => .int (g i j)) (gInt C g) := by
  intro w m v u d e k Q' s hv hu h q
  unfold gInt at h
  split at h
  · cases hv; cases hu
    exact ⟨_, _, rfl, rfl, h.1, outFz s q (.int _) h.2⟩
  · exact h.elim
def gSub : G2 := fun d e k => match d, e with
  | .int i, .int j => k (.fz (.int (i - j)))
  | _, _ => False
theorem subV : OpV K (rI0 fun i j => .int (i - j)) gSub := by
  intro w m v u d e k Q' s hv hu h q
  unfold gSub at h
  split at h
  · cases hv; cases hu
    exact ⟨_, _, rfl, rfl, outFz s q (.int _) h⟩
  · exact h.elim
def gMul : G2 := fun d e k => match d, e with
  | .int i, .int j => CMul i j ∧ k (.fz (.int (i * j)))
  | .lst a, .int j => -(2 ^ 63) ≤ j ∧ j < 2 ^ 63 ∧ a.length * j.toNat ≤ sizeLine ∧ k (.tmp (.lst (List.replicate j.toNat a).flatten))
  | _, _ => False
def rMulAll : R2 := fun x y H Q => rI CMul (fun i j => .int (i * j)) x y H Q ∨ rRep x y H Q
theorem op_mulAll {X : Cx} : OpR X (binaryOp .Mult) rMulAll := op_mul.or op_rep
theorem mulV : OpV K rMulAll gMul := by
  intro w m v u d e k Q' s hv hu h q
  unfold gMul at h
  split at h
  · cases hv; cases hu
    exact .inl ⟨_, _, rfl, rfl, h.1, outFz s q (.int _) h.2⟩
  · rename_i ds j
    obtain ⟨a, xs, rfl, h1, r1⟩ := hv
    cases hu
    refine .inr ⟨_, _, _, rfl, rfl, h1, h.1, h.2.1, by rw [r1.length]; exact h.2.2.1, fun p hp => ?_⟩
    refine outTmp s q hp (.lst ?_) h.2.2.2
    refine RepL.flat (by simp) fun i vs es e1 e2 => ?_
    rw [List.getElem?_replicate] at e1 e2
    split at e1
    · rename_i hi
      rw [if_pos hi] at e2
      cases e1; cases e2
      exact r1
    · cases e1
  · exact h.elim
abbrev gDiv : G2 := gInt CDiv fun i j => i / j
abbrev gMod : G2 := gInt (fun _ j => 0 < j) fun i j => i % j
abbrev gPow : G2 := gInt CPow fun i j => i ^ j.toNat
def gCmp (p : Int → Int → Bool) : G2 := fun d e k => match d, e with
  | .int i, .int j => k (.fz (.bl (p i j)))
  | _, _ => False
theorem cmpV {p : Int → Int → Bool} : OpV K (rI0 fun i j => .bl (p i j)) (gCmp p) := by
  intro w m v u d e k Q' s hv hu h q
  unfold gCmp at h
  split at h
  · cases hv; cases hu
    exact ⟨_, _, rfl, rfl, outFz s q (.bl _) h⟩
  · exact h.elim
abbrev gLt : G2 := gCmp fun i j => decide (i < j)
abbrev gLe : G2 := gCmp fun i j => decide (i ≤ j)
abbrev gGt : G2 := gCmp fun i j => decide (j < i)
abbrev gGe : G2 := gCmp fun i j => decide (j ≤ i)
def gIsN : G2 := fun d e k => match e with
  | .non => match d with
    | .raw _ => False
    | .gh _ => k (.fz (.bl false))
    | .non => k (.fz (.bl true))
    | _ => k (.fz (.bl false))
  | _ => False
def gIsRaw : G2 := fun d e k => match d, e with
  | .raw v, .non => k (.fz (.bl (decide (v = .non))))
  | d, .non => k (.fz (.bl (match d with | .non => true | _ => false)))
  | _, _ => False
def isNon : D → Bool
  | .non => true
  | .raw v => decide (v = .non)
  | _ => false
theorem isNon_ok {w : Wd} {v : V} {d : D} (h : Vw K w v d) : decide (v = .non) = isNon d := by
  cases d with
  | non => cases h; rfl
  | bl b => cases h; rfl
  | int b => cases h; rfl
  | str b => cases h; rfl
  | raw u => cases h; rfl
  | gh k => obtain ⟨a, rfl, _⟩ := h; rfl
  | tup ds => obtain ⟨a, xs, rfl, _⟩ := h; rfl
  | lst ds => obtain ⟨a, xs, rfl, _⟩ := h; rfl
  | kt ds => obtain ⟨a, xs, rfl, _⟩ := h; rfl
  | kl ds => obtain ⟨a, xs, rfl, _⟩ := h; rfl
  | dK ds => obtain ⟨a, xs, rfl, _⟩ := h; rfl
  | dT ds => obtain ⟨a, xs, rfl, _⟩ := h; rfl
def gIs (neg : Bool) : G2 := fun d e k => match e with
  | .non => k (.fz (.bl (if neg then !isNon d else isNon d)))
  | _ => False
theorem isV : OpV K (fun x y H Q => y = .non ∧ Q (.bl (decide (x = .non))) H) (gIs false) := by
  intro w m v u d e k Q' s hv hu h q
  unfold gIs at h
  split at h
  · cases hu
    refine ⟨rfl, outFz s q (d := .bl (decide (v = .non))) (.bl _) ?_⟩
    rw [isNon_ok hv]; exact h
  · exact h.elim
theorem isNotV : OpV K (fun x y H Q => y = .non ∧ Q (.bl (!decide (x = .non))) H) (gIs true) := by
  intro w m v u d e k Q' s hv hu h q
  unfold gIs at h
  split at h
  · cases hu
    refine ⟨rfl, outFz s q (d := .bl (!decide (v = .non))) (.bl _) ?_⟩
    rw [isNon_ok hv]; exact h
  · exact h.elim

/-! ### ==, !=, in, not in of data -/
def rEqP (K : PySem.W.Frag) (neg : Bool) : R2 := fun x y H Q => ∃ d e, Dp K H x d ∧ Dp K H y e ∧ min d.depth e.depth ≤ 64 ∧ Q (.bl (if neg then !PyData.eqv d e else PyData.eqv d e)) H
theorem op_eqP {X : Cx} (hu : X.A.units + 64 < cLine) : OpR X (compareOp .Eq) (rEqP X.K false) := by
  intro pins s σ H x y v u Q I rx ry h
  obtain ⟨d, e, hd, he, sd, q⟩ := h
  obtain ⟨as, r1⟩ := Dp.reads I d x v hd rx
  obtain ⟨bs, r2⟩ := Dp.reads I e y u he ry
  exact PySem.SeqAt.eq_plain r1 r2 (dp_plain d hd) (dp_plain e he) (by omega) ⟨.bl _, H, I, rfl, q⟩
theorem op_neP {X : Cx} (hu : X.A.units + 64 < cLine) : OpR X (compareOp .NotEq) (rEqP X.K true) := by
  intro pins s σ H x y v u Q I rx ry h
  obtain ⟨d, e, hd, he, sd, q⟩ := h
  obtain ⟨as, r1⟩ := Dp.reads I d x v hd rx
  obtain ⟨bs, r2⟩ := Dp.reads I e y u he ry
  exact PySem.SeqAt.ne_plain r1 r2 (dp_plain d hd) (dp_plain e he) (by omega) ⟨.bl _, H, I, rfl, q⟩
/-- == as Python's data say -/
@[irreducible] def eqO (d e : D) : Option Bool := (toPy d).bind fun p => (toPy e).bind fun p' => if min p.depth p'.depth ≤ 64 then some (PyData.eqv p p') else none
theorem eqO_elim {d e : D} {b : Bool} (h : eqO d e = some b) : ∃ p p', toPy d = some p ∧ toPy e = some p' ∧ min p.depth p'.depth ≤ 64 ∧ PyData.eqv p p' = b := by
  unfold eqO at h
  cases h1 : toPy d with
  | none => rw [h1] at h; cases h
  | some p =>
    rw [h1] at h
    cases h2 : toPy e with
    | none => rw [h2] at h; cases h
    | some p' =>
      rw [h2] at h
      by_cases c : min p.depth p'.depth ≤ 64
      · have h : (if min p.depth p'.depth ≤ 64 then some (PyData.eqv p p') else none) = some b := h
        rw [if_pos c] at h
        exact ⟨p, p', rfl, rfl, c, Option.some.inj h⟩
      · have h : (if min p.depth p'.depth ≤ 64 then some (PyData.eqv p p') else none) = some b := h
        rw [if_neg c] at h; cases h
theorem eqO_of {d e : D} {p p' : PyData} (h1 : toPy d = some p) (h2 : toPy e = some p') (h : min p.depth p'.depth ≤ 64) : eqO d e = some (PyData.eqv p p') := by
  unfold eqO
  rw [h1, h2]
  exact if_pos h
def gEq (neg : Bool) : G2 := fun d e k => match d, e with
  | .int i, .int j => k (.fz (.bl (if neg then !decide (i = j) else decide (i = j))))
  | .str i, .str j => k (.fz (.bl (if neg then !decide (i = j) else decide (i = j))))
  | .bl i, .bl j => k (.fz (.bl (if neg then !decide (i = j) else decide (i = j))))
  | d, e => bindO (eqO d e) fun b => k (.fz (.bl (if neg then !b else b)))
theorem eqv_int (i j : Int) : PyData.eqv (.int i) (.int j) = decide (i = j) := PySem.W.Datum.eqv (α := Int) i j
theorem eqv_str (i j : Str) : PyData.eqv (.str i) (.str j) = decide (i = j) := PySem.W.Datum.eqv (α := Str) i j
theorem eqv_bool (i j : Bool) : PyData.eqv (.bool i) (.bool j) = decide (i = j) := PySem.W.Datum.eqv (α := Bool) i j
theorem dep_int (i : Int) : (PyData.int i).depth = 0 := by simp [PyData.depth]
theorem dep_str (i : Str) : (PyData.str i).depth = 0 := by simp [PyData.depth]
theorem dep_bool (i : Bool) : (PyData.bool i).depth = 0 := by simp [PyData.depth]
theorem eqV' {neg : Bool} : OpV K (rEqP K neg) (gEq neg) := by
  intro w m v u d e k Q' s hv hu h q
  unfold gEq at h
  split at h
  · cases hv; cases hu
    exact ⟨_, _, .int _, .int _, by rw [dep_int]; omega, by rw [eqv_int]; exact outFz s q (.bl _) h⟩
  · cases hv; cases hu
    exact ⟨_, _, .str _, .str _, by rw [dep_str]; omega, by rw [eqv_str]; exact outFz s q (.bl _) h⟩
  · cases hv; cases hu
    exact ⟨_, _, .bl _, .bl _, by rw [dep_bool]; omega, by rw [eqv_bool]; exact outFz s q (.bl _) h⟩
  · obtain ⟨b, hb, h⟩ := bindO_elim h
    obtain ⟨p, p', hp, hp', hd, rfl⟩ := eqO_elim hb
    exact ⟨p, p', hv.dp s.sub hp, hu.dp s.sub hp', hd, outFz s q (.bl _) h⟩
/-- the parts of a list, a tuple -/
def seqOf : D → Option (List D)
  | .lst ds => some ds
  | .kl ds => some ds
  | .tup ds => some ds
  | .kt ds => some ds
  | _ => none
def inStr (s t : Str) : Bool := match s.cps.toList with
  | [c] => decide (c ∈ t.cps.toList)
  | _ => !(Builtin.Str.occurrences t s 0 t.length 1).isEmpty
theorem inStr_cases (s t : Str) : (∃ c, s.cps.toList = [c] ∧ inStr s t = decide (c ∈ t.cps.toList)) ∨ inStr s t = !(Builtin.Str.occurrences t s 0 t.length 1).isEmpty := by
  unfold inStr
  split
  · rename_i c hc
    exact .inl ⟨c, hc, rfl⟩
  · exact .inr rfl
def rInP (K : PySem.W.Frag) (neg : Bool) : R2 := fun x y H Q => (∃ d ds, Dp K H x d ∧ (Dp K H y (.list ds) ∨ Dp K H y (.tuple ds)) ∧ min (PyData.depthAll ds) d.depth ≤ 63 ∧ Q (.bl (if neg then !(ds.any fun z => PyData.eqv z d) else ds.any fun z => PyData.eqv z d)) H) ∨
  ∃ s t, x = .str s ∧ y = .str t ∧ Q (.bl (if neg then !inStr s t else inStr s t)) H
theorem str1 {s : Str} {c : Nat} (h : s.cps.toList = [c]) : s = ⟨#[c]⟩ := by
  apply Str.ext'
  apply Array.toList_inj.mp
  rw [h]
theorem op_inP {X : Cx} (hu : X.A.units + 64 < cLine) : OpR X (compareOp .In) (rInP X.K false) := by
  intro pins s σ H x y v u Q I rx ry h
  rcases h with ⟨d, ds, hd, he, sd, q⟩ | ⟨z, t, rfl, rfl, q⟩
  · obtain ⟨as, r1⟩ := Dp.reads I d x v hd rx
    rcases he with he | he
    · obtain ⟨bs, r2⟩ := Dp.reads I _ y u he ry
      have hp := dp_plain _ he
      simp only [PyData.plain] at hp
      exact PySem.SeqAt.in_list_data r2 r1 hp (dp_plain d hd) (by omega) ⟨.bl _, H, I, rfl, q⟩
    · obtain ⟨bs, r2⟩ := Dp.reads I _ y u he ry
      have hp := dp_plain _ he
      simp only [PyData.plain] at hp
      exact PySem.SeqAt.in_tuple_data r2 r1 hp (dp_plain d hd) (by omega) ⟨.bl _, H, I, rfl, q⟩
  · rcases inStr_cases z t with ⟨c, hc, e⟩ | e
    · rw [e] at q
      exact op_in_sign pins s σ H _ _ v u Q I rx ry ⟨c, t, by rw [str1 hc], rfl, q⟩
    · rw [e] at q
      exact op_in_str pins s σ H _ _ v u Q I rx ry ⟨z, t, rfl, rfl, q⟩
theorem op_notInP {X : Cx} (hu : X.A.units + 64 < cLine) : OpR X (compareOp .NotIn) (rInP X.K true) := by
  intro pins s σ H x y v u Q I rx ry h
  rcases h with ⟨d, ds, hd, he, sd, q⟩ | ⟨z, t, rfl, rfl, q⟩
  · obtain ⟨as, r1⟩ := Dp.reads I d x v hd rx
    rcases he with he | he
    · obtain ⟨bs, r2⟩ := Dp.reads I _ y u he ry
      have hp := dp_plain _ he
      simp only [PyData.plain] at hp
      exact PySem.SeqAt.notIn_list_data r2 r1 hp (dp_plain d hd) (by omega) ⟨.bl _, H, I, rfl, q⟩
    · obtain ⟨bs, r2⟩ := Dp.reads I _ y u he ry
      have hp := dp_plain _ he
      simp only [PyData.plain] at hp
      exact PySem.SeqAt.notIn_tuple_data r2 r1 hp (dp_plain d hd) (by omega) ⟨.bl _, H, I, rfl, q⟩
  · rcases inStr_cases z t with ⟨c, hc, e⟩ | e
    · rw [e] at q
      exact op_notIn_sign pins s σ H _ _ v u Q I rx ry ⟨c, t, by rw [str1 hc], rfl, q⟩
    · rw [e] at q
      exact op_notIn_str pins s σ H _ _ v u Q I rx ry ⟨z, t, rfl, rfl, q⟩
/-- x in a list, as Python's data say -/
@[irreducible] def inO (es : List D) (d : D) : Option Bool := (toPyL es).bind fun ps => (toPy d).bind fun p => if min (PyData.depthAll ps) p.depth ≤ 63 then some (ps.any fun z => PyData.eqv z p) else none
theorem inO_elim {es : List D} {d : D} {b : Bool} (h : inO es d = some b) : ∃ ps p, toPyL es = some ps ∧ toPy d = some p ∧ min (PyData.depthAll ps) p.depth ≤ 63 ∧ (ps.any fun z => PyData.eqv z p) = b := by
  unfold inO at h
  cases h1 : toPyL es with
  | none => rw [h1] at h; cases h
  | some ps =>
    rw [h1] at h
    cases h2 : toPy d with
    | none => rw [h2] at h; cases h
    | some p =>
      rw [h2] at h
      by_cases c : min (PyData.depthAll ps) p.depth ≤ 63
      · have h : (if min (PyData.depthAll ps) p.depth ≤ 63 then some (ps.any fun z => PyData.eqv z p) else none) = some b := h
        rw [if_pos c] at h
        exact ⟨ps, p, rfl, rfl, c, Option.some.inj h⟩
      · have h : (if min (PyData.depthAll ps) p.depth ≤ 63 then some (ps.any fun z => PyData.eqv z p) else none) = some b := h
        rw [if_neg c] at h; cases h
theorem inO_of {es : List D} {d : D} {ps : List PyData} {p : PyData} (h1 : toPyL es = some ps) (h2 : toPy d = some p) (h : min (PyData.depthAll ps) p.depth ≤ 63) : inO es d = some (ps.any fun z => PyData.eqv z p) := by
  unfold inO
  rw [h1, h2]
  exact if_pos h
def gIn (neg : Bool) : G2 := fun d e k => match e with
  | .str t => match d with
    | .str s => k (.fz (.bl (if neg then !inStr s t else inStr s t)))
    | _ => False
  | e => bindO (seqOf e) fun es => bindO (inO es d) fun b => k (.fz (.bl (if neg then !b else b)))
theorem inV' {neg : Bool} : OpV K (rInP K neg) (gIn neg) := by
  intro w m v u d e k Q' s hv hu h q
  unfold gIn at h
  split at h
  · split at h
    · cases hv; cases hu
      exact .inr ⟨_, _, rfl, rfl, outFz s q (.bl _) h⟩
    · exact h.elim
  · obtain ⟨es, he, h⟩ := bindO_elim h
    obtain ⟨b, hb, h⟩ := bindO_elim h
    obtain ⟨ps, p, hp, hp', hd, rfl⟩ := inO_elim hb
    refine .inl ⟨p, ps, hv.dp s.sub hp', ?_, hd, outFz s q (.bl _) h⟩
    cases e <;> simp [seqOf] at he <;> subst he
    · exact .inr (hu.dp s.sub (by simp [toPy, hp]))
    · exact .inl (hu.dp s.sub (by simp [toPy, hp]))
    · exact .inr (hu.dp s.sub (by simp [toPy, hp]))
    · exact .inl (hu.dp s.sub (by simp [toPy, hp]))

/-! ### subscripts, slices -/
def rIxAll (K : PySem.W.Frag) : R2 := rIx K
theorem atI_len {α β : Type} {xs : List α} {ys : List β} (e : xs.length = ys.length) {i : Int} {y : β} (h : atI ys i = some y) : ∃ j, ixN xs.length i = some j ∧ ys[j]? = some y := by
  unfold atI at h
  cases z : ixN ys.length i with
  | none => rw [z] at h; cases h
  | some j => rw [z] at h; exact ⟨j, by rw [e]; exact z, h⟩
theorem RepL.atI {γ : List Addr} {G : Hp} {xs : List V} {ds : List D} (r : RepL K γ G xs ds) {i : Int} {d : D} (h : L2.atI ds i = some d) : ∃ v, L2.atI xs i = some v ∧ Rep K γ G v d := by
  obtain ⟨j, h1, h2⟩ := atI_len r.length h
  obtain ⟨v, h3, h4⟩ := r.get h2
  exact ⟨v, by unfold L2.atI; rw [h1]; exact h3, h4⟩
def gIx : G2 := fun d e k => match e with
  | .int i => match d with
    | .str z => z.length ≤ sizeLine ∧ bindO (atI z.cps.toList i) fun c => k (.fz (.str ⟨#[c]⟩))
    | d => bindO (seqOf d) fun ds => bindO (atI ds i) fun x => k (.fz x)
  | _ => False
theorem ixV : OpV K (rIx K) gIx := by
  intro w m v u d e k Q' s hv hu h q
  unfold gIx at h
  split at h
  · cases hu
    split at h
    · cases hv
      obtain ⟨c, hc, h2⟩ := bindO_elim h.2
      exact .inr (.inr ⟨_, _, c, rfl, rfl, h.1, hc, outFz s q (.str _) h2⟩)
    · obtain ⟨ds, he, h'⟩ := bindO_elim h
      obtain ⟨x, hx, h3⟩ := bindO_elim h'
      cases d <;> simp [seqOf] at he <;> subst he
      · obtain ⟨a, xs, rfl, h1, r1⟩ := hv
        obtain ⟨y, h2, r2⟩ := r1.atI hx
        exact .inr (.inl ⟨a, xs, _, y, rfl, rfl, .inl (.inl (s.sub _ _ h1)), h2, outFz s q r2 h3⟩)
      · obtain ⟨a, xs, rfl, h1, r1⟩ := hv
        obtain ⟨y, h2, r2⟩ := r1.atI hx
        exact .inl ⟨a, xs, _, y, rfl, rfl, .inl (.inl h1), h2, outFz s q r2 h3⟩
      · obtain ⟨a, xs, rfl, h1, r1⟩ := hv
        obtain ⟨y, h2, r2⟩ := r1.atI hx
        exact .inr (.inl ⟨a, xs, _, y, rfl, rfl, sqT_ext s.sub h1, h2, outFz s q r2 h3⟩)
      · obtain ⟨a, xs, rfl, h1, r1⟩ := hv
        obtain ⟨y, h2, r2⟩ := r1.atI hx
        exact .inl ⟨a, xs, _, y, rfl, rfl, sqL_ext s.sub h1, h2, outFz s q r2 h3⟩
  · exact h.elim
section
variable {X : Cx} {W : WX} {a b : Expr} {fa fb : FE} {pos : Pos}
theorem ve_ix (ha : VE X W a fa) (hb : VE X W b fb) (hs : PlainIx b := by exact fun _ _ => rfl) : VE X W (.Subscript a b pos) (fOp gIx fa fb) := by
  obtain ⟨ta, pa, sa⟩ := ha.ex
  obtain ⟨tb, pb, sb⟩ := hb.ex
  exact ⟨⟨_, pe_ix ix_seq pa pb hs, fun w m Q Qx Q' s h k kx => bin_core ixV sa sb s h k kx⟩⟩
/-- a bound of a slice -/
abbrev FO := M → (Option Int → M → Prop) → PX → Prop
structure VO (X : Cx) (W : WX) (e : Option Expr) (f : FO) : Prop where
  ex : ∃ t, PO X e t ∧ ∀ (w : Wd) (m : M) (Q : Option Int → M → Prop) (Qx : PX) (Q' : Option Int → Hp → Prop), SOk X.K w m → f m Q Qx →
    (∀ r m' w', w'.σ = w.σ → Aft X.K w m w' m' → Q r m' → Q' r w'.H) → ExOk X.K W w m Qx → t w.σ w.H Q'
def oNone : FO := fun m Q _ => Q none m
def asI : Ret → Option Int
  | .fz (.int i) => some i
  | _ => none
theorem asI_ok {H0 : Hp} {w : Wd} {m : M} {v : V} {r : Ret} {c : Int} (h : RetOk K H0 w m v r) (e : asI r = some c) : v = .int c := by
  cases r with
  | fz d =>
    cases d <;> simp [asI] at e
    subst e
    cases h
    rfl
  | tmp d => simp [asI] at e
  | sl i => simp [asI] at e
def oSome (f : FE) : FO := fun m Q Qx => f m (fun r m1 => bindO (asI r) fun i => Q (some i) m1) Qx
theorem vo_none : VO X W none oNone := ⟨⟨_, po_none, fun w m Q Qx Q' s h k kx => k none m w rfl (.refl s) h⟩⟩
theorem vo_some (ha : VE X W a fa) : VO X W (some a) (oSome fa) := by
  obtain ⟨ta, pa, sa⟩ := ha.ex
  refine ⟨⟨_, po_some pa, fun w m Q Qx Q' s h k kx => ?_⟩⟩
  refine sa w m _ Qx _ s h (fun r m' w' v e a1 r1 q => ?_) kx
  obtain ⟨c, hc, q⟩ := bindO_elim q
  exact ⟨c, asI_ok r1 hc, k (some c) m' w' e a1 q⟩
/-- the cut of a list -/
def cutD {α : Type} (xs : List α) (lo hi : Option Int) : List α := (xs.drop (HT.sIx xs.length 0 lo)).take (HT.sIx xs.length xs.length hi - HT.sIx xs.length 0 lo)
def gSl (d : D) (lo hi : Option Int) (k : Ret → Prop) : Prop := match d with
  | .str z => z.length ≤ sizeLine ∧ k (.fz (.str (cutS z lo hi)))
  | .tup ds => (¬ (HT.sIx ds.length 0 lo = 0 ∧ HT.sIx ds.length ds.length hi = ds.length)) ∧ k (.fz (.tup (cutD ds lo hi)))
  | .lst ds => k (.tmp (.lst (cutD ds lo hi)))
  | .kl ds => k (.tmp (.lst (cutD ds lo hi)))
  | _ => False
def rSlAll (K : PySem.W.Frag) : V → Option Int → Option Int → Hp → VK → Prop := fun x lo hi H Q => rSlS x lo hi H Q ∨ rSlT K x lo hi H Q ∨ rSlL K x lo hi H Q
theorem sl_all : SlR X (rSlAll X.K) := sl_str.or (sl_tup.or sl_list)
def fSl (fe : FE) (fl fh : FO) : FE := fun m Q Qx => fe m (fun r m1 => fl m1 (fun lo m2 => fh m2 (fun hi m3 => bindO (view m3 r) fun d => gSl d lo hi fun r' => Q r' m3) Qx) Qx) Qx
theorem RepL.cut {γ : List Addr} {G : Hp} {xs : List V} {ds : List D} (r : RepL K γ G xs ds) (lo hi : Option Int) : RepL K γ G (cutV xs lo hi) (cutD ds lo hi) := by
  unfold cutV cutD
  rw [r.length]
  exact (r.drop _).take _
theorem ve_slice {lo hi : Option Expr} {fl fh : FO} {p2 : Pos} (ha : VE X W a fa) (hl : VO X W lo fl) (hh : VO X W hi fh) : VE X W (.Subscript a (.Slice lo hi none p2) pos) (fSl fa fl fh) := by
  obtain ⟨ta, pa, sa⟩ := ha.ex
  obtain ⟨tl, pl, sl⟩ := hl.ex
  obtain ⟨th, ph, sh⟩ := hh.ex
  refine ⟨⟨_, pe_slice sl_all pa pl ph, fun w m Q Qx Q' s h k kx => ?_⟩⟩
  refine sa w m _ Qx _ s h (fun r m1 w1 v e1 a1 r1 q => ?_) kx
  rw [← e1]
  refine sl w1 m1 _ Qx _ a1.ok q (fun lo m2 w2 e2 a2 q => ?_) (kx.aft a1 e1)
  rw [← e2]
  have a12 := a1.trans a2
  refine sh w2 m2 _ Qx _ a2.ok q (fun hi m3 w3 e3 a3 q => ?_) (kx.aft a12 (e2.trans e1))
  obtain ⟨d, hd, q⟩ := bindO_elim q
  have a13 := a12.trans a3
  have r3 := (r1.step a2.st e2).step a3.st e3
  have hv := a3.ok.view r3 hd
  have e13 := e3.trans (e2.trans e1)
  unfold gSl at q
  split at q
  · cases hv
    exact .inl ⟨_, rfl, q.1, k _ m3 w3 _ e13 a13 (retFz (.str _)) q.2⟩
  · obtain ⟨p, xs, rfl, h1, rr⟩ := hv
    refine .inr (.inl ⟨p, xs, rfl, .inl (.inl (a3.ok.sub _ _ h1)), by rw [rr.length]; exact q.1, fun p hp => ?_⟩)
    obtain ⟨s4, st4⟩ := a3.ok.lay (o := .tup (cutV xs lo hi)) hp
    exact k _ m3 (w3.lay p (.tup (cutV xs lo hi))) _ e13 (a13.trans ⟨s4, st4⟩) (retFz (.tup upd_same ((rr.cut lo hi).mono (Pre.refl _) st4.gg))) q.2
  · obtain ⟨p, xs, rfl, h1, rr⟩ := hv
    refine .inr (.inr ⟨p, xs, rfl, .inl (.inl h1), fun p hp => ?_⟩)
    obtain ⟨s4, st4⟩ := a3.ok.put (o := .lst (cutV xs lo hi)) hp
    exact k _ m3 (w3.put p (.lst (cutV xs lo hi))) _ e13 (a13.trans ⟨s4, st4⟩) ((a3.ok.putRet hp (.lst (rr.cut lo hi))).from fun _ z => a13.st.back z) q
  · obtain ⟨p, xs, rfl, h1, rr⟩ := hv
    refine .inr (.inr ⟨p, xs, rfl, sqL_ext a3.ok.sub h1, fun p hp => ?_⟩)
    obtain ⟨s4, st4⟩ := a3.ok.put (o := .lst (cutV xs lo hi)) hp
    exact k _ m3 (w3.put p (.lst (cutV xs lo hi))) _ e13 (a13.trans ⟨s4, st4⟩) ((a3.ok.putRet hp (.lst (rr.cut lo hi))).from fun _ z => a13.st.back z) q
  · exact q.elim
end
end
end VL

/-! The value layer: calls. -/
namespace VL
open PySem PySem.Spec PyProof.Rows L2

section
variable {X : Cx} {W : WX} {a b : Expr} {es : List Expr} {fa fb : FE} {ga : FA} {pos : Pos}
/-! ### built-ins of one and two arguments -/
theorem ve_cb1 {id : String} {x : Str} {r : List V → Hp → VK → Prop} {g : G1} {p : Pos} (hc : CallR X (.builtin id) r) (hv : UnV X.K (fun v H Q => r [v] H Q) g) (hg : Gl X x) (hm : X.mg x = none) (hb : bootBuiltins x = some (.builtin id)) (ha : VE X W a fa)
    (hn : x ≠ "__name__" := by decide) (hdb : (x == ("__debug__" : Str)) = false := by decide) (he : starEach (a :: []) X.env = (false, eval a X.env) :: starEach [] X.env := by rfl) (hpl : (backTo pos (starEach [] X.env)).any (·.1) = false := by rfl) :
    VE X W (.Call (.Name x p) [a] [] pos) (fUn g fa) := by
  obtain ⟨ta, pa, sa⟩ := ha.ex
  refine ⟨⟨_, pe_callB hc hg hm hb (pa_cons pa pa_nil he) hn hdb he hpl, fun w m Q Qx Q' s h k kx => ?_⟩⟩
  refine sa w m _ Qx _ s h (fun r m' w' v e a1 r1 q => ?_) kx
  obtain ⟨d, hd, q⟩ := bindO_elim q
  refine hv w' m' v d _ Q' a1.ok (a1.ok.view r1 hd) q fun r w3 v' e3 a3 r3 k3 => ?_
  exact k r m' w3 v' (e3.trans e) (a1.trans a3) (r3.from fun _ z => a1.st.back z) k3
theorem ve_ct1 {T : String} {x : Str} {r : List V → Hp → VK → Prop} {g : G1} {p : Pos} (hc : CallR X (.type T) r) (hv : UnV X.K (fun v H Q => r [v] H Q) g) (hg : Gl X x) (hm : X.mg x = none) (hb : bootBuiltins x = some (.type T)) (ha : VE X W a fa)
    (hn : x ≠ "__name__" := by decide) (hdb : (x == ("__debug__" : Str)) = false := by decide) (he : starEach (a :: []) X.env = (false, eval a X.env) :: starEach [] X.env := by rfl) (hpl : (backTo pos (starEach [] X.env)).any (·.1) = false := by rfl) :
    VE X W (.Call (.Name x p) [a] [] pos) (fUn g fa) := by
  obtain ⟨ta, pa, sa⟩ := ha.ex
  refine ⟨⟨_, pe_callTy hc hg hm hb (pa_cons pa pa_nil he) hn hdb he hpl, fun w m Q Qx Q' s h k kx => ?_⟩⟩
  refine sa w m _ Qx _ s h (fun r m' w' v e a1 r1 q => ?_) kx
  obtain ⟨d, hd, q⟩ := bindO_elim q
  refine hv w' m' v d _ Q' a1.ok (a1.ok.view r1 hd) q fun r w3 v' e3 a3 r3 k3 => ?_
  exact k r m' w3 v' (e3.trans e) (a1.trans a3) (r3.from fun _ z => a1.st.back z) k3
theorem ve_cb2 {id : String} {x : Str} {r : List V → Hp → VK → Prop} {g : G2} {p : Pos} (hc : CallR X (.builtin id) r) (hv : OpV X.K (fun v u H Q => r [v, u] H Q) g) (hg : Gl X x) (hm : X.mg x = none) (hbt : bootBuiltins x = some (.builtin id)) (ha : VE X W a fa) (hb : VE X W b fb)
    (hn : x ≠ "__name__" := by decide) (hdb : (x == ("__debug__" : Str)) = false := by decide) (he : starEach (a :: b :: []) X.env = (false, eval a X.env) :: starEach (b :: []) X.env := by rfl) (he2 : starEach (b :: []) X.env = (false, eval b X.env) :: starEach [] X.env := by rfl)
    (hpl : (backTo pos (starEach [b] X.env)).any (·.1) = false := by rfl) : VE X W (.Call (.Name x p) [a, b] [] pos) (fOp g fa fb) := by
  obtain ⟨ta, pa, sa⟩ := ha.ex
  obtain ⟨tb, pb, sb⟩ := hb.ex
  refine ⟨⟨_, pe_callB hc hg hm hbt (pa_cons pa (pa_cons pb pa_nil he2) he) hn hdb he hpl, fun w m Q Qx Q' s h k kx => ?_⟩⟩
  exact bin_core hv sa sb s h k kx
/-- len -/
def gLen : G1 := fun d k => match d with
  | .str z => z.length ≤ sizeLine ∧ k (.fz (.int z.length))
  | .dK es => k (.fz (.int es.length))
  | d => bindO (seqOf d) fun ds => k (.fz (.int ds.length))
def rLenAll (K : PySem.W.Frag) : List V → Hp → VK → Prop := fun xs H Q => (∃ p ys, xs = [.ref p] ∧ (SqL K H p ys ∨ SqT K H p ys) ∧ Q (.int ys.length) H) ∨ (∃ z, xs = [.str z] ∧ z.length ≤ sizeLine ∧ Q (.int z.length) H) ∨
  ∃ a kvs, xs = [.ref a] ∧ H a = some (.dK kvs) ∧ Q (.int kvs.length) H
theorem call_lenAll : CallR X (.builtin "len") (rLenAll X.K) := by
  intro pins s σ H xs us Q I r h
  rcases h with h | h | ⟨a, kvs, e, hd, q⟩
  · exact call_len_seq pins s σ H xs us Q I r h
  · exact call_len_str pins s σ H xs us Q I r h
  · exact call_lenD pins s σ H xs us Q I r ⟨a, kvs, e, hd, q⟩
theorem lenV {K : PySem.W.Frag} : UnV K (fun v H Q => rLenAll K [v] H Q) gLen := by
  intro w m v d k Q' s hv h q
  unfold gLen at h
  split at h
  · cases hv
    exact .inr (.inl ⟨_, rfl, h.1, outFz s q (.int _) h.2⟩)
  · obtain ⟨a, kvs, rfl, h1, h2, r1⟩ := hv
    have hl := congrArg List.length h2
    rw [List.length_map, List.length_map] at hl
    refine .inr (.inr ⟨a, kvs, rfl, h1, ?_⟩)
    rw [hl]
    exact outFz s q (.int _) h
  · obtain ⟨ds, he, h⟩ := bindO_elim h
    rename_i h1 h2
    clear h1 h2
    cases d <;> simp [seqOf] at he <;> subst he <;> obtain ⟨a, xs, rfl, h1, r1⟩ := hv
    · exact .inl ⟨a, xs, rfl, .inr (.inl (.inl (s.sub _ _ h1))), by rw [r1.length]; exact outFz s q (.int _) h⟩
    · exact .inl ⟨a, xs, rfl, .inl (.inl (.inl h1)), by rw [r1.length]; exact outFz s q (.int _) h⟩
    · exact .inl ⟨a, xs, rfl, .inr (sqT_ext s.sub h1), by rw [r1.length]; exact outFz s q (.int _) h⟩
    · exact .inl ⟨a, xs, rfl, .inl (sqL_ext s.sub h1), by rw [r1.length]; exact outFz s q (.int _) h⟩
/-- list(..) -/
def gList : G1 := fun d k => bindO (seqOf d) fun ds => k (.tmp (.lst ds))
theorem listV {K : PySem.W.Frag} : UnV K (fun v H Q => (fun xs H Q => ∃ p ys, xs = [V.ref p] ∧ (SqL K H p ys ∨ SqT K H p ys) ∧ ∀ l, H l = none → Q (.ref l) (upd H l (.lst ys)) : List V → Hp → VK → Prop) [v] H Q) gList := by
  intro w m v d k Q' s hv h q
  obtain ⟨ds, he, h⟩ := bindO_elim h
  cases d <;> simp [seqOf] at he <;> subst he <;> obtain ⟨a, xs, rfl, h1, r1⟩ := hv
  · exact ⟨a, xs, rfl, .inr (.inl (.inl (s.sub _ _ h1))), fun l hl => outTmp s q hl (.lst r1) h⟩
  · exact ⟨a, xs, rfl, .inl (.inl (.inl h1)), fun l hl => outTmp s q hl (.lst r1) h⟩
  · exact ⟨a, xs, rfl, .inr (sqT_ext s.sub h1), fun l hl => outTmp s q hl (.lst r1) h⟩
  · exact ⟨a, xs, rfl, .inl (sqL_ext s.sub h1), fun l hl => outTmp s q hl (.lst r1) h⟩
/-- tuple(..) -/
def gTuple : G1 := fun d k => match d with
  | .lst ds => k (.fz (.tup ds))
  | .kl ds => k (.fz (.tup ds))
  | .tup ds => k (.fz (.tup ds))
  | _ => False
theorem tupleV {K : PySem.W.Frag} : UnV K (fun v H Q => (fun xs H Q => ∃ p ys, xs = [V.ref p] ∧ ((SqL K H p ys ∧ ∀ l, H l = none → Q (.ref l) (upd H l (.tup ys))) ∨ (SqT K H p ys ∧ Q (.ref p) H)) : List V → Hp → VK → Prop) [v] H Q) gTuple := by
  intro w m v d k Q' s hv h q
  unfold gTuple at h
  split at h
  · obtain ⟨a, xs, rfl, h1, r1⟩ := hv
    exact ⟨a, xs, rfl, .inl ⟨.inl (.inl h1), fun l hl => outNew s q hl r1 h⟩⟩
  · obtain ⟨a, xs, rfl, h1, r1⟩ := hv
    exact ⟨a, xs, rfl, .inl ⟨sqL_ext s.sub h1, fun l hl => outNew s q hl r1 h⟩⟩
  · obtain ⟨a, xs, rfl, h1, r1⟩ := hv
    exact ⟨a, xs, rfl, .inr ⟨.inl (.inl (s.sub _ _ h1)), outFz s q (.tup h1 r1) h⟩⟩
  · exact h.elim
/-- int(..) of a whole number, of a truth -/
def gToInt : G1 := fun d k => match d with
  | .int i => k (.fz (.int i))
  | .bl b => k (.fz (.int (if b then 1 else 0)))
  | _ => False
theorem toIntV {K : PySem.W.Frag} : UnV K (fun v H Q => (fun xs H Q => (∃ i, xs = [V.int i] ∧ Q (.int i) H) ∨ ∃ k, xs = [.bl k] ∧ Q (.int (if k then 1 else 0)) H : List V → Hp → VK → Prop) [v] H Q) gToInt := by
  intro w m v d k Q' s hv h q
  unfold gToInt at h
  split at h
  · cases hv; exact .inl ⟨_, rfl, outFz s q (.int _) h⟩
  · cases hv; exact .inr ⟨_, rfl, outFz s q (.int _) h⟩
  · exact h.elim
/-- whole numbers, texts, truths as they lie in lists -/
def toInts : List D → Option (List Int)
  | [] => some []
  | .int i :: ds => match toInts ds with | some r => some (i :: r) | none => none
  | _ :: _ => none
def toStrs : List D → Option (List Str)
  | [] => some []
  | .str i :: ds => match toStrs ds with | some r => some (i :: r) | none => none
  | _ :: _ => none
def toBls : List D → Option (List Bool)
  | [] => some []
  | .bl i :: ds => match toBls ds with | some r => some (i :: r) | none => none
  | _ :: _ => none
theorem toInts_map (ns : List Int) : toInts (ns.map .int) = some ns := by
  induction ns with
  | nil => rfl
  | cons n r ih => simp [toInts, ih]
theorem toStrs_map (ns : List Str) : toStrs (ns.map .str) = some ns := by
  induction ns with
  | nil => rfl
  | cons n r ih => simp [toStrs, ih]
theorem toBls_map (ns : List Bool) : toBls (ns.map .bl) = some ns := by
  induction ns with
  | nil => rfl
  | cons n r ih => simp [toBls, ih]
theorem toInts_of : ∀ {ds : List D} {ns : List Int}, toInts ds = some ns → ds = ns.map .int
  | [], ns, h => by cases h; rfl
  | d :: ds, ns, h => by
    cases d <;> simp [toInts] at h
    cases z : toInts ds with
    | none => rw [z] at h; simp at h
    | some r => rw [z] at h; simp at h; subst h; rw [toInts_of z]; rfl
theorem toStrs_of : ∀ {ds : List D} {ns : List Str}, toStrs ds = some ns → ds = ns.map .str
  | [], ns, h => by cases h; rfl
  | d :: ds, ns, h => by
    cases d <;> simp [toStrs] at h
    cases z : toStrs ds with
    | none => rw [z] at h; simp at h
    | some r => rw [z] at h; simp at h; subst h; rw [toStrs_of z]; rfl
theorem toBls_of : ∀ {ds : List D} {ns : List Bool}, toBls ds = some ns → ds = ns.map .bl
  | [], ns, h => by cases h; rfl
  | d :: ds, ns, h => by
    cases d <;> simp [toBls] at h
    cases z : toBls ds with
    | none => rw [z] at h; simp at h
    | some r => rw [z] at h; simp at h; subst h; rw [toBls_of z]; rfl
theorem rep_ints {K : PySem.W.Frag} {γ : List Addr} {G : Hp} : ∀ {ns : List Int} {xs : List V}, RepL K γ G xs (ns.map .int) → xs = ns.map V.int
  | [], _, .nil => rfl
  | n :: r, _, .cons h t => by cases h; rw [rep_ints t]; rfl
theorem rep_strs {K : PySem.W.Frag} {γ : List Addr} {G : Hp} : ∀ {ns : List Str} {xs : List V}, RepL K γ G xs (ns.map .str) → xs = ns.map V.str
  | [], _, .nil => rfl
  | n :: r, _, .cons h t => by cases h; rw [rep_strs t]; rfl
theorem rep_bls {K : PySem.W.Frag} {γ : List Addr} {G : Hp} : ∀ {ns : List Bool} {xs : List V}, RepL K γ G xs (ns.map .bl) → xs = ns.map V.bl
  | [], _, .nil => rfl
  | n :: r, _, .cons h t => by cases h; rw [rep_bls t]; rfl
theorem reps_ints {K : PySem.W.Frag} {γ : List Addr} {G : Hp} : ∀ (ns : List Int), RepL K γ G (ns.map V.int) (ns.map .int)
  | [] => .nil
  | n :: r => .cons (.int n) (reps_ints r)
theorem reps_strs {K : PySem.W.Frag} {γ : List Addr} {G : Hp} : ∀ (ns : List Str), RepL K γ G (ns.map V.str) (ns.map .str)
  | [] => .nil
  | n :: r => .cons (.str n) (reps_strs r)
/-- a list that is seen -/
theorem seq_at {K : PySem.W.Frag} {w : Wd} {m : M} {v : V} {d : D} {ds : List D} (s : SOk K w m) (hv : Vw K w v d) (he : seqOf d = some ds) : ∃ a xs, v = .ref a ∧ (SqL K w.H a xs ∨ SqT K w.H a xs) ∧ RepL K w.γ w.G xs ds := by
  cases d <;> simp [seqOf] at he <;> subst he <;> obtain ⟨a, xs, rfl, h1, r1⟩ := hv
  · exact ⟨a, xs, rfl, .inr (.inl (.inl (s.sub _ _ h1))), r1⟩
  · exact ⟨a, xs, rfl, .inl (.inl (.inl h1)), r1⟩
  · exact ⟨a, xs, rfl, .inr (sqT_ext s.sub h1), r1⟩
  · exact ⟨a, xs, rfl, .inl (sqL_ext s.sub h1), r1⟩
def lstOf : D → Option (List D)
  | .lst ds => some ds
  | .kl ds => some ds
  | _ => none
theorem lst_at {K : PySem.W.Frag} {w : Wd} {m : M} {v : V} {d : D} {ds : List D} (s : SOk K w m) (hv : Vw K w v d) (he : lstOf d = some ds) : ∃ a xs, v = .ref a ∧ SqL K w.H a xs ∧ RepL K w.γ w.G xs ds := by
  cases d <;> simp [lstOf] at he <;> subst he <;> obtain ⟨a, xs, rfl, h1, r1⟩ := hv
  · exact ⟨a, xs, rfl, .inl (.inl h1), r1⟩
  · exact ⟨a, xs, rfl, sqL_ext s.sub h1, r1⟩
def gSum : G1 := fun d k => bindO (lstOf d) fun ds => bindO (toInts ds) fun ns => k (.fz (.int ns.sum))
theorem sumV {K : PySem.W.Frag} : UnV K (fun v H Q => rSum K [v] H Q) gSum := by
  intro w m v d k Q' s hv h q
  obtain ⟨ds, he, h⟩ := bindO_elim h
  obtain ⟨ns, hn, h⟩ := bindO_elim h
  obtain ⟨a, xs, rfl, h1, r1⟩ := lst_at s hv he
  rw [toInts_of hn] at r1
  rw [rep_ints r1] at h1
  exact ⟨a, ns, rfl, h1, outFz s q (.int _) h⟩
def gAll : G1 := fun d k => bindO (lstOf d) fun ds => bindO (toBls ds) fun ns => k (.fz (.bl (ns.all id)))
theorem allV {K : PySem.W.Frag} : UnV K (fun v H Q => rAll K [v] H Q) gAll := by
  intro w m v d k Q' s hv h q
  obtain ⟨ds, he, h⟩ := bindO_elim h
  obtain ⟨ns, hn, h⟩ := bindO_elim h
  obtain ⟨a, xs, rfl, h1, r1⟩ := lst_at s hv he
  rw [toBls_of hn] at r1
  rw [rep_bls r1] at h1
  exact ⟨a, ns, rfl, h1, outFz s q (.bl _) h⟩
def gAny : G1 := fun d k => bindO (lstOf d) fun ds => bindO (toBls ds) fun ns => k (.fz (.bl (ns.any id)))
theorem anyV {K : PySem.W.Frag} : UnV K (fun v H Q => rAny K [v] H Q) gAny := by
  intro w m v d k Q' s hv h q
  obtain ⟨ds, he, h⟩ := bindO_elim h
  obtain ⟨ns, hn, h⟩ := bindO_elim h
  obtain ⟨a, xs, rfl, h1, r1⟩ := lst_at s hv he
  rw [toBls_of hn] at r1
  rw [rep_bls r1] at h1
  exact ⟨a, ns, rfl, h1, outFz s q (.bl _) h⟩
/-- max, min of two -/
def gMax : G2 := gInt (fun _ _ => True) fun i j => if j > i then j else i
def gMin : G2 := gInt (fun _ _ => True) fun i j => if j < i then j else i
theorem maxV {K : PySem.W.Frag} : OpV K (fun x y H Q => (fun xs H Q => ∃ i j, xs = [V.int i, .int j] ∧ Q (.int (if j > i then j else i)) H : List V → Hp → VK → Prop) [x, y] H Q) gMax := by
  intro w m v u d e k Q' s hv hu h q
  unfold gMax gInt at h
  split at h
  · cases hv; cases hu
    exact ⟨_, _, rfl, outFz s q (.int _) h.2⟩
  · exact h.elim
theorem minV {K : PySem.W.Frag} : OpV K (fun x y H Q => (fun xs H Q => ∃ i j, xs = [V.int i, .int j] ∧ Q (.int (if j < i then j else i)) H : List V → Hp → VK → Prop) [x, y] H Q) gMin := by
  intro w m v u d e k Q' s hv hu h q
  unfold gMin gInt at h
  split at h
  · cases hv; cases hu
    exact ⟨_, _, rfl, outFz s q (.int _) h.2⟩
  · exact h.elim
/-- isinstance(x, T), T a built-in class -/
def tyName : D → Option String
  | .non => some "NoneType"
  | .bl _ => some "bool"
  | .int _ => some "int"
  | .str _ => some "str"
  | .tup _ => some "tuple"
  | .lst _ => some "list"
  | .dK _ => some "dict"
  | .dT _ => some "dict"
  | _ => none
def gIsi : G2 := fun d e k => match e with
  | .raw (.ty n) => bindO (tyName d) fun t => bindO (kitB t n) fun b => k (.fz (.bl b))
  | _ => False
theorem isiV {K : PySem.W.Frag} : OpV K (fun x y H Q => rIsi K [x, y] H Q) gIsi := by
  intro w m v u d e k Q' s hv hu h q
  unfold gIsi at h
  split at h
  · rename_i n
    cases hu
    obtain ⟨t, ht, h⟩ := bindO_elim h
    obtain ⟨b, hb, h⟩ := bindO_elim h
    refine ⟨v, .ty n, .type t, .type n, b, rfl, .ty n, ?_, kit_ty hb, outFz s q (.bl _) h⟩
    cases d <;> simp [tyName] at ht <;> subst ht
    · cases hv; exact .base .non
    · cases hv; exact .base (.bl _)
    · cases hv; exact .base (.int _)
    · cases hv; exact .base (.str _)
    · obtain ⟨a, xs, rfl, h1, r1⟩ := hv; exact .base (.tup (s.sub _ _ h1))
    · obtain ⟨a, xs, rfl, h1, r1⟩ := hv; exact .base (.lst h1)
    · obtain ⟨a, xs, rfl, h1, r1⟩ := hv; exact .base (.dK h1)
    · obtain ⟨a, xs, rfl, h1, r1⟩ := hv; exact .base (.dT h1)
  · exact h.elim
/-- a built-in class, as a value -/
theorem ve_ty {x : Str} {n : String} {pos : Pos} (hg : Gl X x) (hm : X.mg x = none) (hv : bootBuiltins x = some (.type n)) (hn : x ≠ "__name__" := by decide) (hd : (x == ("__debug__" : Str)) = false := by decide) : VE X W (.Name x pos) (fC (.raw (.ty n))) :=
  ⟨⟨_, pe_bltn (v := .ty n) hg hm hv rfl hn hd, fun w m Q Qx Q' s h k kx => k _ m w _ rfl (.refl s) (retFz (.raw _)) h⟩⟩

/-! ### containers that are changed by their methods -/
def mget (m : M) : Ret → Option D
  | .sl i => match m.env[i]? with
    | some (.own d) => some d
    | some (.val (.gh k)) => m.gs[k]?
    | _ => none
  | .fz (.gh k) => m.gs[k]?
  | _ => none
def mput (m : M) (r : Ret) (d : D) : M := match r with
  | .sl i => match m.env[i]? with
    | some (.val (.gh k)) => ⟨m.env, m.gs.set k d⟩
    | _ => m.set i (.own d)
  | .fz (.gh k) => ⟨m.env, m.gs.set k d⟩
  | _ => m
theorem mut_ok {K : PySem.W.Frag} {w : Wd} {m : M} {H0 : Hp} {v : V} {r : Ret} {d : D} (s : SOk K w m) (h : RetOk K H0 w m v r) (e : mget m r = some d) :
    ∃ a o, v = .ref a ∧ w.H a = some o ∧ ORep K w.γ w.G o d ∧ ∀ o' d', ORep K w.γ w.G o' d' → Aft K w m (w.put a o') (mput m r d') := by
  have gcase : ∀ k, Rep K w.γ w.G v (.gh k) → m.gs[k]? = some d → ∃ a o, v = .ref a ∧ w.H a = some o ∧ ORep K w.γ w.G o d ∧ ∀ o' d', ORep K w.γ w.G o' d' → Aft K w m (w.put a o') ⟨m.env, m.gs.set k d'⟩ := by
    intro k hr hk
    cases hr with
    | gh hg =>
      obtain ⟨a, o, h1, h2, h3, h4⟩ := s.ghAt hk
      rw [hg] at h1
      cases h1
      exact ⟨_, o, rfl, h3, h4, fun o' d' r' => let ⟨x, y⟩ := s.writeG hg r'; ⟨x, y⟩⟩
  cases r with
  | tmp x => cases e
  | fz x =>
    cases x <;> try (cases e; done)
    rename_i k
    exact gcase k h e
  | sl i =>
    have h : w.σ[i]? = some (some v) := h
    dsimp only [mget] at e
    split at e
    · rename_i x hx
      cases e
      obtain ⟨a, o, h1, h2, h3, h4, h5⟩ := s.own i _ hx
      rw [h] at h1
      cases h1
      refine ⟨a, o, rfl, h4, h5, fun o' d' r' => ?_⟩
      obtain ⟨x, y⟩ := s.write hx h r'
      have : mput m (.sl i) d' = m.set i (.own d') := by simp only [mput, hx]
      rw [this]
      exact ⟨x, y⟩
    · rename_i k hx
      obtain ⟨v', h1, h2⟩ := s.val i _ hx
      rw [h] at h1
      cases h1
      obtain ⟨a, o, h3, h4, h5, h6⟩ := gcase k h2 e
      refine ⟨a, o, h3, h4, h5, fun o' d' r' => ?_⟩
      have : mput m (.sl i) d' = ⟨m.env, m.gs.set k d'⟩ := by simp only [mput, hx]
      rw [this]
      exact h6 o' d' r'
    · cases e
/-- a method that changes its container: by its content, its arguments: what is given back, the new content -/
abbrev GM := D → List D → (D → D → Prop) → Prop
def MmV (K : PySem.W.Frag) (r : V → List V → Hp → VK → Prop) (g : GM) : Prop := ∀ (γ : List Addr) (G H : Hp) (a : Addr) (o : HO) (c : D) (vs : List V) (ds : List D) (k : D → D → Prop) (Q' : VK), Ext G H → H a = some o → ORep K γ G o c → RepL K γ G vs ds → g c ds k →
  (∀ v rd o' c', Rep K γ G v rd → ORep K γ G o' c' → k rd c' → Q' v (upd H a o')) → r (.ref a) vs H Q'
def isT (T : String) : D → Prop
  | .lst _ => T = "list"
  | .dK _ => T = "dict"
  | .dT _ => T = "dict"
  | _ => False
theorem isT_ok {K : PySem.W.Frag} {γ : List Addr} {G H : Hp} {a : Addr} {o : HO} {d : D} {T : String} (h : H a = some o) (r : ORep K γ G o d) (e : isT T d) : tyV K T (.ref a) H := by
  cases r with
  | lst r => exact .inl ⟨e, _, .inl (.inl h)⟩
  | dK k r => exact .inr (.inr (.inl ⟨e, .inl ⟨_, h⟩⟩))
  | dT k r => exact .inr (.inr (.inl ⟨e, .inr ⟨_, h⟩⟩))
def fMm (T : String) (g : GM) (fo : FE) (ga : FA) : FE := fun m Q Qx => fo m (fun ro m1 => bindO (mget m1 ro) fun c => isT T c ∧ ga m1 (fun ds m2 => bindO (mget m2 ro) fun c => g c ds fun rd c' => Q (.fz rd) (mput m2 ro c')) Qx) Qx
def fMm0 (T : String) (g : GM) (fo : FE) : FE := fun m Q Qx => fo m (fun ro m1 => bindO (mget m1 ro) fun c => isT T c ∧ g c [] fun rd c' => Q (.fz rd) (mput m1 ro c')) Qx
theorem ve_mm0 {T id : String} {name : Str} {apos : Pos} {r : V → List V → Hp → VK → Prop} {g : GM} (pa : PlainAttrs T) (slot : Slot T name id) (hty : typeOf (.builtin id) = pure (.type "method_descriptor")) (hm : MtR X id r) (hv : MmV X.K r g) (ha : VE X W a fa)
    (hbase : attributeBase a name X.env (eval a X.env) = eval a X.env := by rfl) (hline : (apos.endLine == pos.line) = true := by rfl) : VE X W (.Call (.Attribute a name apos) [] [] pos) (fMm0 T g fa) := by
  obtain ⟨ta, p1, sa⟩ := ha.ex
  refine ⟨⟨_, pe_bm0 pa slot hty hm p1 hbase hline, fun w m Q Qx Q' s h k kx => ?_⟩⟩
  refine sa w m _ Qx _ s h (fun ro m1 w1 v e1 a1 r1 q => ?_) kx
  obtain ⟨c, hc, ht, q⟩ := bindO_elim q
  obtain ⟨p, o, rfl, h1, h2, h3⟩ := mut_ok a1.ok r1 hc
  refine ⟨isT_ok h1 h2 ht, ?_⟩
  refine hv w1.γ w1.G w1.H p o c [] [] _ Q' a1.ok.sub h1 h2 .nil q fun v rd o' c' rr ro' kk => ?_
  have a2 := h3 o' c' ro'
  exact k (.fz rd) (mput m1 ro c') (w1.put p o') v e1 (a1.trans a2) (retFz rr) kk
theorem ve_mm {T id : String} {name : Str} {apos : Pos} {r : V → List V → Hp → VK → Prop} {g : GM} {e : Expr} (pa : PlainAttrs T) (slot : Slot T name id) (hty : typeOf (.builtin id) = pure (.type "method_descriptor")) (hm : MtR X id r) (hv : MmV X.K r g) (ha : VE X W a fa) (hb : VA X W (e :: es) ga)
    (hbase : attributeBase a name X.env (eval a X.env) = eval a X.env := by rfl)
    (hfew : ((backTo pos (starEach (e :: es) X.env)).all (fun x => !x.1) && (backToKw pos (keywordEach [] X.env)).all (fun x => x.1.isSome)
      && decide ((e :: es).length + ([] : List Keyword).length + (if ([] : List Keyword).isEmpty then 0 else 1) < 30)) = true := by rfl)
    (hline : (apos.endLine == pos.line) = true := by rfl) (hs : starEach (e :: es) X.env = (false, eval e X.env) :: starEach es X.env := by rfl) (hplain : (backTo pos (starEach es X.env)).any (·.1) = false := by rfl) :
    VE X W (.Call (.Attribute a name apos) (e :: es) [] pos) (fMm T g fa ga) := by
  obtain ⟨ta, p1, sa⟩ := ha.ex
  obtain ⟨tb, p2, sb⟩ := hb.ex
  refine ⟨⟨_, pe_bm pa slot hty hm p1 p2 hbase hfew hline hs hplain, fun w m Q Qx Q' s h k kx => ?_⟩⟩
  refine sa w m _ Qx _ s h (fun ro m1 w1 v e1 a1 r1 q => ?_) kx
  obtain ⟨c, hc, ht, q⟩ := bindO_elim q
  obtain ⟨p, o, rfl, h1, h2, h3⟩ := mut_ok a1.ok r1 hc
  refine ⟨isT_ok h1 h2 ht, ?_⟩
  rw [← e1]
  refine sb w1 m1 _ Qx _ a1.ok q (fun ds m2 w2 vs e2 a2 r2 q => ?_) (kx.aft a1 e1)
  obtain ⟨c2, hc2, q⟩ := bindO_elim q
  obtain ⟨p', o2, ev, h4, h5, h6⟩ := mut_ok a2.ok (r1.step a2.st e2) hc2
  cases ev
  refine hv w2.γ w2.G w2.H p o2 c2 vs ds _ Q' a2.ok.sub h4 h5 r2 q fun v rd o' c' rr ro' kk => ?_
  exact k (.fz rd) (mput m2 ro c') (w2.put p o') v (e2.trans e1) ((a1.trans a2).trans (h6 o' c' ro')) (retFz rr) kk
section
variable {K : PySem.W.Frag}
def gAppend : GM := fun c ds k => match c, ds with
  | .lst cs, [d] => cs.length < sizeLine ∧ k .non (.lst (cs ++ [d]))
  | _, _ => False
theorem appendV : MmV K rAppend gAppend := by
  intro γ G H a o c vs ds k Q' s h1 h2 h3 h q
  unfold gAppend at h
  split at h
  · cases h2 with
    | lst r =>
      cases h3 with
      | cons r1 r2 =>
        cases r2
        exact ⟨a, _, _, rfl, rfl, h1, by rw [r.length]; exact h.1, q _ _ _ _ .non (.lst (r.append (.cons r1 .nil))) h.2⟩
  · exact h.elim
def gPop : GM := fun c ds k => match c, ds with
  | .lst cs, [] => bindO (cs[cs.length - 1]?) fun x => k x (.lst cs.dropLast)
  | _, _ => False
theorem popV : MmV K rPop gPop := by
  intro γ G H a o c vs ds k Q' s h1 h2 h3 h q
  unfold gPop at h
  split at h
  · cases h2 with
    | lst r =>
      cases h3
      obtain ⟨x, hx, h⟩ := bindO_elim h
      obtain ⟨v, hv, rv⟩ := r.get hx
      exact ⟨a, _, v, rfl, rfl, h1, by rw [r.length]; exact hv, q _ _ _ _ rv (.lst r.dropLast) h⟩
  · exact h.elim
def gPopAt : GM := fun c ds k => match c, ds with
  | .lst cs, [.int i] => -(2 ^ 63) ≤ i ∧ i < 2 ^ 63 ∧ bindO (seqIndex? i cs.length) fun j => bindO cs[j]? fun x => k x (.lst (cs.eraseIdx j))
  | _, _ => False
theorem popAtV : MmV K rPopAt gPopAt := by
  intro γ G H a o c vs ds k Q' s h1 h2 h3 h q
  unfold gPopAt at h
  split at h
  · cases h2 with
    | lst r =>
      cases h3 with
      | cons r1 r2 =>
        cases r2; cases r1
        obtain ⟨j, hj, h'⟩ := bindO_elim h.2.2
        obtain ⟨x, hx, h''⟩ := bindO_elim h'
        obtain ⟨v, hv, rv⟩ := r.get hx
        exact ⟨a, _, _, j, v, rfl, rfl, h1, h.1, h.2.1, by rw [r.length]; exact hj, hv, q _ _ _ _ rv (.lst (r.eraseIdx j)) h''⟩
  · exact h.elim
def gClear : GM := fun c ds k => match c, ds with
  | .lst _, [] => k .non (.lst [])
  | _, _ => False
theorem clearV : MmV K rClear gClear := by
  intro γ G H a o c vs ds k Q' s h1 h2 h3 h q
  unfold gClear at h
  split at h
  · cases h2 with
    | lst r =>
      cases h3
      exact ⟨a, _, rfl, rfl, h1, q _ _ _ _ .non (.lst .nil) h⟩
  · exact h.elim
def gReverse : GM := fun c ds k => match c, ds with
  | .lst cs, [] => k .non (.lst cs.reverse)
  | _, _ => False
theorem reverseV : MmV K rReverse gReverse := by
  intro γ G H a o c vs ds k Q' s h1 h2 h3 h q
  unfold gReverse at h
  split at h
  · cases h2 with
    | lst r =>
      cases h3
      exact ⟨a, _, rfl, rfl, h1, q _ _ _ _ .non (.lst r.reverse) h⟩
  · exact h.elim
def gExtend : GM := fun c ds k => match c, ds with
  | .lst cs, [.lst es] => cs.length + es.length ≤ sizeLine ∧ k .non (.lst (cs ++ es))
  | _, _ => False
theorem extendV : MmV K rExtend gExtend := by
  intro γ G H a o c vs ds k Q' s h1 h2 h3 h q
  unfold gExtend at h
  split at h
  · cases h2 with
    | lst r =>
      cases h3 with
      | cons r1 r2 =>
        cases r2
        cases r1 with
        | lst hb rb =>
          exact ⟨a, _, _, _, rfl, rfl, h1, s _ _ hb, by rw [r.length, rb.length]; exact h.1, q _ _ _ _ .non (.lst (r.append rb)) h.2⟩
  · exact h.elim
end

/-! ### methods of texts -/
def isS : D → Prop
  | .str _ => True
  | _ => False
def fS1 (g : G2) (fo fe : FE) : FE := fun m Q Qx => fo m (fun ro m1 => bindO (view m1 ro) fun d => isS d ∧ fe m1 (fun re m2 => bindO (view m2 ro) fun d => bindO (view m2 re) fun e => g d e fun r => Q r m2) Qx) Qx
theorem ve_s1 {id : String} {name : Str} {apos : Pos} {r : V → List V → Hp → VK → Prop} {g : G2} (slot : Slot "str" name id) (ty : typeOf (.builtin id) = pure (.type "method_descriptor")) (rule : MtR X id r) (hv : OpV X.K (fun x y H Q => r x [y] H Q) g) (ha : VE X W a fa) (hb : VE X W b fb)
    (hs : starEach [b] X.env = [(false, eval b X.env)] := by rfl) (hbase : attributeBase a name X.env (eval a X.env) = eval a X.env := by rfl) (hline : (apos.endLine == pos.line) = true := by rfl) :
    VE X W (.Call (.Attribute a name apos) [b] [] pos) (fS1 g fa fb) := by
  obtain ⟨ta, p1, sa⟩ := ha.ex
  obtain ⟨tb, p2, sb⟩ := hb.ex
  refine ⟨⟨_, pe_m1 slot ty rule p1 p2 hs hbase hline, fun w m Q Qx Q' s h k kx => ?_⟩⟩
  refine sa w m _ Qx _ s h (fun ro m1 w1 v e1 a1 r1 q => ?_) kx
  obtain ⟨d, hd, ht, q⟩ := bindO_elim q
  have hv1 := a1.ok.view r1 hd
  refine ⟨?_, ?_⟩
  · cases d <;> first | exact ht.elim | exact ⟨_, hv1⟩
  rw [← e1]
  refine sb w1 m1 _ Qx _ a1.ok q (fun re m2 w2 u e2 a2 r2 q => ?_) (kx.aft a1 e1)
  obtain ⟨d, hd, q⟩ := bindO_elim q
  obtain ⟨e, he, q⟩ := bindO_elim q
  have a12 := a1.trans a2
  refine hv w2 m2 v u d e _ Q' a2.ok (a2.ok.view (r1.step a2.st e2) hd) (a2.ok.view r2 he) q fun r w3 v' e3 a3 r3 k3 => ?_
  exact k r m2 w3 v' (e3.trans (e2.trans e1)) (a12.trans a3) (r3.from fun _ z => a12.st.back z) k3
section
variable {K : PySem.W.Frag}
def gFind : G2 := fun d e k => match d, e with
  | .str a, .str b => k (.fz (.int (Txt.find a b)))
  | _, _ => False
theorem findV : OpV K (fun x y H Q => (fun x xs H Q => ∃ a b, x = V.str a ∧ xs = [V.str b] ∧ Q (.int (Txt.find a b)) H : V → List V → Hp → VK → Prop) x [y] H Q) gFind := by
  intro w m v u d e k Q' s hv hu h q
  unfold gFind at h
  split at h
  · cases hv; cases hu
    exact ⟨_, _, rfl, rfl, outFz s q (.int _) h⟩
  · exact h.elim
theorem reps_strs' {γ : List Addr} {G : Hp} (ns : List Str) : RepL K γ G (ns.map V.str) (ns.map .str) := reps_strs ns
def gJoin : G2 := fun d e k => match d with
  | .str a => bindO (seqOf e) fun ds => bindO (toStrs ds) fun ys => (ys.map (·.length)).sum + ys.length * a.length ≤ 16777216 ∧ k (.fz (.str (Txt.join a ys)))
  | _ => False
theorem joinV : OpV K (fun x y H Q => (fun x xs H Q => ∃ a p, ∃ ys : List Str, x = V.str a ∧ xs = [V.ref p] ∧ (SqL K H p (ys.map V.str) ∨ SqT K H p (ys.map V.str)) ∧
    (ys.map (·.length)).sum + ys.length * a.length ≤ 16777216 ∧ Q (.str (Txt.join a ys)) H : V → List V → Hp → VK → Prop) x [y] H Q) gJoin := by
  intro w m v u d e k Q' s hv hu h q
  unfold gJoin at h
  split at h
  · cases hv
    obtain ⟨ds, he, h⟩ := bindO_elim h
    obtain ⟨ys, hy, h⟩ := bindO_elim h
    obtain ⟨a, xs, rfl, h1, r1⟩ := seq_at s hu he
    rw [toStrs_of hy] at r1
    rw [rep_strs r1] at h1
    exact ⟨_, a, ys, rfl, rfl, h1, h.1, outFz s q (.str _) h.2⟩
  · exact h.elim
def gSplit : G2 := fun d e k => match d, e with
  | .str a, .str b => (b.length == 0) = false ∧ a.length + 2 ≤ sizeLine ∧ k (.tmp (.lst ((Txt.split a b).map .str)))
  | _, _ => False
theorem splitV : OpV K (fun x y H Q => (fun x xs H Q => ∃ a b, x = V.str a ∧ xs = [V.str b] ∧ (b.length == 0) = false ∧ a.length + 2 ≤ sizeLine ∧ rNewStrs (Txt.split a b) H Q : V → List V → Hp → VK → Prop) x [y] H Q) gSplit := by
  intro w m v u d e k Q' s hv hu h q
  unfold gSplit at h
  split at h
  · cases hv; cases hu
    exact ⟨_, _, rfl, rfl, h.1, h.2.1, fun p hp => outTmp s q hp (.lst (reps_strs _)) h.2.2⟩
  · exact h.elim
end
end
end VL

/-! The value layer: statements, loops. -/
namespace VL
open PySem PySem.Spec PyProof.Rows L2

section
variable {X : Cx} {W : WX} {st : Stmt} {rest : List Stmt} {a b : Expr} {es : List Expr} {fa fb : FE} {ga : FA} {pos : Pos} {fs gs' : FS}
/-! ### blocks -/
def sNil : FS := fun E m => E.nx m
def EndsV.wn (E : EndsV) (k : M → Prop) : EndsV := { E with nx := k }
def EndsV.wl (E : EndsV) (k : M → Prop) : EndsV := { E with nx := k, ct := k, bk := E.nx }
def sSeq (f g : FS) : FS := fun E m => f (E.wn (g E)) m
theorem vss_nil : VSs X W [] sNil := ⟨⟨_, pss_nil, fun w m E D s h k => k.nx m w (.refl s) h⟩⟩
theorem vss_cons (h1 : VS X W st fs) (h2 : VSs X W rest gs') : VSs X W (st :: rest) (sSeq fs gs') := by
  obtain ⟨ta, pa, sa⟩ := h1.ex
  obtain ⟨tb, pb, sb⟩ := h2.ex
  refine ⟨⟨_, pss_cons pa pb, fun w m E D s h k => ?_⟩⟩
  exact sa w m _ _ s h ⟨fun m' w' a' q => sb w' m' E D a'.ok q (k.aft a'), k.rt, k.bk, k.ct, k.ex⟩
theorem vss_one (h1 : VS X W st fs) : VSs X W [st] fs := by
  obtain ⟨ta, pa, sa⟩ := h1.ex
  exact ⟨⟨_, pss_one pa, sa⟩⟩
theorem vss_eq {g g2 : FS} (e : g2 = g) (h : VSs X W rest g) : VSs X W rest g2 := by rw [e]; exact h
def sBreak : FS := fun E m => E.bk m
def sCont : FS := fun E m => E.ct m
theorem vs_pass : VS X W (.Pass pos) sNil := ⟨⟨_, ps_pass, fun w m E D s h k => k.nx m w (.refl s) h⟩⟩
theorem vs_break : VS X W (.Break pos) sBreak := ⟨⟨_, ps_break, fun w m E D s h k => k.bk m w (.refl s) h⟩⟩
theorem vs_continue : VS X W (.Continue pos) sCont := ⟨⟨_, ps_continue, fun w m E D s h k => k.ct m w (.refl s) h⟩⟩
theorem vs_doc {x j pos pos'} : VS X W (.Expr (.Constant (.str x) j pos) pos') sNil := ⟨⟨_, ps_doc, fun w m E D s h k => k.nx m w (.refl s) h⟩⟩
def sNever : FS := fun _ _ => False
theorem vs_never : VS X W st sNever := ⟨⟨_, ps_never, fun w m E D s h k => h.elim⟩⟩
def sExpr (f : FE) : FS := fun E m => f m (fun _ m1 => E.nx m1) E.ex
theorem vs_expr (ha : VE X W a fa) (hs : swapsWith a none pos.line X.env = pure false := by rfl) : VS X W (.Expr a pos) (sExpr fa) := by
  obtain ⟨ta, pa, sa⟩ := ha.ex
  refine ⟨⟨_, ps_expr pa hs, fun w m E D s h k => ?_⟩⟩
  refine sa w m _ _ _ s h (fun r m1 w1 v e1 a1 r1 q => ?_) k.exOk
  rw [← e1]
  exact k.nx m1 w1 a1 q
def sRet (f : FE) : FS := fun E m => f m (fun r m1 => E.rt r m1) E.ex
theorem vs_ret (ha : VE X W a fa) : VS X W (.Return (some a) pos) (sRet fa) := by
  obtain ⟨ta, pa, sa⟩ := ha.ex
  exact ⟨⟨_, ps_ret pa, fun w m E D s h k => sa w m _ _ _ s h (fun r m1 w1 v e1 a1 r1 q => k.rt r m1 w1 v a1 r1 q) k.exOk⟩⟩
def sRetN : FS := fun E m => E.rt (.fz .non) m
theorem vs_retN : VS X W (.Return none pos) sRetN := ⟨⟨_, ps_retN, fun w m E D s h k => k.rt _ m w _ (.refl s) (retFz .non) h⟩⟩
def sIf (ft : FT) (f g : FS) : FS := fun E m => ft m (fun c m1 => iteP c (f E m1) (g E m1)) E.ex
theorem vs_if {c : Expr} {sa sb : List Stmt} {ft : FT} (hc : VT X W c ft) (h1 : VSs X W sa fs) (h2 : VSs X W sb gs') : VS X W (.If c sa sb pos) (sIf ft fs gs') := by
  obtain ⟨tc, pc, sc⟩ := hc.ex
  obtain ⟨ta, pa, sa⟩ := h1.ex
  obtain ⟨tb, pb, sb⟩ := h2.ex
  refine ⟨⟨_, ps_if pc pa pb, fun w m E D s h k => ?_⟩⟩
  refine sc w m _ _ _ s h (fun c m1 w1 e1 a1 q => ?_) k.exOk
  rw [← e1]
  cases c with
  | true => exact sa w1 m1 E D a1.ok (q.1 rfl) (k.aft a1)
  | false => exact sb w1 m1 E D a1.ok (q.2 rfl) (k.aft a1)

/-! ### a value is stored in a slot -/
def sto (m : M) (i : Nat) : Ret → Option M
  | .fz d => some (m.set i (.val d))
  | .tmp d => some (m.set i (.own d))
  | .sl j => match keep m (.sl j) with
    | some (d, m1) => some (m1.set i (.val d))
    | none => none
theorem sto_ok {K : PySem.W.Frag} {w0 w : Wd} {m0 m m' : M} {v : V} {r : Ret} {i : Nat} (a : Aft K w0 m0 w m) (h : RetOk K w0.H w m v r) (hi : i < w.σ.length) (e : sto m i r = some m') :
    ∃ w', w'.σ = w.σ.set i (some v) ∧ w'.H = w.H ∧ Aft K w0 m0 w' m' := by
  cases r with
  | fz d =>
    cases e
    obtain ⟨x, y⟩ := a.ok.setVal hi h
    exact ⟨w.slot i v, rfl, rfl, x, a.st.trans y⟩
  | tmp d =>
    cases e
    obtain ⟨p, o, rfl, h1, h2, h3, h4, h5⟩ := h
    obtain ⟨x, y⟩ := a.ok.setOwn hi h2 h3 h4 h5
    refine ⟨w.slot i (.ref p), rfl, rfl, x, ⟨a.st.gg, a.st.fr, a.st.gn, fun b q => ?_, a.st.al, a.st.gp⟩⟩
    rcases y b q with z | z
    · exact a.st.on b z
    · exact .inr (by rw [z]; exact h1)
  | sl j =>
    dsimp only [sto] at e
    split at e
    · rename_i d m1 hk
      cases e
      obtain ⟨w1, e1, eH, a1, r1⟩ := keep_ok a h hk
      obtain ⟨x, y⟩ := a1.ok.setVal (by rw [e1]; exact hi) r1
      exact ⟨w1.slot i v, by show w1.σ.set i (some v) = _; rw [e1], eH, x, a1.st.trans y⟩
    · cases e
def sAsg (i : Nat) (f : FE) : FS := fun E m => f m (fun r m1 => bindO (sto m1 i r) fun m2 => i < m2.env.length ∧ E.nx m2) E.ex
theorem keep_env {m m' : M} {r : Ret} {d : D} (e : keep m r = some (d, m')) : m'.env.length = m.env.length := by
  cases r with
  | fz d' => cases e; rfl
  | tmp d' => cases e; rfl
  | sl i =>
    dsimp only [keep] at e
    split at e
    · cases e; simp [M.set]
    · cases e; rfl
    · cases e
theorem sto_env {m m' : M} {r : Ret} {i : Nat} (e : sto m i r = some m') : m'.env.length = m.env.length := by
  cases r with
  | fz d => cases e; simp [M.set]
  | tmp d => cases e; simp [M.set]
  | sl j =>
    dsimp only [sto] at e
    split at e
    · rename_i d m1 hk
      cases e
      rw [← keep_env hk]; simp [M.set]
    · cases e
theorem vs_asg (i : Nat) {x : Str} {p : Pos} (ha : VE X W a fa) (hN : X.N.Nodup) (hi : X.N[i]? = some x := by rfl) (hx : Loc X.env.scope x := by first | exact Or.inl rfl | exact Or.inr rfl) (hf : X.fn x = true ∨ X.env.scope.names.lookup x = some .local := by first | exact .inl rfl | exact .inr rfl | assumption)
    (hs : swapsWithSole [.Name x p] a pos.line X.env = pure false := by rfl) (hw : swappedStores [.Name x p] a X.env = pure none := by rfl) (h1 : (assignEach [.Name x p] X.env).map (·.2) = [assign (.Name x p) X.env] := by rfl) : VS X W (.Assign [.Name x p] a pos) (sAsg i fa) := by
  obtain ⟨ta, pa, sa⟩ := ha.ex
  refine ⟨⟨_, ps_asg pa (pg_name hN hi hx hf) hs hw h1, fun w m E D s h k => ?_⟩⟩
  refine sa w m _ _ _ s h (fun r m1 w1 v e1 a1 r1 q => ?_) k.exOk
  obtain ⟨m2, h2, q1, q2⟩ := bindO_elim q
  have hl : i < w1.σ.length := by rw [← a1.ok.len, ← sto_env h2]; exact q1
  obtain ⟨w2, e2, eH, a2⟩ := sto_ok a1 r1 hl h2
  show D.nx (w.σ.set i (some v)) w1.H
  rw [← e1, ← e2, ← eH]
  exact k.nx m2 w2 a2 q2

/-! ### targets -/
abbrev FG := M → D → (M → Prop) → Prop
abbrev FGs := M → List D → (M → Prop) → Prop
/-- the slots that may have changed -/
def OnlyAt (is : List Nat) (σ σ' : L2.St) : Prop := σ'.length = σ.length ∧ ∀ j, j ∉ is → σ'[j]? = σ[j]?
theorem OnlyAt.refl (is : List Nat) (σ : L2.St) : OnlyAt is σ σ := ⟨rfl, fun _ _ => rfl⟩
theorem OnlyAt.trans {is js : List Nat} {σ σ1 σ2 : L2.St} (a : OnlyAt is σ σ1) (b : OnlyAt js σ1 σ2) : OnlyAt (is ++ js) σ σ2 :=
  ⟨b.1.trans a.1, fun j hj => (b.2 j fun z => hj (List.mem_append_right _ z)).trans (a.2 j fun z => hj (List.mem_append_left _ z))⟩
structure VG (X : Cx) (is : List Nat) (tg : Expr) (g : FG) : Prop where
  ex : ∃ t, PG X tg t ∧ ∀ (w : Wd) (m : M) (v : V) (d : D) (Q : M → Prop) (Q' : L2.St → Hp → Prop), SOk X.K w m → Rep X.K w.γ w.G v d → g m d Q → (∀ m' w', Aft X.K w m w' m' → OnlyAt is w.σ w'.σ → Q m' → Q' w'.σ w'.H) → t v w.σ w.H Q'
structure VGs (X : Cx) (is : List Nat) (ts : List Expr) (g : FGs) : Prop where
  ex : ∃ t, PGs X ts t ∧ ∀ (w : Wd) (m : M) (vs : List V) (ds : List D) (Q : M → Prop) (Q' : L2.St → Hp → Prop), SOk X.K w m → RepL X.K w.γ w.G vs ds → g m ds Q → (∀ m' w', Aft X.K w m w' m' → OnlyAt is w.σ w'.σ → Q m' → Q' w'.σ w'.H) → t vs w.σ w.H Q'
def gNm (i : Nat) : FG := fun m d Q => i < m.env.length ∧ Q (m.set i (.val d))
theorem vg_name (i : Nat) {x : Str} (hN : X.N.Nodup) (hi : X.N[i]? = some x := by rfl) (hx : Loc X.env.scope x := by first | exact Or.inl rfl | exact Or.inr rfl) (hf : X.fn x = true ∨ X.env.scope.names.lookup x = some .local := by first | exact .inl rfl | exact .inr rfl | assumption) : VG X [i] (.Name x pos) (gNm i) := by
  refine ⟨⟨_, pg_name hN hi hx hf, fun w m v d Q Q' s r h k => ?_⟩⟩
  obtain ⟨x, y⟩ := s.setVal (i := i) (by rw [← s.len]; exact h.1) r
  exact k _ (w.slot i v) ⟨x, y⟩ ⟨by simp [Wd.slot], fun j hj => List.getElem?_set_ne (fun e => hj (by simp [e]))⟩ h.2
def gsNil : FGs := fun m ds Q => ds = [] ∧ Q m
def gsCons (g : FG) (h : FGs) : FGs := fun m ds Q => match ds with
  | d :: r => g m d fun m1 => h m1 r Q
  | [] => False
theorem vgs_nil : VGs X [] [] gsNil := by
  refine ⟨⟨_, pgs_nil, fun w m vs ds Q Q' s r h k => ?_⟩⟩
  obtain ⟨rfl, h⟩ := h
  cases r
  exact ⟨rfl, k m w (.refl s) (.refl _ _) h⟩
theorem vgs_cons {e : Expr} {g : FG} {h : FGs} {is js : List Nat} (h1 : VG X is e g) (h2 : VGs X js es h) (hs : (assignEach (e :: es) X.env).map (·.2) = assign e X.env :: (assignEach es X.env).map (·.2) := by rfl) : VGs X (is ++ js) (e :: es) (gsCons g h) := by
  obtain ⟨ta, pa, sa⟩ := h1.ex
  obtain ⟨tb, pb, sb⟩ := h2.ex
  refine ⟨⟨_, pgs_cons pa pb hs, fun w m vs ds Q Q' s r h k => ?_⟩⟩
  cases ds with
  | nil => exact h.elim
  | cons d ds =>
    cases r with
    | cons r1 r2 =>
      refine ⟨_, _, rfl, ?_⟩
      refine sa w m _ d _ _ s r1 h fun m1 w1 a1 o1 q => ?_
      exact sb w1 m1 _ ds Q Q' a1.ok (r2.mono a1.st.gp a1.st.gg) q fun m2 w2 a2 o2 q2 => k m2 w2 (a1.trans a2) (o1.trans o2) q2
def tupOf : D → Option (List D)
  | .tup ds => some ds
  | .kt ds => some ds
  | _ => none
def gTp (n : Nat) (g : FGs) : FG := fun m d Q => bindO (tupOf d) fun ds => ds.length = n ∧ g m ds Q
theorem vg_tup {k n : Nat} {g : FGs} {is : List Nat} (hc : X.calm = true) (hg : VGs X is es g) (hn : (assignEach es X.env).length = n := by rfl) (hst : (assignEach es X.env).findIdx? (·.1) = none := by rfl) : VG X is (.Tuple es k pos) (gTp n g) := by
  obtain ⟨t, p, q⟩ := hg.ex
  refine ⟨⟨_, pg_tup hc p hn hst, fun w m v d Q Q' s r h k => ?_⟩⟩
  obtain ⟨ds, hd, hl, h⟩ := bindO_elim h
  have hv := Vw.ofRep s.sub r
  cases d <;> simp [tupOf] at hd <;> subst hd <;> obtain ⟨a, xs, rfl, h1, r1⟩ := hv
  · exact ⟨a, xs, rfl, .inl (.inl (s.sub _ _ h1)), by rw [r1.length]; exact hl, q w m xs _ Q Q' s r1 h k⟩
  · exact ⟨a, xs, rfl, sqT_ext s.sub h1, by rw [r1.length]; exact hl, q w m xs _ Q Q' s r1 h k⟩
/-- a target in general: the value is kept -/
def sAsgG (f : FE) (g : FG) : FS := fun E m => f m (fun r m1 => bindO (keep m1 r) fun p => g p.2 p.1 E.nx) E.ex
theorem vs_asgG {tg : Expr} {g : FG} {is : List Nat} (ha : VE X W a fa) (hg : VG X is tg g) (hs : swapsWithSole [tg] a pos.line X.env = pure false := by rfl) (hw : swappedStores [tg] a X.env = pure none := by rfl) (h1 : (assignEach [tg] X.env).map (·.2) = [assign tg X.env] := by rfl) :
    VS X W (.Assign [tg] a pos) (sAsgG fa g) := by
  obtain ⟨ta, pa, sa⟩ := ha.ex
  obtain ⟨tb, pb, sb⟩ := hg.ex
  refine ⟨⟨_, ps_asg pa pb hs hw h1, fun w m E D s h k => ?_⟩⟩
  refine sa w m _ _ _ s h (fun r m1 w1 v e1 a1 r1 q => ?_) k.exOk
  obtain ⟨⟨d, m2⟩, hk, q⟩ := bindO_elim q
  obtain ⟨w2, e2, eH, a2, r2⟩ := keep_ok a1 r1 hk
  rw [← eH, ← e1, ← e2]
  exact sb w2 m2 v d E.nx D.nx a2.ok r2 q fun m3 w3 a3 _ q3 => k.nx m3 w3 (a2.trans a3) q3
/-- xs[i] = e, a list -/
def sSetL (fe fo fi : FE) : FS := fun E m => fe m (fun re m1 => bindO (keep m1 re) fun p => fo p.2 (fun ro m3 => fi m3 (fun ri m4 => bindO (mget m4 ro) fun c => bindO (asI ri) fun i => match c with
  | .lst cs => bindO (ixN cs.length i) fun j => E.nx (mput m4 ro (.lst (cs.set j p.1)))
  | _ => False) E.ex) E.ex) E.ex
theorem mput_σ {w : Wd} {a : Addr} {o : HO} : (w.put a o).σ = w.σ := rfl
theorem vs_setL {o i e : Expr} {fo fi fe : FE} {p' : Pos} (he : VE X W e fe) (ho : VE X W o fo) (hi : VE X W i fi) (ha : ∀ v, assign (.Subscript o i p') X.env v = (do
      let ov ← holding [v] (eval o X.env)
      let iv ← holding [v, ov] (eval i X.env)
      standAt p'
      holding [v, ov, iv] (setItem ov iv v)
      release [v, ov, iv] []) := by intro _; rfl) (hs : swapsWithSole [.Subscript o i p'] e pos.line X.env = pure false := by rfl) (hw : swappedStores [.Subscript o i p'] e X.env = pure none := by rfl) (h1 : (assignEach [.Subscript o i p'] X.env).map (·.2) = [assign (.Subscript o i p') X.env] := by rfl) :
    VS X W (.Assign [.Subscript o i p'] e pos) (sSetL fe fo fi) := by
  obtain ⟨te, pe, se⟩ := he.ex
  obtain ⟨to, po, so⟩ := ho.ex
  obtain ⟨ti, pi, si⟩ := hi.ex
  refine ⟨⟨_, ps_asg pe (pg_sub po pi set_list ha) hs hw h1, fun w m E D s h k => ?_⟩⟩
  refine se w m _ _ _ s h (fun re m1 w1 v e1 a1 r1 q => ?_) k.exOk
  obtain ⟨⟨d, m2⟩, hk, q⟩ := bindO_elim q
  obtain ⟨w2, e2, eH, a2, r2⟩ := keep_ok a1 r1 hk
  have e21 := e2.trans e1
  show to w.σ w1.H fun x H1 => ti w.σ H1 fun y H2 => rSetL x y v H2 fun H3 => D.nx w.σ H3
  rw [← eH, ← e21]
  refine so w2 m2 _ _ _ a2.ok q (fun ro m3 w3 x e3 a3 r3 q => ?_) (k.exOk.aft a2 e21)
  rw [← e3]
  have a23 := a2.trans a3
  have e31 := e3.trans e21
  refine si w3 m3 _ _ _ a3.ok q (fun ri m4 w4 y e4 a4 r4 q => ?_) (k.exOk.aft a23 e31)
  obtain ⟨c, hc, q⟩ := bindO_elim q
  obtain ⟨j, hj, q⟩ := bindO_elim q
  obtain ⟨p, o, rfl, h3, h4, h5⟩ := mut_ok a4.ok (r3.step a4.st e4) hc
  split at q
  · cases h4 with
    | lst rr =>
      obtain ⟨n, hn, q⟩ := bindO_elim q
      refine ⟨p, _, j, n, rfl, asI_ok r4 hj, h3, by rw [rr.length]; exact hn, ?_⟩
      have a5 := h5 _ _ (.lst (RepL.set n ((r2.mono a3.st.gp a3.st.gg).mono a4.st.gp a4.st.gg) rr))
      have := k.nx _ (w4.put p _) ((a23.trans a4).trans a5) q
      rw [mput_σ, e4] at this
      exact this
  · exact q.elim

/-! ### x += e -/
def sAug (i : Nat) (g : G2) (f : FE) : FS := fun E m => match m.env[i]? with
  | some (.val d0) => f m (fun r m1 => bindO (view m1 r) fun e => g d0 e fun r' => bindO (sto m1 i r') fun m2 => i < m2.env.length ∧ E.nx m2) E.ex
  | _ => False
theorem ip_addS : PIp X .Add (fun x y H Q => ∃ i j, x = V.str i ∧ y = V.str j ∧ i.length + j.length ≤ sizeLine ∧ Q (.str (i ++ j)) H) := by
  intro pins s σ H x y v u Q I rx ry h
  exact iop_add_str pins s σ H x y v u Q I rx ry h
def gAddI : G2 := fun d e k => match d, e with
  | .int i, .int j => k (.fz (.int (i + j)))
  | .str x, .str y => x.length + y.length ≤ sizeLine ∧ k (.fz (.str (x ++ y)))
  | _, _ => False
def rAddI : TIp := fun x y H Q => ipI (fun i j => i + j) x y H Q ∨ ∃ i j, x = V.str i ∧ y = V.str j ∧ i.length + j.length ≤ sizeLine ∧ Q (.str (i ++ j)) H
theorem ip_addAll : PIp X .Add rAddI := by
  intro pins s σ H x y v u Q I rx ry h
  rcases h with h | h
  · exact ip_add pins s σ H x y v u Q I rx ry h
  · exact ip_addS pins s σ H x y v u Q I rx ry h
theorem addIV {K : PySem.W.Frag} : OpV K (fun x y H Q => rAddI x y H Q) gAddI := by
  intro w m v u d e k Q' s hv hu h q
  unfold gAddI at h
  split at h
  · cases hv; cases hu
    exact .inl ⟨_, _, rfl, rfl, outFz s q (.int _) h⟩
  · cases hv; cases hu
    exact .inr ⟨_, _, rfl, rfl, h.1, outFz s q (.str _) h.2⟩
  · exact h.elim
theorem subIV {K : PySem.W.Frag} : OpV K (fun x y H Q => ipI (fun i j => i - j) x y H Q) gSub := by
  intro w m v u d e k Q' s hv hu h q
  unfold gSub at h
  split at h
  · cases hv; cases hu
    exact ⟨_, _, rfl, rfl, outFz s q (.int _) h⟩
  · exact h.elim
theorem vs_aug (i : Nat) {x : Str} {op : Operator} {ti : TIp} {g : G2} {p' : Pos} (ha : VE X W a fa) (ho : PIp X op ti) (hv : OpV X.K (fun x y H Q => ti x y H Q) g) (hN : X.N.Nodup) (hi : X.N[i]? = some x := by rfl) (hx : Loc X.env.scope x := by first | exact Or.inl rfl | exact Or.inr rfl) (hf : X.fn x = true ∨ X.env.scope.names.lookup x = some .local := by first | exact .inl rfl | exact .inr rfl | assumption) :
    VS X W (.AugAssign (.Name x p') op a pos) (sAug i g fa) := by
  obtain ⟨ta, pa, sa⟩ := ha.ex
  refine ⟨⟨_, ps_aug hN hi hx pa ho hf, fun w m E D s h k => ?_⟩⟩
  unfold sAug at h
  split at h
  · rename_i d0 e0
    obtain ⟨x0, h0, rx0⟩ := s.val i d0 e0
    refine ⟨x0, h0, ?_⟩
    refine sa w m _ _ _ s h (fun r m1 w1 v e1 a1 r1 q => ?_) k.exOk
    obtain ⟨e, he, q⟩ := bindO_elim q
    refine hv w1 m1 x0 v d0 e _ _ a1.ok (Vw.ofRep a1.ok.sub (rx0.mono a1.st.gp a1.st.gg)) (a1.ok.view r1 he) q fun r' w2 v' e2 a2 r2 q => ?_
    obtain ⟨m2, h2, q1, q2⟩ := bindO_elim q
    have a12 := a1.trans a2
    have hl : i < w2.σ.length := by rw [← a2.ok.len, ← sto_env h2]; exact q1
    obtain ⟨w3, e3, eH, a3⟩ := sto_ok a12 (r2.from fun _ z => a1.st.back z) hl h2
    show D.nx (w.σ.set i (some v')) w2.H
    rw [← e1, ← e2, ← e3, ← eH]
    exact k.nx m2 w3 a3 q2
  · exact h.elim

/-! ### while -/
@[irreducible] def sWhile (ft : FT) (fb : FS) : FS := fun E m => ∃ Wv : Nat → M → Prop, (∃ n, Wv n m) ∧ ∀ n m, Wv n m → ft m (fun c m1 => iteP c (fb (E.wl fun m' => ∃ n', n' < n ∧ Wv n' m') m1) (E.nx m1)) E.ex
theorem vs_while {c : Expr} {body : List Stmt} {ft : FT} (hp : PassesOwn (model X.prog X.w) X.A X.env X.xe) (hc : VT X W c ft) (hb : VSs X W body fs) : VS X W (.While c body [] pos) (sWhile ft fs) := by
  obtain ⟨tc, pc, sc⟩ := hc.ex
  obtain ⟨tb, pb, sb⟩ := hb.ex
  refine ⟨⟨_, ps_while hp pc pb, fun w m E D s h k => ?_⟩⟩
  rw [sWhile] at h
  obtain ⟨Wv, ⟨n0, h0⟩, hW⟩ := h
  refine ⟨fun n σ H => ∃ w1 m1, w1.σ = σ ∧ w1.H = H ∧ Aft X.K w m w1 m1 ∧ Wv n m1, ⟨n0, w, m, rfl, rfl, .refl s, h0⟩, ?_⟩
  rintro n _ _ ⟨w1, m1, rfl, rfl, a1, hn⟩
  refine sc w1 m1 _ _ _ a1.ok (hW n m1 hn) (fun c m2 w2 e2 a2 q => ?_) ((k.aft a1).exOk)
  rw [← e2]
  have a12 := a1.trans a2
  cases c with
  | false => exact k.nx m2 w2 a12 (q.2 rfl)
  | true =>
    have q := q.1 rfl
    rw [if_pos rfl]
    refine ⟨fun σ' H' => ∃ w3 m3, w3.σ = σ' ∧ w3.H = H' ∧ Aft X.K w m w3 m3 ∧ ∃ n', n' < n ∧ Wv n' m3, fun σ' H' ⟨w3, m3, e3, e4, a3, q3⟩ => ?_, ?_⟩
    · obtain ⟨n', hl, hn'⟩ := q3
      exact ⟨n', hl, w3, m3, e3, e4, a3, hn'⟩
    · have k2 := k.aft a12
      exact sb w2 m2 _ _ a2.ok q ⟨fun m' w' a' q' => ⟨w', m', rfl, rfl, a12.trans a', q'⟩, k2.rt, k2.nx, fun m' w' a' q' => ⟨w', m', rfl, rfl, a12.trans a', q'⟩, k2.ex⟩

/-! ### for -/
structure ItOk (K : PySem.W.Frag) (w0 : Wd) (m0 : M) (J : It) (ds : List D) (lk : M → Prop) : Prop where
  stop : ∀ w m, Aft K w0 m0 w m → lk m → J.stop ds.length w.H
  go : ∀ i w m, Aft K w0 m0 w m → lk m → i < ds.length → J.go i w.H
  yld : ∀ (i : Nat) w m d x H', Aft K w0 m0 w m → lk m → ds[i]? = some d → J.yld i w.H x H' → ∃ w', w'.σ = w.σ ∧ w'.H = H' ∧ Aft K w m w' m ∧ Rep K w'.γ w'.G x d
abbrev FI := M → (List D → (M → Prop) → M → Prop) → PX → Prop
structure VI (X : Cx) (W : WX) (tg iter : Expr) (f : FI) : Prop where
  ex : ∃ t, PI X tg iter t ∧ ∀ (w : Wd) (m : M) (Q : List D → (M → Prop) → M → Prop) (Qx : PX) (R : It → Hp → Prop), SOk X.K w m → f m Q Qx →
    (∀ ds lk m' w' J, w'.σ = w.σ → Aft X.K w m w' m' → ItOk X.K w' m' J ds lk → Q ds lk m' → R J w'.H) → ExOk X.K W w m Qx → t w.σ w.H R
def forR (g : FG) (fb : FS) (E : EndsV) (lk : M → Prop) : List D → M → Prop
  | [], m => lk m ∧ E.nx m
  | d :: ds, m => lk m ∧ g m d fun m1 => fb (E.wl (forR g fb E lk ds)) m1
theorem forR_nil {g : FG} {fb : FS} {E : EndsV} {lk : M → Prop} {m : M} : forR g fb E lk [] m = (lk m ∧ E.nx m) := rfl
theorem forR_cons {g : FG} {fb : FS} {E : EndsV} {lk : M → Prop} {d : D} {ds : List D} {m : M} : forR g fb E lk (d :: ds) m = (lk m ∧ g m d fun m1 => fb (E.wl (forR g fb E lk ds)) m1) := rfl
theorem forR_lk {g : FG} {fb : FS} {E : EndsV} {lk : M → Prop} {ds : List D} {m : M} (h : forR g fb E lk ds m) : lk m := by
  cases ds with
  | nil => rw [forR_nil] at h; exact h.1
  | cons d ds => rw [forR_cons] at h; exact h.1
@[irreducible] def forQ (g : FG) (fb : FS) (E : EndsV) (lk : M → Prop) (ds : List D) (m : M) : Prop := forR g fb E lk ds m
theorem forQ_eq {g : FG} {fb : FS} {E : EndsV} {lk : M → Prop} {ds : List D} {m : M} : forQ g fb E lk ds m = forR g fb E lk ds m := by rw [forQ]
def sFor (fi : FI) (g : FG) (fb : FS) : FS := fun E m => fi m (fun ds lk m1 => forQ g fb E lk ds m1) E.ex
theorem vs_for {tg iter : Expr} {body : List Stmt} {fi : FI} {g : FG} {is : List Nat} (hp : PassesOwn (model X.prog X.w) X.A X.env X.xe) (hc : X.calm = true) (hi : VI X W tg iter fi) (hg : VG X is tg g) (hb : VSs X W body fs) (hs : ∀ x, foldedSetIterable iter X.env x = pure x := by intro _; rfl) :
    VS X W (.For tg iter body [] pos) (sFor fi g fs) := by
  obtain ⟨ti, pi, si⟩ := hi.ex
  obtain ⟨tg', pg, sg⟩ := hg.ex
  obtain ⟨tb, pb, sb⟩ := hb.ex
  refine ⟨⟨_, ps_for hp hc pi pg pb hs, fun w m E D s h k => ?_⟩⟩
  refine si w m _ _ _ s h (fun ds lk m1 w1 J e1 a1 J1 q => ?_) k.exOk
  rw [forQ_eq] at q
  have k1 := k.aft a1
  rw [← e1]
  refine ⟨fun i n σ H => n = ds.length - i ∧ i ≤ ds.length ∧ ∃ w2 m2, w2.σ = σ ∧ w2.H = H ∧ Aft X.K w1 m1 w2 m2 ∧ forR g fs E lk (ds.drop i) m2, ⟨_, rfl, Nat.zero_le _, w1, m1, rfl, rfl, .refl a1.ok, q⟩, ?_⟩
  rintro i n _ _ ⟨rfl, hi, w2, m2, rfl, rfl, a2, q2⟩
  by_cases hlt : i < ds.length
  · refine .inr ⟨J1.go i w2 m2 a2 (forR_lk q2) hlt, fun σ' H' => ∃ w3 m3, w3.σ = σ' ∧ w3.H = H' ∧ Aft X.K w1 m1 w3 m3 ∧ forR g fs E lk (ds.drop (i + 1)) m3, fun σ' H' ⟨w3, m3, e3, e4, a3, q3⟩ => ⟨ds.length - (i + 1), by omega, rfl, hlt, w3, m3, e3, e4, a3, q3⟩, fun x H' y => ?_⟩
    obtain ⟨w3, e3, eH, a3, r3⟩ := J1.yld i w2 m2 ds[i] x H' a2 (forR_lk q2) (List.getElem?_eq_getElem hlt) y
    rw [List.drop_eq_getElem_cons hlt, forR_cons] at q2
    subst eH
    rw [← e3]
    have a23 := a2.trans a3
    refine sg w3 m2 x _ _ _ a3.ok r3 q2.2 fun m4 w4 a4 _ q4 => ?_
    have a24 := a23.trans a4
    have k4 := k1.aft a24
    exact sb w4 m4 _ _ a4.ok q4 ⟨fun m' w' a' q' => ⟨w', m', rfl, rfl, a24.trans a', q'⟩, k4.rt, k4.nx, fun m' w' a' q' => ⟨w', m', rfl, rfl, a24.trans a', q'⟩, k4.ex⟩
  · have e : i = ds.length := by omega
    subst e
    refine .inl ⟨J1.stop w2 m2 a2 (forR_lk q2), ?_⟩
    rw [List.drop_length, forR_nil] at q2
    exact k1.nx m2 w2 a2 q2.2

/-! ### what is walked -/
def iLstOf (m : M) (d : D) (Q : List D → (M → Prop) → M → Prop) : Prop := match d with
  | .lst ds => Q ds (fun _ => True) m
  | .kl ds => Q ds (fun _ => True) m
  | .gh k => match m.gs[k]? with
    | some (.lst ds) => Q ds (fun m' => m'.gs[k]? = some (.lst ds)) m
    | _ => False
  | _ => False
def iLst (f : FE) : FI := fun m Q Qx => f m (fun r m1 => bindO (keep m1 r) fun p => iLstOf p.2 p.1 Q) Qx
/-- a list stands while it is locked -/
theorem lst_stands {K : PySem.W.Frag} {w : Wd} {m : M} {v : V} {d : D} {Q : List D → (M → Prop) → M → Prop} (s : SOk K w m) (r : Rep K w.γ w.G v d) (h : iLstOf m d Q) :
    ∃ a ds lk, v = .ref a ∧ Q ds lk m ∧ lk m ∧ ∀ w' m', Aft K w m w' m' → lk m' → ∃ xs, SqL K w'.H a xs ∧ RepL K w'.γ w'.G xs ds := by
  unfold iLstOf at h
  split at h
  · cases r with
    | lst h1 r1 => exact ⟨_, _, _, rfl, h, trivial, fun w' m' a' _ => ⟨_, .inl (.inl (a'.ok.sub _ _ (a'.st.gg _ _ h1))), r1.mono a'.st.gp a'.st.gg⟩⟩
  · cases r with
    | kl h1 r1 => exact ⟨_, _, _, rfl, h, trivial, fun w' m' a' _ => ⟨_, sqL_ext (a'.st.gg.trans a'.ok.sub) h1, r1.mono a'.st.gp a'.st.gg⟩⟩
  · rename_i k
    split at h
    · rename_i ds hd
      cases r with
      | gh h1 =>
        refine ⟨_, ds, _, rfl, h, hd, fun w' m' a' l => ?_⟩
        obtain ⟨b, o, h2, h3, h4, h5⟩ := a'.ok.ghAt l
        rw [a'.st.gp.get h1] at h2
        cases h2
        cases h5 with
        | lst r1 => exact ⟨_, .inl (.inl h4), r1⟩
    · exact h.elim
  · exact h.elim
theorem vi_list {tg : Expr} (ha : VE X W a fa) : VI X W tg a (iLst fa) := by
  obtain ⟨ta, pa, sa⟩ := ha.ex
  refine ⟨⟨_, pi_list pa, fun w m Q Qx R s h k kx => ?_⟩⟩
  refine sa w m _ _ _ s h (fun r m1 w1 v e1 a1 r1 q => ?_) kx
  obtain ⟨⟨d, m2⟩, hk, q⟩ := bindO_elim q
  obtain ⟨w2, e2, eH, a2, r2⟩ := keep_ok a1 r1 hk
  obtain ⟨p, ds, lk, rfl, q2, l0, st⟩ := lst_stands a2.ok r2 q
  obtain ⟨xs0, h0, _⟩ := st w2 m2 (.refl a2.ok) l0
  refine ⟨p, rfl, ⟨xs0, by rw [← eH]; exact h0⟩, ?_⟩
  rw [← eH]
  refine k ds lk m2 w2 _ (e2.trans e1) a2 ⟨fun w' m' a' l => ?_, fun i w' m' a' l hi => ?_, fun i w' m' d x H' a' l hd y => ?_⟩ q2
  · obtain ⟨xs, h1, r1⟩ := st w' m' a' l
    exact ⟨xs, h1, Nat.le_of_eq r1.length⟩
  · obtain ⟨xs, h1, r1⟩ := st w' m' a' l
    obtain ⟨x, hx, _⟩ := r1.get (List.getElem?_eq_getElem hi)
    exact ⟨xs, x, h1, hx⟩
  · obtain ⟨xs, h1, r1⟩ := st w' m' a' l
    obtain ⟨rfl, y⟩ := y
    obtain ⟨x', hx, rx⟩ := r1.get hd
    have := y xs h1
    rw [hx] at this
    cases this
    exact ⟨w', rfl, rfl, .refl a'.ok, rx⟩
def iTupD (f : FE) : FI := fun m Q Qx => f m (fun r m1 => bindO (keep m1 r) fun p => bindO (tupOf p.1) fun ds => Q ds (fun _ => True) p.2) Qx
theorem vi_tup {tg : Expr} (ha : VE X W a fa) : VI X W tg a (iTupD fa) := by
  obtain ⟨ta, pa, sa⟩ := ha.ex
  refine ⟨⟨_, pi_tup pa, fun w m Q Qx R s h k kx => ?_⟩⟩
  refine sa w m _ _ _ s h (fun r m1 w1 v e1 a1 r1 q => ?_) kx
  obtain ⟨⟨d, m2⟩, hk, q⟩ := bindO_elim q
  obtain ⟨w2, e2, eH, a2, r2⟩ := keep_ok a1 r1 hk
  obtain ⟨ds, hd, q2⟩ := bindO_elim q
  have st : ∃ p, v = .ref p ∧ ∀ w' m', Aft X.K w2 m2 w' m' → ∃ xs, SqT X.K w'.H p xs ∧ RepL X.K w'.γ w'.G xs ds := by
    cases d <;> simp [tupOf] at hd <;> subst hd
    · cases r2 with
      | tup h1 rr => exact ⟨_, rfl, fun w' m' a' => ⟨_, .inl (.inl (a'.ok.sub _ _ (a'.st.gg _ _ h1))), rr.mono a'.st.gp a'.st.gg⟩⟩
    · cases r2 with
      | kt h1 rr => exact ⟨_, rfl, fun w' m' a' => ⟨_, sqT_ext (a'.st.gg.trans a'.ok.sub) h1, rr.mono a'.st.gp a'.st.gg⟩⟩
  obtain ⟨p, rfl, st⟩ := st
  obtain ⟨xs0, h0, _⟩ := st w2 m2 (.refl a2.ok)
  refine ⟨p, rfl, ⟨xs0, by rw [← eH]; exact h0⟩, ?_⟩
  rw [← eH]
  refine k ds _ m2 w2 _ (e2.trans e1) a2 ⟨fun w' m' a' l => ?_, fun i w' m' a' l hi => ?_, fun i w' m' d x H' a' l hd y => ?_⟩ q2
  · obtain ⟨xs, h1, r1⟩ := st w' m' a'
    exact ⟨xs, h1, Nat.le_of_eq r1.length⟩
  · obtain ⟨xs, h1, r1⟩ := st w' m' a'
    obtain ⟨x, hx, _⟩ := r1.get (List.getElem?_eq_getElem hi)
    exact ⟨xs, x, h1, hx⟩
  · obtain ⟨xs, h1, r1⟩ := st w' m' a'
    obtain ⟨rfl, y⟩ := y
    obtain ⟨x', hx, rx⟩ := r1.get hd
    have := y xs h1
    rw [hx] at this
    cases this
    exact ⟨w', rfl, rfl, .refl a'.ok, rx⟩
def signsOf (x : Str) : List D := x.cps.toList.map fun c => .str ⟨#[c]⟩
def iStrD (f : FE) : FI := fun m Q Qx => f m (fun r m1 => bindO (view m1 r) fun d => match d with
  | .str x => Q (signsOf x) (fun _ => True) m1
  | _ => False) Qx
theorem vi_str {tg : Expr} (ha : VE X W a fa) : VI X W tg a (iStrD fa) := by
  obtain ⟨ta, pa, sa⟩ := ha.ex
  refine ⟨⟨_, pi_str pa, fun w m Q Qx R s h k kx => ?_⟩⟩
  refine sa w m _ _ _ s h (fun r m1 w1 v e1 a1 r1 q => ?_) kx
  obtain ⟨d, hd, q⟩ := bindO_elim q
  have hv := a1.ok.view r1 hd
  split at q
  · rename_i x
    cases hv
    refine ⟨x, rfl, k _ _ m1 w1 _ e1 a1 ⟨fun w' m' a' l => ?_, fun i w' m' a' l hi => ?_, fun i w' m' d x' H' a' l hd y => ?_⟩ q⟩
    · show x.cps.size ≤ _
      simp [signsOf]
    · show i < x.cps.size
      simpa [signsOf] using hi
    · obtain ⟨rfl, c, hc, rfl⟩ := y
      refine ⟨w', rfl, rfl, .refl a'.ok, ?_⟩
      have e : d = .str ⟨#[c]⟩ := by
        unfold signsOf at hd
        rw [List.getElem?_map] at hd
        have : x.cps.toList[i]? = some c := by simpa using hc
        rw [this] at hd
        exact (Option.some.inj hd).symm
      rw [e]
      exact .str _
  · exact q.elim
def rangeD (lo : Int) (n : Nat) : List D := (List.range n).map fun (i : Nat) => .int (lo + i)
theorem rangeD_len (lo : Int) (n : Nat) : (rangeD lo n).length = n := by simp [rangeD]
theorem rangeD_at {lo : Int} {n i : Nat} {d : D} (h : (rangeD lo n)[i]? = some d) : d = .int (lo + i) := by
  unfold rangeD at h
  rw [List.getElem?_map] at h
  cases e : (List.range n)[i]? with
  | none => rw [e] at h; cases h
  | some j =>
    rw [e] at h
    obtain ⟨hl, e⟩ := List.getElem?_eq_some_iff.mp e
    rw [List.getElem_range] at e
    subst e
    exact (Option.some.inj h).symm
theorem rangeD_succ (lo : Int) (n : Nat) : rangeD lo (n + 1) = rangeD lo n ++ [.int (lo + n)] := by simp [rangeD, List.range_succ]
theorem rangeD_cons (lo : Int) (n : Nat) : rangeD lo (n + 1) = .int lo :: rangeD (lo + 1) n := by
  simp only [rangeD, List.range_succ_eq_map, List.map_cons, List.map_map]
  congr 1
  · simp
  · apply List.map_congr_left
    intro i _
    simp only [Function.comp]
    congr 1
    omega
theorem itr_ok {K : PySem.W.Frag} {w0 : Wd} {m0 : M} {lo : Int} {n : Nat} : ItOk K w0 m0 (Itr lo n) (rangeD lo n) (fun _ => True) := by
  refine ⟨fun w' m' a' l => ?_, fun i w' m' a' l hi => ?_, fun i w' m' d x H' a' l hd y => ?_⟩
  · show n ≤ _
    rw [rangeD_len]; exact Nat.le_refl _
  · show i < n
    rwa [rangeD_len] at hi
  · obtain ⟨rfl, rfl⟩ := y
    rw [rangeD_at hd]
    exact ⟨w', rfl, rfl, .refl a'.ok, .int _⟩
def iRange1 (f : FE) : FI := fun m Q Qx => f m (fun r m1 => bindO (asI r) fun j => -(2 ^ 62) ≤ j ∧ j < 2 ^ 62 ∧ Q (rangeD 0 j.toNat) (fun _ => True) m1) Qx
theorem vi_range1 {tg : Expr} {p : Pos} (hg : Gl X "range") (hm : X.mg "range" = none) (ha : VE X W a fa) (hs : starEach [a] X.env = [(false, eval a X.env)] := by rfl) : VI X W tg (.Call (.Name "range" p) [a] [] pos) (iRange1 fa) := by
  obtain ⟨ta, pa, sa⟩ := ha.ex
  refine ⟨⟨_, pi_range1 hg hm (pa_cons pa pa_nil hs) hs, fun w m Q Qx R s h k kx => ?_⟩⟩
  refine sa w m _ _ _ s h (fun r m1 w1 v e1 a1 r1 q => ?_) kx
  obtain ⟨j, hj, q1, q2, q⟩ := bindO_elim q
  exact ⟨j, by rw [asI_ok r1 hj], q1, q2, k _ _ m1 w1 _ e1 a1 itr_ok q⟩
def iRange2 (f g : FE) : FI := fun m Q Qx => f m (fun r m1 => g m1 (fun r' m2 => bindO (asI r) fun i => bindO (asI r') fun j => (-(2 ^ 62) ≤ i ∧ i < 2 ^ 62 ∧ -(2 ^ 62) ≤ j ∧ j < 2 ^ 62) ∧ Q (rangeD i (j - i).toNat) (fun _ => True) m2) Qx) Qx
theorem vi_range2 {tg : Expr} {p : Pos} (hg : Gl X "range") (hm : X.mg "range" = none) (ha : VE X W a fa) (hb : VE X W b fb) (hs : starEach [a, b] X.env = [(false, eval a X.env), (false, eval b X.env)] := by rfl) (hs2 : starEach [b] X.env = [(false, eval b X.env)] := by rfl) :
    VI X W tg (.Call (.Name "range" p) [a, b] [] pos) (iRange2 fa fb) := by
  obtain ⟨ta, pa, sa⟩ := ha.ex
  obtain ⟨tb, pb, sb⟩ := hb.ex
  refine ⟨⟨_, pi_range2 hg hm (pa_cons pa (pa_cons pb pa_nil hs2) (by rw [hs, hs2])) hs hs2, fun w m Q Qx R s h k kx => ?_⟩⟩
  refine sa w m _ _ _ s h (fun r m1 w1 v e1 a1 r1 q => ?_) kx
  rw [← e1]
  refine sb w1 m1 _ _ _ a1.ok q (fun r' m2 w2 u e2 a2 r2 q => ?_) (kx.aft a1 e1)
  obtain ⟨i, hi, q⟩ := bindO_elim q
  obtain ⟨j, hj, q1, q⟩ := bindO_elim q
  exact ⟨i, j, by rw [asI_ok r1 hi, asI_ok r2 hj], q1, k _ _ m2 w2 _ (e2.trans e1) (a1.trans a2) itr_ok q⟩
def enumD (i : Nat) : List D → List D
  | [] => []
  | d :: ds => .tup [.int i, d] :: enumD (i + 1) ds
theorem enumD_len : ∀ (ds : List D) (i : Nat), (enumD i ds).length = ds.length
  | [], _ => rfl
  | d :: ds, i => by rw [enumD, List.length_cons, List.length_cons, enumD_len ds]
theorem enumD_at : ∀ {ds : List D} {j i : Nat} {d : D}, (enumD j ds)[i]? = some d → ∃ x, ds[i]? = some x ∧ d = .tup [.int ((j + i : Nat) : Int), x]
  | [], _, _, _, h => by simp [enumD] at h
  | x :: ds, j, 0, d, h => ⟨x, rfl, by simp [enumD] at h; simp [h]⟩
  | x :: ds, j, i + 1, d, h => by
    obtain ⟨y, h1, h2⟩ := enumD_at (ds := ds) (j := j + 1) (i := i) (by simpa [enumD] using h)
    refine ⟨y, by simpa using h1, ?_⟩
    rw [h2, show j + 1 + i = j + (i + 1) by omega]
def iEnumD (f : FE) : FI := fun m Q Qx => f m (fun r m1 => bindO (keep m1 r) fun p => iLstOf p.2 p.1 fun ds lk m2 => Q (enumD 0 ds) lk m2) Qx
theorem vi_enum {elts : List Expr} {kk : Nat} {p tpos : Pos} (hg : Gl X "enumerate") (hm : X.mg "enumerate" = none) (ha : VE X W a fa) (hs : starEach [a] X.env = [(false, eval a X.env)] := by rfl) : VI X W (.Tuple elts kk tpos) (.Call (.Name "enumerate" p) [a] [] pos) (iEnumD fa) := by
  obtain ⟨ta, pa, sa⟩ := ha.ex
  refine ⟨⟨_, pi_enum hg hm (pa_cons pa pa_nil hs) hs, fun w m Q Qx R s h k kx => ?_⟩⟩
  refine sa w m _ _ _ s h (fun r m1 w1 v e1 a1 r1 q => ?_) kx
  obtain ⟨⟨d, m2⟩, hk, q⟩ := bindO_elim q
  obtain ⟨w2, e2, eH, a2, r2⟩ := keep_ok a1 r1 hk
  obtain ⟨p, ds, lk, rfl, q2, l0, st⟩ := lst_stands a2.ok r2 q
  obtain ⟨xs0, h0, _⟩ := st w2 m2 (.refl a2.ok) l0
  refine ⟨p, xs0, rfl, by rw [← eH]; exact h0, ?_⟩
  rw [← eH]
  refine k _ lk m2 w2 _ (e2.trans e1) a2 ⟨fun w' m' a' l => ?_, fun i w' m' a' l hi => ?_, fun i w' m' d x H' a' l hd y => ?_⟩ q2
  · obtain ⟨xs, h1, r1⟩ := st w' m' a' l
    exact ⟨xs, h1, by rw [enumD_len]; exact Nat.le_of_eq r1.length⟩
  · obtain ⟨xs, h1, r1⟩ := st w' m' a' l
    rw [enumD_len] at hi
    obtain ⟨x, hx, _⟩ := r1.get (List.getElem?_eq_getElem hi)
    exact ⟨xs, x, h1, hx⟩
  · obtain ⟨xs, h1, r1⟩ := st w' m' a' l
    obtain ⟨T, x, rfl, hT, rfl, y⟩ := y
    obtain ⟨d', hd', rfl⟩ := enumD_at hd
    obtain ⟨x', hx, rx⟩ := r1.get hd'
    have z := y xs h1
    rw [hx] at z
    cases z
    obtain ⟨s4, st4⟩ := a'.ok.lay (o := .tup [.int (i : Nat), x]) hT
    refine ⟨w'.lay T (.tup [.int (i : Nat), x]), rfl, rfl, ⟨s4, st4⟩, .tup upd_same (.cons ?_ (.cons (rx.mono (Pre.refl _) st4.gg) .nil))⟩
    rw [Nat.zero_add]
    exact .int _
def zipD (ds es : List D) : List D := List.zipWith (fun a b => .tup [a, b]) ds es
/-- two lists, one beside the other -/
def iZipD (f g : FE) : FI := fun m Q Qx => f m (fun r m1 => bindO (keep m1 r) fun p => g p.2 (fun r' m2 => bindO (keep m2 r') fun p' => bindO (lstOf p.1) fun ds => bindO (lstOf p'.1) fun es => Q (zipD ds es) (fun _ => True) p'.2) Qx) Qx
theorem lst_fix {K : PySem.W.Frag} {w : Wd} {v : V} {d : D} {ds : List D} (r : Rep K w.γ w.G v d) (h : lstOf d = some ds) : ∃ a xs, v = .ref a ∧ SqL K w.G a xs ∧ RepL K w.γ w.G xs ds := by
  cases d <;> simp [lstOf] at h <;> subst h
  · cases r with
    | lst h1 r1 => exact ⟨_, _, rfl, .inl (.inl h1), r1⟩
  · cases r with
    | kl h1 r1 => exact ⟨_, _, rfl, h1, r1⟩
theorem vi_zip {elts : List Expr} {kk : Nat} {p tpos : Pos} (hg : Gl X "zip") (hm : X.mg "zip" = none) (ha : VE X W a fa) (hb : VE X W b fb) (hs : starEach [a, b] X.env = (false, eval a X.env) :: starEach [b] X.env := by rfl) (hs2 : starEach [b] X.env = [(false, eval b X.env)] := by rfl) (hpl : (backTo pos (starEach [b] X.env)).any (·.1) = false := by rfl) :
    VI X W (.Tuple elts kk tpos) (.Call (.Name "zip" p) [a, b] [] pos) (iZipD fa fb) := by
  obtain ⟨ta, pa, sa⟩ := ha.ex
  obtain ⟨tb, pb, sb⟩ := hb.ex
  refine ⟨⟨_, pi_zip hg hm (pa_cons pa (pa_cons pb pa_nil hs2) hs) hs hpl, fun w m Q Qx R s h k kx => ?_⟩⟩
  refine sa w m _ _ _ s h (fun r m1 w1 v e1 a1 r1 q => ?_) kx
  obtain ⟨⟨d, m2⟩, hk, q⟩ := bindO_elim q
  obtain ⟨w2, e2, eH, a2, r2⟩ := keep_ok a1 r1 hk
  rw [← eH, ← e1, ← e2]
  have e21 := e2.trans e1
  refine sb w2 m2 _ _ _ a2.ok q (fun r' m3 w3 u e3 a3 r3 q => ?_) (kx.aft a2 e21)
  obtain ⟨⟨d', m4⟩, hk', q⟩ := bindO_elim q
  obtain ⟨w4, e4, eH4, a4, r4⟩ := keep_ok a3 r3 hk'
  obtain ⟨ds, hd, q⟩ := bindO_elim q
  obtain ⟨es, he, q⟩ := bindO_elim q
  obtain ⟨p1, xs, rfl, h1, rx⟩ := lst_fix (r2.mono a4.st.gp a4.st.gg) hd
  obtain ⟨p2, ys, rfl, h2, ry⟩ := lst_fix r4 he
  refine ⟨p1, p2, xs, ys, rfl, by rw [← eH4]; exact sqL_ext a4.ok.sub h1, by rw [← eH4]; exact sqL_ext a4.ok.sub h2, ?_⟩
  rw [← eH4]
  have st1 : ∀ w' m', Aft X.K w4 m4 w' m' → SqL X.K w'.H p1 xs ∧ SqL X.K w'.H p2 ys := fun w' m' a' => ⟨sqL_ext (a'.st.gg.trans a'.ok.sub) h1, sqL_ext (a'.st.gg.trans a'.ok.sub) h2⟩
  refine k _ _ m4 w4 _ (e4.trans (e3.trans e21)) (a2.trans a4) ⟨fun w' m' a' l => ?_, fun i w' m' a' l hi => ?_, fun i w' m' d x H' a' l hd y => ?_⟩ q
  · obtain ⟨z1, z2⟩ := st1 w' m' a'
    refine ⟨xs, ys, z1, z2, ?_⟩
    rw [zipD, List.length_zipWith, rx.length, ry.length]
    omega
  · obtain ⟨z1, z2⟩ := st1 w' m' a'
    rw [zipD, List.length_zipWith] at hi
    obtain ⟨x, hx, _⟩ := rx.get (List.getElem?_eq_getElem (show i < ds.length by omega))
    obtain ⟨y, hy, _⟩ := ry.get (List.getElem?_eq_getElem (show i < es.length by omega))
    exact ⟨xs, ys, x, y, z1, z2, hx, hy⟩
  · obtain ⟨z1, z2⟩ := st1 w' m' a'
    obtain ⟨T, x, y', rfl, hT, rfl, y1, y2⟩ := y
    rw [zipD, List.getElem?_zipWith] at hd
    cases f1 : ds[i]? with
    | none => rw [f1] at hd; simp at hd
    | some d1 =>
      cases f2 : es[i]? with
      | none => rw [f1, f2] at hd; simp at hd
      | some d2 =>
        rw [f1, f2] at hd
        simp at hd
        subst hd
        obtain ⟨x', hx, rx'⟩ := rx.get f1
        obtain ⟨y'', hy, ry'⟩ := ry.get f2
        have z := y1 xs z1
        rw [hx] at z
        cases z
        have z := y2 ys z2
        rw [hy] at z
        cases z
        obtain ⟨s4, st4⟩ := a'.ok.lay (o := .tup [x, y']) hT
        exact ⟨w'.lay T (.tup [x, y']), rfl, rfl, ⟨s4, st4⟩, .tup upd_same (.cons ((rx'.mono a'.st.gp a'.st.gg).mono (Pre.refl _) st4.gg) (.cons ((ry'.mono a'.st.gp a'.st.gg).mono (Pre.refl _) st4.gg) .nil))⟩
def iRevD (f : FE) : FI := fun m Q Qx => f m (fun r m1 => bindO (keep m1 r) fun p => iLstOf p.2 p.1 fun ds lk m2 => Q ds.reverse lk m2) Qx
theorem vi_rev {tg : Expr} {p : Pos} (hg : Gl X "reversed") (hm : X.mg "reversed" = none) (ha : VE X W a fa) (hs : starEach [a] X.env = [(false, eval a X.env)] := by rfl) : VI X W tg (.Call (.Name "reversed" p) [a] [] pos) (iRevD fa) := by
  obtain ⟨ta, pa, sa⟩ := ha.ex
  refine ⟨⟨_, pi_reversed hg hm (pa_cons pa pa_nil hs) hs, fun w m Q Qx R s h k kx => ?_⟩⟩
  refine sa w m _ _ _ s h (fun r m1 w1 v e1 a1 r1 q => ?_) kx
  obtain ⟨⟨d, m2⟩, hk, q⟩ := bindO_elim q
  obtain ⟨w2, e2, eH, a2, r2⟩ := keep_ok a1 r1 hk
  obtain ⟨p, ds, lk, rfl, q2, l0, st⟩ := lst_stands a2.ok r2 q
  obtain ⟨xs0, h0, rr0⟩ := st w2 m2 (.refl a2.ok) l0
  refine ⟨p, xs0, rfl, by rw [← eH]; exact h0, ?_⟩
  rw [← eH]
  have hl0 := rr0.length
  refine k _ lk m2 w2 _ (e2.trans e1) a2 ⟨fun w' m' a' l => ?_, fun i w' m' a' l hi => ?_, fun i w' m' d x H' a' l hd y => ?_⟩ q2
  · show xs0.length ≤ _
    rw [List.length_reverse, hl0]; exact Nat.le_refl _
  · obtain ⟨xs, h1, r1⟩ := st w' m' a' l
    rw [List.length_reverse] at hi
    obtain ⟨x, hx, _⟩ := r1.get (List.getElem?_eq_getElem (show ds.length - 1 - i < ds.length by omega))
    exact ⟨by rw [hl0]; exact hi, xs, x, h1, by rw [hl0]; exact hx⟩
  · obtain ⟨xs, h1, r1⟩ := st w' m' a' l
    obtain ⟨rfl, y⟩ := y
    have hi := (List.getElem?_eq_some_iff.mp hd).1
    rw [List.length_reverse] at hi
    rw [List.getElem?_reverse hi] at hd
    obtain ⟨x', hx, rx⟩ := r1.get hd
    have z := y xs h1
    rw [hl0, hx] at z
    cases z
    exact ⟨w', rfl, rfl, .refl a'.ok, rx⟩
end
end VL

/-! The value layer: defs. -/
namespace VL
open PySem PySem.Spec PyProof.Rows L2

/-- what a def does, by its arguments and the shared containers -/
abbrev FV := List D → List D → (Ret → List D → Prop) → (Xc → List D → Prop) → Prop
def w0 (G H : Hp) (γ : List Addr) : Wd := ⟨G, H, γ, []⟩
def m0 (gs : List D) : M := ⟨[], gs⟩
def spV (K : PySem.W.Frag) (n : Nat) (g : FV) : Sp := fun vs H Q E => ∃ (G : Hp) (γ : List Addr) (ds gs : List D) (Qr : Ret → List D → Prop) (Qe : Xc → List D → Prop),
  SOk K (w0 G H γ) (m0 gs) ∧ RepL K γ G vs ds ∧ ds.length = n ∧ g ds gs Qr Qe ∧
  (∀ r gs' G' H' v, Aft K (w0 G H γ) (m0 gs) (w0 G' H' γ) (m0 gs') → RetOk K H (w0 G' H' γ) (m0 gs') v r → Qr r gs' → Q v H') ∧
  (∀ xc gs' G' H' d, Aft K (w0 G H γ) (m0 gs) (w0 G' H' γ) (m0 gs') → XRep K (w0 G' H' γ) xc d → Qe xc gs' → E (.ref xc.C) d H')
theorem spV_len {K : PySem.W.Frag} {n : Nat} {g : FV} {vs : List V} {H : Hp} {Q : VK} {E : XK} (h : spV K n g vs H Q E) : vs.length = n := by
  obtain ⟨G, γ, ds, gs, Qr, Qe, _, r, l, _⟩ := h
  rw [r.length]; exact l
theorem spV_imp {K : PySem.W.Frag} {n : Nat} {g g' : FV} (hg : ∀ ds gs Q Qe, g' ds gs Q Qe → g ds gs Q Qe) {vs : List V} {H : Hp} {Q : VK} {E : XK} (h : spV K n g' vs H Q E) : spV K n g vs H Q E := by
  obtain ⟨G, γ, ds, gs, Qr, Qe, a, r, l, q, k⟩ := h
  exact ⟨G, γ, ds, gs, Qr, Qe, a, r, l, hg _ _ _ _ q, k⟩

section
variable {K : PySem.W.Frag}
/-- behind a call: the caller's state -/
theorem SOk.bare {w : Wd} {m : M} (s : SOk K w m) : SOk K (w0 w.G w.H w.γ) (m0 m.gs) :=
  ⟨s.sub, rfl, fun i d h => by simp [m0] at h, fun i d h => by simp [m0] at h, fun i j d e a h => by simp [m0] at h, s.gl, s.gh, s.gnd⟩
theorem own_bare {G H : Hp} {γ : List Addr} {gs : List D} {a : Addr} : Own (w0 G H γ) (m0 gs) a ↔ a ∈ γ := by
  constructor
  · rintro (h | ⟨i, d, h, _⟩)
    · exact h
    · simp [m0] at h
  · exact .inl
theorem call_back {w : Wd} {m : M} {G' H' : Hp} {gs' : List D} (s : SOk K w m) (a : Aft K (w0 w.G w.H w.γ) (m0 m.gs) (w0 G' H' w.γ) (m0 gs')) : Aft K w m ⟨G', H', w.γ, w.σ⟩ ⟨m.env, gs'⟩ := by
  have keepO : ∀ b o, w.H b = some o → b ∉ w.γ → H' b = some o := fun b o h n => a.st.fr b o h fun z => n (own_bare.mp z)
  have keepG : ∀ b, w.G b = none → b ∉ w.γ → (∃ o, w.H b = some o) → G' b = none := fun b h n ⟨o, h2⟩ => by
    rcases none_or (G' b) with e | ⟨u, e⟩
    · exact e
    · rcases a.st.gn b u e with z | z | z
      · rw [show w.G b = some u from z] at h; cases h
      · exact absurd (own_bare.mp z) n
      · rw [show w.H b = none from z] at h2; cases h2
  refine ⟨⟨a.ok.sub, s.len, fun i d h => ?_, fun i d h => ?_, s.inj, a.ok.gl, a.ok.gh, s.gnd⟩, ⟨a.st.gg, fun b o h n => ?_, fun b o h => ?_, fun b h => .inl ?_, a.st.al, Pre.refl _⟩⟩
  · obtain ⟨v, h1, h2⟩ := s.val i d h
    exact ⟨v, h1, h2.mono (Pre.refl _) a.st.gg⟩
  · obtain ⟨b, o, h1, h2, h3, h4, h5⟩ := s.own i d h
    exact ⟨b, o, h1, keepG b h2 h3 ⟨o, h4⟩, h3, keepO b o h4 h3, h5.mono (Pre.refl _) a.st.gg⟩
  · exact keepO b o h fun z => n (.inl z)
  · rcases a.st.gn b o h with z | z | z
    · exact .inl z
    · exact .inr (.inl (.inl (own_bare.mp z)))
    · exact .inr (.inr z)
  · exact h
theorem ret_back {w : Wd} {m : M} {G' H' : Hp} {gs' : List D} {v : V} {r : Ret} (s : SOk K w m) (h : RetOk K w.H (w0 G' H' w.γ) (m0 gs') v r) : RetOk K w.H ⟨G', H', w.γ, w.σ⟩ ⟨m.env, gs'⟩ v r := by
  cases r with
  | fz d => exact h
  | tmp d =>
    obtain ⟨p, o, rfl, h1, h2, h3, h4, h5⟩ := h
    refine ⟨p, o, rfl, h1, h2, fun z => ?_, h4, h5⟩
    rcases z with z | ⟨i, e, z1, z2⟩
    · exact h3 (.inl z)
    · obtain ⟨a, o', e1, _, _, e4, _⟩ := s.own i e z1
      have z2 : w.σ[i]? = some (some (.ref p)) := z2
      rw [z2] at e1
      cases e1
      rw [h1] at e4; cases e4
  | sl i => 
    have h : ([] : L2.St)[i]? = some (some v) := h
    simp at h
end

section
variable {X : Cx} {W : WX} {es : List Expr} {ga : FA} {pos : Pos}
def fCall (n : Nat) (g : FV) (ga : FA) : FE := fun m Q Qx => ga m (fun ds m1 => ds.length = n ∧ g ds m1.gs (fun r gs' => Q r ⟨m1.env, gs'⟩) (fun xc gs' => Qx xc ⟨m1.env, gs'⟩)) Qx
theorem call_core {n : Nat} {g : FV} {w w1 : Wd} {m m1 : M} {vs : List V} {ds : List D} {Q : Ret → M → Prop} {Qx : PX} {Q' : VK} (e1 : w1.σ = w.σ) (a1 : Aft X.K w m w1 m1) (r1 : RepL X.K w1.γ w1.G vs ds)
    (q : ds.length = n ∧ g ds m1.gs (fun r gs' => Q r ⟨m1.env, gs'⟩) (fun xc gs' => Qx xc ⟨m1.env, gs'⟩))
    (k : ∀ r m' w' v, w'.σ = w.σ → Aft X.K w m w' m' → RetOk X.K w.H w' m' v r → Q r m' → Q' v w'.H) (kx : ExOk X.K W w m Qx) : spV X.K n g vs w1.H Q' (WE W w.σ) := by
  refine ⟨w1.G, w1.γ, ds, m1.gs, _, _, a1.ok.bare, r1, q.1, q.2, fun r gs' G' H' v a2 r2 q2 => ?_, fun xc gs' G' H' d a2 x2 q2 => ?_⟩
  · exact k r ⟨m1.env, gs'⟩ ⟨G', H', w1.γ, w1.σ⟩ v e1 (a1.trans (call_back a1.ok a2)) ((ret_back a1.ok r2).from fun _ z => a1.st.back z) q2
  · have := kx xc ⟨m1.env, gs'⟩ ⟨G', H', w1.γ, w1.σ⟩ d e1 (a1.trans (call_back a1.ok a2)) x2 q2
    show W _ d w.σ H'
    rw [← e1]
    exact this
theorem ve_call {k n : Nat} {f : Addr} {fd : FuncData} {ps : List Str} {g : FV} {x : Str} {p : Pos} {e : Expr} (F : FnOk X.prog X.w X.K X.mg X.base (L2.CX X.prog X.w) k f fd ps (spV X.K n g)) (hr : Room k X.A) (hg : Gl X x) (hm : X.mg x = some (.ref f)) (hk : PySem.W.keepIn X.K (.ref f) = true) (hb : Binds X.K fd ps [])
    (tk : Takes X W) (ha : VA X W (e :: es) ga) (hdb : (x == ("__debug__" : Str)) = false := by decide)
    (he : starEach (e :: es) X.env = (false, eval e X.env) :: starEach es X.env := by rfl) (hpl : (backTo pos (starEach es X.env)).any (·.1) = false := by rfl) :
    VE X W (.Call (.Name x p) (e :: es) [] pos) (fCall n g ga) := by
  obtain ⟨t, pt, st⟩ := ha.ex
  refine ⟨⟨_, pe_callS F hr hg hm hk hb (fun σ => passAt tk σ) pt hdb he hpl, fun w m Q Qx Q' s h k kx => ?_⟩⟩
  refine st w m _ _ _ s h (fun ds m1 w1 vs e1 a1 r1 q => ?_) kx
  exact call_core e1 a1 r1 q k kx
end

/-! ### pointers to shared containers that stay -/
mutual
def ghB (n : Nat) : D → Bool
  | .gh k => decide (k < n)
  | .tup ds => ghBL n ds
  | .lst ds => ghBL n ds
  | .kt ds => ghBL n ds
  | .kl ds => ghBL n ds
  | .dK es => ghBK n es
  | .dT es => ghBT n es
  | .non => true
  | .bl _ => true
  | .int _ => true
  | .str _ => true
  | .raw _ => true
def ghBL (n : Nat) : List D → Bool
  | [] => true
  | d :: ds => ghB n d && ghBL n ds
def ghBK (n : Nat) : List (Key × D) → Bool
  | [] => true
  | (_, d) :: ds => ghB n d && ghBK n ds
def ghBT (n : Nat) : List (List Key × D) → Bool
  | [] => true
  | (_, d) :: ds => ghB n d && ghBT n ds
end
theorem ghBK_map {n : Nat} : ∀ {es : List (Key × D)}, ghBK n es = true → ghBL n (es.map (·.2)) = true
  | [], _ => by simp [ghBL]
  | (k, d) :: es, h => by
    simp only [ghBK, Bool.and_eq_true] at h
    simp only [List.map_cons, ghBL, Bool.and_eq_true]
    exact ⟨h.1, ghBK_map h.2⟩
theorem ghBT_map {n : Nat} : ∀ {es : List (List Key × D)}, ghBT n es = true → ghBL n (es.map (·.2)) = true
  | [], _ => by simp [ghBL]
  | (k, d) :: es, h => by
    simp only [ghBT, Bool.and_eq_true] at h
    simp only [List.map_cons, ghBL, Bool.and_eq_true]
    exact ⟨h.1, ghBT_map h.2⟩
section
variable {K : PySem.W.Frag} {γ more : List Addr} {G : Hp}
mutual
theorem Rep.cutG : ∀ {v : V} {d : D}, Rep K (γ ++ more) G v d → ghB γ.length d = true → Rep K γ G v d
  | _, _, .non, _ => .non
  | _, _, .bl b, _ => .bl b
  | _, _, .int i, _ => .int i
  | _, _, .str x, _ => .str x
  | _, _, .raw v, _ => .raw v
  | _, _, .gh h, z => by
    simp only [ghB, decide_eq_true_eq] at z
    rw [List.getElem?_append_left z] at h
    exact .gh h
  | _, _, .tup h r, z => .tup h (RepL.cutG r (by simpa only [ghB] using z))
  | _, _, .lst h r, z => .lst h (RepL.cutG r (by simpa only [ghB] using z))
  | _, _, .kt h r, z => .kt h (RepL.cutG r (by simpa only [ghB] using z))
  | _, _, .kl h r, z => .kl h (RepL.cutG r (by simpa only [ghB] using z))
  | _, _, .dK h k r, z => .dK h k (RepL.cutG r (ghBK_map (by simpa only [ghB] using z)))
  | _, _, .dT h k r, z => .dT h k (RepL.cutG r (ghBT_map (by simpa only [ghB] using z)))
theorem RepL.cutG : ∀ {vs : List V} {ds : List D}, RepL K (γ ++ more) G vs ds → ghBL γ.length ds = true → RepL K γ G vs ds
  | _, _, .nil, _ => .nil
  | _, _, .cons h r, z => by
    simp only [ghBL, Bool.and_eq_true] at z
    exact .cons (Rep.cutG h z.1) (RepL.cutG r z.2)
end
theorem ORep.cutG {o : HO} {d : D} (r : ORep K (γ ++ more) G o d) (z : ghB γ.length d = true) : ORep K γ G o d := by
  cases r with
  | lst r => exact .lst (r.cutG (by simpa only [ghB] using z))
  | dK k r => exact .dK k (r.cutG (ghBK_map (by simpa only [ghB] using z)))
  | dT k r => exact .dT k (r.cutG (ghBT_map (by simpa only [ghB] using z)))
end
def finG (m : M) (n j : Nat) : Option Ret := if j < n then some (.fz (.gh j)) else match m.gs[j]? with
  | some d => some (.tmp d)
  | none => none
/-- what leaves the def -/
def finR (m : M) (n : Nat) : Ret → Option Ret
  | .fz (.gh j) => finG m n j
  | .fz d => some (.fz d)
  | .tmp d => some (.tmp d)
  | .sl i => match m.env[i]? with
    | some (.own d) => some (.tmp d)
    | some (.val (.gh j)) => finG m n j
    | some (.val d) => some (.fz d)
    | _ => none
def ghR (n : Nat) : Ret → Bool
  | .fz d => ghB n d
  | .tmp d => ghB n d
  | .sl _ => false
def Clean (n : Nat) (m : M) (r : Ret) : Prop := m.gs.length = n ∨ ((m.gs.take n).all (ghB n) = true ∧ ghR n r = true)
def padM (N : Nat) (ds gs : List D) : M := ⟨ds.map .val ++ List.replicate (N - ds.length) .no, gs⟩
/-- the def by its body -/
def endsB (gs : List D) (Q : Ret → List D → Prop) (Qx : Xc → List D → Prop) : EndsV := ⟨fun m => Clean gs.length m (.fz .non) ∧ Q (.fz .non) (m.gs.take gs.length), fun r m => bindO (finR m gs.length r) fun r' => Clean gs.length m r' ∧ Q r' (m.gs.take gs.length), fun _ => False, fun _ => False,
  fun xc m => Clean gs.length m (.fz (.tup (xc.fs.map (·.2)))) ∧ Qx xc (m.gs.take gs.length)⟩
def bodyV (N : Nat) (fb : FS) : FV := fun ds gs Q Qx => fb (endsB gs Q Qx) (padM N ds gs)
section
variable {K : PySem.W.Frag} {G H : Hp} {γ : List Addr} {ds gs : List D} {vs : List V} {N : List Str}
theorem padM_ok (s : SOk K (w0 G H γ) (m0 gs)) (r : RepL K γ G vs ds) : SOk K ⟨G, H, γ, L2.start N vs⟩ (padM N.length ds gs) := by
  have hl := r.length
  have noown : ∀ (i : Nat) d, (padM N.length ds gs).env[i]? ≠ some (.own d) := fun i d h => by
    unfold padM at h
    rcases List.mem_append.mp (List.mem_of_getElem? h) with z | z
    · obtain ⟨e, _, z⟩ := List.mem_map.mp z; cases z
    · have := (List.mem_replicate.mp z).2; cases this
  refine ⟨s.sub, by simp [padM, L2.start, hl], fun i d h => ?_, fun i d h => absurd h (noown i d), fun i j d e a h => absurd h (noown i d), s.gl, s.gh, s.gnd⟩
  unfold padM at h
  by_cases hi : i < ds.length
  · have h : (ds.map Sl.val ++ List.replicate (N.length - ds.length) Sl.no)[i]? = some (.val d) := h
    rw [List.getElem?_append_left (by simpa using hi), List.getElem?_map] at h
    cases e : ds[i]? with
    | none => rw [e] at h; cases h
    | some d' =>
      rw [e] at h
      cases h
      obtain ⟨v, h1, h2⟩ := r.get e
      refine ⟨v, ?_, h2⟩
      show (vs.map some ++ _)[i]? = _
      rw [List.getElem?_append_left (by simp [hl]; exact hi), List.getElem?_map, h1]
      rfl
  · have h : (ds.map Sl.val ++ List.replicate (N.length - ds.length) Sl.no)[i]? = some (.val d) := h
    rw [List.getElem?_append_right (by simp; omega), List.getElem?_replicate] at h
    split at h <;> cases h
theorem start_own {a : Addr} : Own ⟨G, H, γ, L2.start N vs⟩ (padM N.length ds gs) a ↔ a ∈ γ := by
  constructor
  · rintro (h | ⟨i, d, h, _⟩)
    · exact h
    · unfold padM at h
      rcases List.mem_append.mp (List.mem_of_getElem? h) with z | z
      · obtain ⟨e, _, z⟩ := List.mem_map.mp z; cases z
      · have := (List.mem_replicate.mp z).2; cases this
  · exact .inl
theorem pre_cut {γ' : List Addr} {k : Nat} {a : Addr} (p : Pre γ γ') (h : γ[k]? = some a) : γ'[k]? = some a := p.get h
/-- at the end of the body -/
theorem body_end {w' : Wd} {m' : M} {r : Ret} (hgs : gs.length = γ.length) (a : Aft K ⟨G, H, γ, L2.start N vs⟩ (padM N.length ds gs) w' m') (c : Clean gs.length m' r) : Aft K (w0 G H γ) (m0 gs) (w0 w'.G w'.H γ) (m0 (m'.gs.take gs.length)) := by
  obtain ⟨more, eγ⟩ := a.st.gp
  have eγ : w'.γ = γ ++ more := eγ
  have hlen := a.ok.gl
  rw [eγ, List.length_append] at hlen
  refine ⟨⟨a.ok.sub, rfl, fun i d h => by simp [m0] at h, fun i d h => by simp [m0] at h, fun i j d e b h => by simp [m0] at h, ?_, fun k b d h1 h2 => ?_, ?_⟩, ⟨a.st.gg, fun b o h n => ?_, fun b o h => ?_, fun b h => .inl h, a.st.al, Pre.refl _⟩⟩
  · show (m'.gs.take gs.length).length = γ.length
    rw [List.length_take]; omega
  · have h1 : γ[k]? = some b := h1
    have h2 : (m'.gs.take gs.length)[k]? = some d := h2
    have hk : k < gs.length := by have := (List.getElem?_eq_some_iff.mp h1).1; omega
    rw [List.getElem?_take_of_lt hk] at h2
    obtain ⟨h3, o, h4, h5⟩ := a.ok.gh k b d (a.st.gp.get h1) h2
    refine ⟨h3, o, h4, ?_⟩
    show ORep K γ w'.G o d
    rcases c with c | ⟨c, _⟩
    · have : more = [] := List.length_eq_zero_iff.mp (by omega)
      rw [eγ, this, List.append_nil] at h5
      exact h5
    · rw [eγ] at h5
      refine h5.cutG ?_
      rw [← hgs]
      exact List.all_eq_true.mp c d (List.mem_of_getElem? (by rw [List.getElem?_take_of_lt hk]; exact h2))
  · have := a.ok.gnd
    rw [eγ] at this
    exact (List.nodup_append.mp this).1
  · exact a.st.fr b o h fun z => n (own_bare.mpr (start_own.mp z))
  · rcases a.st.gn b o h with z | z | z
    · exact .inl z
    · exact .inr (.inl (own_bare.mpr (start_own.mp z)))
    · exact .inr (.inr z)
theorem fresh_own {w' : Wd} {m' : M} {p : Addr} (a : Aft K ⟨G, H, γ, L2.start N vs⟩ (padM N.length ds gs) w' m') (h : Own w' m' p) (n : p ∉ γ) : H p = none := by
  rcases a.st.on p h with z | z
  · exact absurd (start_own.mp z) n
  · exact z
theorem body_ret {w' : Wd} {m' : M} {v : V} {r r' : Ret} (hgs : gs.length = γ.length) (a : Aft K ⟨G, H, γ, L2.start N vs⟩ (padM N.length ds gs) w' m') (h : RetOk K H w' m' v r) (e : finR m' gs.length r = some r') (c : Clean gs.length m' r') :
    RetOk K H (w0 w'.G w'.H γ) (m0 (m'.gs.take gs.length)) v r' := by
  obtain ⟨more, eγ⟩ := a.st.gp
  have eγ : w'.γ = γ ++ more := eγ
  have hlen := a.ok.gl
  rw [eγ, List.length_append] at hlen
  have cutR : ∀ {v : V} {d : D}, Rep K w'.γ w'.G v d → r' = .fz d → Rep K γ w'.G v d := fun {v d} q e' => by
    subst e'
    rcases c with c | ⟨_, c⟩
    · have : more = [] := List.length_eq_zero_iff.mp (by omega)
      rw [eγ, this, List.append_nil] at q
      exact q
    · rw [eγ] at q
      exact q.cutG (by rw [← hgs]; exact c)
  have cutO : ∀ {o : HO} {d : D}, ORep K w'.γ w'.G o d → r' = .tmp d → ORep K γ w'.G o d := fun {o d} q e' => by
    subst e'
    rcases c with c | ⟨_, c⟩
    · have : more = [] := List.length_eq_zero_iff.mp (by omega)
      rw [eγ, this, List.append_nil] at q
      exact q
    · rw [eγ] at q
      exact q.cutG (by rw [← hgs]; exact c)
  have ghcase : ∀ j, Rep K w'.γ w'.G v (.gh j) → finG m' gs.length j = some r' → RetOk K H (w0 w'.G w'.H γ) (m0 (m'.gs.take gs.length)) v r' := by
    intro j q e
    unfold finG at e
    split at e
    · cases e; exact cutR q rfl
    · rename_i hj
      split at e
      · rename_i d hd
        cases e
        cases q with
        | gh hq =>
          obtain ⟨b, o, h1, h2, h3, h4⟩ := a.ok.ghAt hd
          rw [hq] at h1
          cases h1
          have nb : _ ∉ γ := fun z => by
            obtain ⟨i, hi⟩ := List.mem_iff_getElem?.mp z
            have h6 := a.st.gp.get hi
            have hil := (List.getElem?_eq_some_iff.mp hi).1
            obtain ⟨l1, e1⟩ := List.getElem?_eq_some_iff.mp h6
            obtain ⟨l2, e2⟩ := List.getElem?_eq_some_iff.mp hq
            have := (List.getElem_inj a.ok.gnd).mp (e1.trans e2.symm)
            omega
          exact ⟨_, o, rfl, fresh_own a (.inl (List.mem_of_getElem? hq)) nb, h2, fun z => nb (own_bare.mp z), h3, cutO h4 rfl⟩
      · cases e
  have slcase : ∀ (d : D), finR m' gs.length (.fz d) = some r' → Rep K w'.γ w'.G v d → RetOk K H (w0 w'.G w'.H γ) (m0 (m'.gs.take gs.length)) v r' := by
    intro d e q
    cases d with
    | gh j => exact ghcase j q e
    | _ => cases e; exact cutR q rfl
  cases r with
  | fz d => exact slcase d e h
  | tmp d =>
    cases e
    obtain ⟨p, o, rfl, h1, h2, h3, h4, h5⟩ := h
    exact ⟨p, o, rfl, h1, h2, fun z => h3 (.inl (by rw [eγ]; exact List.mem_append_left _ (own_bare.mp z))), h4, cutO h5 rfl⟩
  | sl i =>
    have h : w'.σ[i]? = some (some v) := h
    dsimp only [finR] at e
    cases hs : m'.env[i]? with
    | none => rw [hs] at e; cases e
    | some s =>
      rw [hs] at e
      cases s with
      | no => cases e
      | own d =>
        cases e
        obtain ⟨b, o, h1, h2, h3, h4, h5⟩ := a.ok.own i d hs
        rw [h] at h1
        cases h1
        have nb : _ ∉ γ := fun z => h3 (by rw [eγ]; exact List.mem_append_left _ z)
        exact ⟨_, o, rfl, fresh_own a (.inr ⟨i, d, hs, h⟩) nb, h2, fun z => nb (own_bare.mp z), h4, cutO h5 rfl⟩
      | val d =>
        obtain ⟨v', h1, h2⟩ := a.ok.val i d hs
        rw [h] at h1
        cases h1
        cases d with
        | gh j => exact ghcase j h2 e
        | _ => cases e; exact cutR h2 rfl
theorem repl_map2 {γ' : List Addr} {G' : Hp} {vs : List V} {ds : List D} (r : RepL K γ' G' vs ds) : RepL K γ' G' vs ds := r
theorem body_exc {w' : Wd} {m' : M} {xc : Xc} {d : Option Addr} (hgs : gs.length = γ.length) (a : Aft K ⟨G, H, γ, L2.start N vs⟩ (padM N.length ds gs) w' m') (c : Clean gs.length m' (.fz (.tup (xc.fs.map (·.2))))) (h : XRep K w' xc d) : XRep K (w0 w'.G w'.H γ) xc d := by
  rcases h with h | ⟨dd, fv, h1, h2, h3, h4⟩
  · exact .inl h
  · refine .inr ⟨dd, fv, h1, h2, h3, ?_⟩
    obtain ⟨more, eγ⟩ := a.st.gp
    have eγ : w'.γ = γ ++ more := eγ
    have hlen := a.ok.gl
    rw [eγ, List.length_append] at hlen
    rw [eγ] at h4
    rcases c with c | ⟨_, c⟩
    · have : more = [] := List.length_eq_zero_iff.mp (by omega)
      rw [this, List.append_nil] at h4
      exact h4
    · refine h4.cutG ?_
      rw [← hgs]
      simpa only [ghR, ghB] using c
end
/-- THE RULE for a def -/
theorem fn_ok {P : Program} {w : World} {K : PySem.W.Frag} {mg : Str → Option Value} {base : Heap} {x qual : Str} {st : Stmt} {f : Addr} {fd : FuncData} {N ps : List Str} {k : Nat} {fb : FS} (F : L2.Fun K x qual st f fd) (S : FnScope N ps (defScope st))
    (hbody : ∀ (cdv : Value) (A : Around) (outer : List Env) (s : Shared) (H : Hp) (E : XK), Room k (A.deeper (envOfC qual (defScope st) s.heap.objs.size f cdv)) → VSs (cxOf (L2.CX P w) P w K mg base N qual (defScope st) f cdv A outer s H E) (fun cls d _ H => E cls d H) (defBody st) fb) :
    FnOk P w K mg base (L2.CX P w) (k + 1) f fd ps (spV K ps.length (bodyV N.length fb)) := by
  refine F.okX S (fun vs H Q E h => spV_len h) fun cdv A outer s H vs Q E hr h => ?_
  obtain ⟨t, pt, stp⟩ := (hbody cdv A outer s H E hr).ex
  refine ⟨t, pt, ?_⟩
  obtain ⟨G, γ, ds, gs, Qr, Qe, s0, r, hl, q, k1, k2⟩ := h
  have hgs : gs.length = γ.length := s0.gl
  refine stp ⟨G, H, γ, L2.start N vs⟩ (padM N.length ds gs) _ _ (padM_ok s0 r) q ⟨fun m' w' a' q' => ?_, fun r' m' w' v a' rr q' => ?_, fun _ _ _ q' => q'.elim, fun _ _ _ q' => q'.elim, fun xc m' w' d a' x' q' => ?_⟩
  · exact k1 (.fz .non) _ w'.G w'.H .non (body_end hgs a' q'.1) .non q'.2
  · obtain ⟨r2, e2, c2, q2⟩ := bindO_elim q'
    exact k1 r2 _ w'.G w'.H v (body_end hgs a' c2) (body_ret hgs a' rr e2 c2) q2
  · exact k2 xc _ w'.G w'.H d (body_end hgs a' q'.1) (body_exc hgs a' q'.1 x') q'.2
theorem fn_nice {P : Program} {w : World} {K : PySem.W.Frag} {mg : Str → Option Value} {base : Heap} {CX : CXT} {k n : Nat} {f : Addr} {fd : FuncData} {ps : List Str} {g g' : FV} (F : FnOk P w K mg base CX k f fd ps (spV K n g)) (hg : ∀ ds gs Q Qe, g' ds gs Q Qe → g ds gs Q Qe) : FnOk P w K mg base CX k f fd ps (spV K n g') :=
  F.imp fun vs H Q E h => spV_imp hg h
end VL

/-! The value layer: dicts. -/
namespace VL
open PySem PySem.Spec PyProof.Rows L2

section
variable {κ : Type} [DecidableEq κ]
def dval (es : List (κ × D)) (k : κ) : Option D := (es.find? fun kv => decide (kv.1 = k)).map (·.2)
def dput (es : List (κ × D)) (k : κ) (v : D) : List (κ × D) :=
  if (es.any fun kv => decide (kv.1 = k)) = true then es.map (fun kv => if kv.1 = k then (kv.1, v) else kv) else es ++ [(k, v)]
variable {K : PySem.W.Frag} {γ : List Addr} {G : Hp}
theorem dval_ok : ∀ {kvs : List (κ × V)} {es : List (κ × D)}, kvs.map (·.1) = es.map (·.1) → RepL K γ G (kvs.map (·.2)) (es.map (·.2)) → ∀ k, (∀ d, dval es k = some d → ∃ v, valV kvs k = some v ∧ Rep K γ G v d) ∧ (dval es k = none → valV kvs k = none)
  | [], [], _, _, k => ⟨fun d h => by simp [dval] at h, fun _ => rfl⟩
  | [], _ :: _, h, _, _ => by simp at h
  | _ :: _, [], h, _, _ => by simp at h
  | (k1, v1) :: kvs, (k2, d2) :: es, h, r, k => by
    simp only [List.map_cons, List.cons.injEq] at h
    obtain ⟨rfl, h⟩ := h
    simp only [List.map_cons] at r
    cases r with
    | cons r1 r2 =>
      by_cases e : k1 = k
      · subst e
        refine ⟨fun d hd => ?_, fun hd => ?_⟩
        · simp [dval] at hd
          subst hd
          exact ⟨v1, by simp [valV], r1⟩
        · simp [dval] at hd
      · obtain ⟨a, b⟩ := dval_ok h r2 k
        have e1 : dval ((k1, d2) :: es) k = dval es k := by simp [dval, List.find?_cons, e]
        have e2 : valV ((k1, v1) :: kvs) k = valV kvs k := by simp [valV, List.find?_cons, e]
        rw [e1, e2]
        exact ⟨a, b⟩
theorem dany_ok : ∀ {kvs : List (κ × V)} {es : List (κ × D)}, kvs.map (·.1) = es.map (·.1) → ∀ k, (kvs.any fun kv => decide (kv.1 = k)) = es.any fun kv => decide (kv.1 = k)
  | [], [], _, k => rfl
  | [], _ :: _, h, _ => by simp at h
  | _ :: _, [], h, _ => by simp at h
  | (k1, v1) :: kvs, (k2, d2) :: es, h, k => by
    simp only [List.map_cons, List.cons.injEq] at h
    obtain ⟨rfl, h⟩ := h
    simp only [List.any_cons, dany_ok h k]
theorem drepl_ok {v : V} {d : D} (r : Rep K γ G v d) (k : κ) : ∀ {kvs : List (κ × V)} {es : List (κ × D)}, kvs.map (·.1) = es.map (·.1) → RepL K γ G (kvs.map (·.2)) (es.map (·.2)) →
    (kvs.map (fun kv => if kv.1 = k then (kv.1, v) else kv)).map (·.1) = (es.map (fun kv => if kv.1 = k then (kv.1, d) else kv)).map (·.1) ∧ RepL K γ G ((kvs.map (fun kv => if kv.1 = k then (kv.1, v) else kv)).map (·.2)) ((es.map (fun kv => if kv.1 = k then (kv.1, d) else kv)).map (·.2))
  | [], [], _, _ => ⟨rfl, .nil⟩
  | [], _ :: _, h, _ => by simp at h
  | _ :: _, [], h, _ => by simp at h
  | (k1, v1) :: kvs, (k2, d2) :: es, h, r' => by
    simp only [List.map_cons, List.cons.injEq] at h
    obtain ⟨rfl, h⟩ := h
    simp only [List.map_cons] at r'
    cases r' with
    | cons r1 r2 =>
      obtain ⟨a, b⟩ := drepl_ok r k h r2
      by_cases e : k1 = k
      · simp only [List.map_cons, e, if_pos]
        exact ⟨by rw [a], .cons r b⟩
      · simp only [List.map_cons, e, if_neg, if_false]
        exact ⟨by rw [a], .cons r1 b⟩
theorem dput_ok {v : V} {d : D} (r : Rep K γ G v d) (k : κ) {kvs : List (κ × V)} {es : List (κ × D)} (h : kvs.map (·.1) = es.map (·.1)) (r' : RepL K γ G (kvs.map (·.2)) (es.map (·.2))) :
    (putK kvs k v).map (·.1) = (dput es k d).map (·.1) ∧ RepL K γ G ((putK kvs k v).map (·.2)) ((dput es k d).map (·.2)) := by
  unfold putK dput
  rw [dany_ok h k]
  split
  · exact drepl_ok r k h r'
  · simp only [List.map_append, List.map_cons, List.map_nil]
    exact ⟨by rw [h], r'.append (.cons r .nil)⟩
end
def keyOf : D → Option Key
  | .int i => some (.inl i)
  | .str x => some (.inr x)
  | _ => none
def keysOf : List D → Option (List Key)
  | [] => some []
  | d :: ds => match keyOf d with
    | some k => match keysOf ds with | some ks => some (k :: ks) | none => none
    | none => none
def kD : Key → D
  | .inl i => .int i
  | .inr x => .str x
theorem keyOf_of {d : D} {k : Key} (h : keyOf d = some k) : d = kD k := by
  cases d <;> simp [keyOf] at h <;> subst h <;> rfl
theorem keysOf_of : ∀ {ds : List D} {ks : List Key}, keysOf ds = some ks → ds = ks.map kD
  | [], ks, h => by cases h; rfl
  | d :: ds, ks, h => by
    cases z : keyOf d with
    | none => simp [keysOf, z] at h
    | some k =>
      cases z2 : keysOf ds with
      | none => simp [keysOf, z, z2] at h
      | some r => simp [keysOf, z, z2] at h; subst h; rw [keyOf_of z, keysOf_of z2]; rfl
theorem rep_kD {K : PySem.W.Frag} {γ : List Addr} {G : Hp} {v : V} {k : Key} (r : Rep K γ G v (kD k)) : v = kV k := by
  cases k <;> cases r <;> rfl
theorem vw_kD {K : PySem.W.Frag} {w : Wd} {v : V} {k : Key} (r : Vw K w v (kD k)) : v = kV k := by
  cases k <;> cases r <;> rfl
theorem reps_kD {K : PySem.W.Frag} {γ : List Addr} {G : Hp} : ∀ {ks : List Key} {xs : List V}, RepL K γ G xs (ks.map kD) → xs = ks.map kV
  | [], _, .nil => rfl
  | k :: ks, _, .cons h t => by rw [rep_kD h, reps_kD t]; rfl
/-- what a dict has for a key: none where it is no key of its kind -/
def dGetD (d key : D) : Option (Option D) := match d with
  | .dK es => match keyOf key with | some k => some (dval es k) | none => none
  | .dT es => match key with
    | .tup ds => match keysOf ds with | some ks => some (dval es ks) | none => none
    | _ => none
  | _ => none
def dPutD (d key v : D) (k : D → Prop) : Prop := match d with
  | .dK es => bindO (keyOf key) fun x => es.length < sizeLine ∧ k (.dK (dput es x v))
  | .dT es => match key with
    | .tup ds => bindO (keysOf ds) fun x => es.length < sizeLine ∧ k (.dT (dput es x v))
    | _ => False
  | _ => False
theorem len_keys {κ : Type} {kvs : List (κ × V)} {es : List (κ × D)} (h : kvs.map (·.1) = es.map (·.1)) : kvs.length = es.length := by
  have := congrArg List.length h
  simpa using this
section
variable {K : PySem.W.Frag}
theorem dget_ok {w : Wd} {m : M} {v u : V} {d e : D} {o : Option D} (s : SOk K w m) (hv : Vw K w v d) (hu : Vw K w u e) (h : dGetD d e = some o) :
    ∃ a ov, v = .ref a ∧ DGet w.H a u ov ∧ (∀ x, o = some x → ∃ y, ov = some y ∧ Rep K w.γ w.G y x) ∧ (o = none → ov = none) := by
  unfold dGetD at h
  split at h
  · split at h
    · rename_i es k hk
      cases h
      obtain ⟨a, kvs, rfl, h1, h2, r⟩ := hv
      rw [keyOf_of hk] at hu
      rw [vw_kD hu]
      obtain ⟨z1, z2⟩ := dval_ok h2 r k
      exact ⟨a, _, rfl, DGet.k h1, z1, z2⟩
    · cases h
  · split at h
    · split at h
      · rename_i es _ ds ks hk
        cases h
        obtain ⟨a, kvs, rfl, h1, h2, r⟩ := hv
        obtain ⟨b, xs, rfl, h3, r3⟩ := hu
        rw [keysOf_of hk] at r3
        rw [reps_kD r3] at h3
        obtain ⟨z1, z2⟩ := dval_ok h2 r ks
        exact ⟨a, _, rfl, DGet.t h1 (s.sub _ _ h3), z1, z2⟩
      · cases h
    · cases h
  · cases h
theorem dput_at {w : Wd} {m : M} {a : Addr} {o : HO} {u v : V} {d e x : D} {k : D → Prop} (s : SOk K w m) (ho : w.H a = some o) (r : ORep K w.γ w.G o d) (hu : Vw K w u e) (rx : Rep K w.γ w.G v x) (h : dPutD d e x k) :
    ∃ o' d', DPut w.H a u v (upd w.H a o') ∧ ORep K w.γ w.G o' d' ∧ k d' := by
  unfold dPutD at h
  split at h
  · obtain ⟨y, hy, hl, h⟩ := bindO_elim h
    cases r with
    | dK h2 r =>
      rw [keyOf_of hy] at hu
      rw [vw_kD hu]
      obtain ⟨z1, z2⟩ := dput_ok rx y h2 r
      exact ⟨_, _, DPut.k ho (by rw [len_keys h2]; exact hl), .dK z1 z2, h⟩
  · split at h
    · obtain ⟨y, hy, hl, h⟩ := bindO_elim h
      cases r with
      | dT h2 r =>
        obtain ⟨b, xs, rfl, h3, r3⟩ := hu
        rw [keysOf_of hy] at r3
        rw [reps_kD r3] at h3
        obtain ⟨z1, z2⟩ := dput_ok rx y h2 r
        exact ⟨_, _, DPut.t ho (s.sub _ _ h3) (by rw [len_keys h2]; exact hl), .dT z1 z2, h⟩
    · exact h.elim
  · exact h.elim
end
section
variable {X : Cx} {W : WX} {a b c : Expr} {es : List Expr} {fa fb fc : FE} {ga : FA} {pos : Pos}
/-- d[k] -/
def fDGet (fa fb : FE) : FE := fun m Q Qx => fa m (fun ra m1 => fb m1 (fun rb m2 => bindO (view m2 ra) fun d => bindO (view m2 rb) fun e => bindO (dGetD d e) fun o => bindO o fun x => Q (.fz x) m2) Qx) Qx
theorem ve_dget (hu : X.A.units + 1 < cLine) (ha : VE X W a fa) (hb : VE X W b fb) (hs : NoSl b := by exact fun _ _ => rfl) : VE X W (.Subscript a b pos) (fDGet fa fb) := by
  obtain ⟨ta, pa, sa⟩ := ha.ex
  obtain ⟨tb, pb, sb⟩ := hb.ex
  refine ⟨⟨_, pe_dget hu pa pb hs, fun w m Q Qx Q' s h k kx => ?_⟩⟩
  refine sa w m _ Qx _ s h (fun ra m1 w1 x e1 a1 r1 q1 => ?_) kx
  rw [← e1]
  refine sb w1 m1 _ Qx _ a1.ok q1 (fun rb m2 w2 y e2 a2 r2 q2 => ?_) (kx.aft a1 e1)
  obtain ⟨d, hd, q2⟩ := bindO_elim q2
  obtain ⟨e, he, q2⟩ := bindO_elim q2
  obtain ⟨o, ho, q2⟩ := bindO_elim q2
  obtain ⟨z, hz, q2⟩ := bindO_elim q2
  obtain ⟨p, ov, rfl, g, y1, y2⟩ := dget_ok a2.ok (a2.ok.view (r1.step a2.st e2) hd) (a2.ok.view r2 he) ho
  obtain ⟨v, rfl, rv⟩ := y1 z hz
  exact ⟨p, v, rfl, g, k _ m2 w2 v (e2.trans e1) (a1.trans a2) (retFz rv) q2⟩
/-- k in d, k not in d -/
def fDIn (neg : Bool) (fb fa : FE) : FE := fun m Q Qx => fb m (fun rb m1 => fa m1 (fun ra m2 => bindO (view m2 ra) fun d => bindO (view m2 rb) fun e => bindO (dGetD d e) fun o => Q (.fz (.bl (if neg then !o.isSome else o.isSome))) m2) Qx) Qx
theorem din_core {neg : Bool} {ta tb : TE} {fa fb : FE}
    (sa : ∀ (w : Wd) (m : M) (Q : Ret → M → Prop) (Qx : PX) (Q' : VK), SOk X.K w m → fa m Q Qx → (∀ r m' w' v, w'.σ = w.σ → Aft X.K w m w' m' → RetOk X.K w.H w' m' v r → Q r m' → Q' v w'.H) → ExOk X.K W w m Qx → ta w.σ w.H Q')
    (sb : ∀ (w : Wd) (m : M) (Q : Ret → M → Prop) (Qx : PX) (Q' : VK), SOk X.K w m → fb m Q Qx → (∀ r m' w' v, w'.σ = w.σ → Aft X.K w m w' m' → RetOk X.K w.H w' m' v r → Q r m' → Q' v w'.H) → ExOk X.K W w m Qx → tb w.σ w.H Q')
    {w : Wd} {m : M} {Q : Ret → M → Prop} {Qx : PX} {Q' : VK} (s : SOk X.K w m) (h : fDIn neg fb fa m Q Qx) (k : ∀ r m' w' v, w'.σ = w.σ → Aft X.K w m w' m' → RetOk X.K w.H w' m' v r → Q r m' → Q' v w'.H) (kx : ExOk X.K W w m Qx) :
    (tb w.σ w.H fun y H1 => ta w.σ H1 fun x H2 => ∃ a o, x = .ref a ∧ DGet H2 a y o ∧ Q' (.bl (if neg then !o.isSome else o.isSome)) H2) := by
  refine sb w m _ Qx _ s h (fun rb m1 w1 y e1 a1 r1 q1 => ?_) kx
  rw [← e1]
  refine sa w1 m1 _ Qx _ a1.ok q1 (fun ra m2 w2 x e2 a2 r2 q2 => ?_) (kx.aft a1 e1)
  obtain ⟨d, hd, q2⟩ := bindO_elim q2
  obtain ⟨e, he, q2⟩ := bindO_elim q2
  obtain ⟨o, ho, q2⟩ := bindO_elim q2
  obtain ⟨p, ov, rfl, g, y1, y2⟩ := dget_ok a2.ok (a2.ok.view r2 hd) (a2.ok.view (r1.step a2.st e2) he) ho
  have e3 : ov.isSome = o.isSome := by
    cases o with
    | none => rw [y2 rfl]; rfl
    | some z => obtain ⟨v, hv, _⟩ := y1 z rfl; rw [hv]; rfl
  refine ⟨p, ov, rfl, g, ?_⟩
  rw [e3]
  exact k _ m2 w2 _ (e2.trans e1) (a1.trans a2) (retFz (.bl _)) q2
theorem ve_din (hu : X.A.units + 1 < cLine) (hb : VE X W b fb) (ha : VE X W a fa) (hm : behindInMarks .In a = false := by first | rfl | (cases a <;> rfl)) : VE X W (.Compare b [.In] [a] pos) (fDIn false fb fa) := by
  obtain ⟨ta, pa, sa⟩ := ha.ex
  obtain ⟨tb, pb, sb⟩ := hb.ex
  exact ⟨⟨_, pe_cmp (pc_din hu pb pa) hm, fun w m Q Qx Q' s h k kx => din_core (neg := false) sa sb s h k kx⟩⟩
theorem ve_dnotin (hu : X.A.units + 1 < cLine) (hb : VE X W b fb) (ha : VE X W a fa) (hm : behindInMarks .NotIn a = false := by first | rfl | (cases a <;> rfl)) : VE X W (.Compare b [.NotIn] [a] pos) (fDIn true fb fa) := by
  obtain ⟨ta, pa, sa⟩ := ha.ex
  obtain ⟨tb, pb, sb⟩ := hb.ex
  exact ⟨⟨_, pe_cmp (pc_dnotin hu pb pa) hm, fun w m Q Qx Q' s h k kx => din_core (neg := true) sa sb s h k kx⟩⟩
theorem vt_din (hu : X.A.units + 1 < cLine) (hb : VE X W b fb) (ha : VE X W a fa) (hm : behindInMarks .In a = false := by first | rfl | (cases a <;> rfl)) : VT X W (.Compare b [.In] [a] pos) (fTest (fDIn false fb fa)) := by
  obtain ⟨ta, pa, sa⟩ := ha.ex
  obtain ⟨tb, pb, sb⟩ := hb.ex
  refine ⟨⟨_, pt_cmp (pc_din hu pb pa) hm, fun w m Q Qx Q' s h k kx => ?_⟩⟩
  refine din_core (neg := false) (Q' := fun v H => ∃ c, v = .bl c ∧ Q' c H) sa sb s h (fun r m' w' v e a1 r1 q => ?_) kx
  obtain ⟨c, hc, q⟩ := bindO_elim q
  exact ⟨c, asB_ok r1 hc, k c m' w' e a1 q⟩
theorem vt_dnotin (hu : X.A.units + 1 < cLine) (hb : VE X W b fb) (ha : VE X W a fa) (hm : behindInMarks .NotIn a = false := by first | rfl | (cases a <;> rfl)) : VT X W (.Compare b [.NotIn] [a] pos) (fTest (fDIn true fb fa)) := by
  obtain ⟨ta, pa, sa⟩ := ha.ex
  obtain ⟨tb, pb, sb⟩ := hb.ex
  refine ⟨⟨_, pt_cmp (pc_dnotin hu pb pa) hm, fun w m Q Qx Q' s h k kx => ?_⟩⟩
  refine din_core (neg := true) (Q' := fun v H => ∃ c, v = .bl c ∧ Q' c H) sa sb s h (fun r m' w' v e a1 r1 q => ?_) kx
  obtain ⟨c, hc, q⟩ := bindO_elim q
  exact ⟨c, asB_ok r1 hc, k c m' w' e a1 q⟩
/-- d.get(k), d.get(k, x) -/
def isDict : D → Prop
  | .dK _ => True
  | .dT _ => True
  | _ => False
theorem isD_of {K : PySem.W.Frag} {w : Wd} {v : V} {d : D} (h : Vw K w v d) (e : isDict d) : ∃ a, v = .ref a ∧ IsD w.H a := by
  cases d <;> first | exact e.elim | skip
  · obtain ⟨a, kvs, rfl, h1, _⟩ := h; exact ⟨a, rfl, .inl ⟨_, .inl h1⟩⟩
  · obtain ⟨a, kvs, rfl, h1, _⟩ := h; exact ⟨a, rfl, .inr ⟨_, .inl h1⟩⟩
def fGet1 (fa fb : FE) : FE := fun m Q Qx => fa m (fun ra m1 => bindO (view m1 ra) fun d => isDict d ∧ fb m1 (fun rb m2 => bindO (view m2 ra) fun d => bindO (view m2 rb) fun e => bindO (dGetD d e) fun o => match o with
  | some x => Q (.fz x) m2
  | none => Q (.fz .non) m2) Qx) Qx
theorem ve_get1 {apos : Pos} (hu : X.A.units + 1 < cLine) (ha : VE X W a fa) (hb : VE X W b fb) (m1 : M1 X a "get" apos b pos := by exact ⟨rfl, rfl, rfl, rfl⟩) : VE X W (.Call (.Attribute a "get" apos) [b] [] pos) (fGet1 fa fb) := by
  obtain ⟨ta, pa, sa⟩ := ha.ex
  obtain ⟨tb, pb, sb⟩ := hb.ex
  refine ⟨⟨_, pe_dget1 hu pa pb m1, fun w m Q Qx Q' s h k kx => ?_⟩⟩
  refine sa w m _ Qx _ s h (fun ra m1 w1 x e1 a1 r1 q1 => ?_) kx
  obtain ⟨d, hd, hi, q1⟩ := bindO_elim q1
  obtain ⟨p, rfl, hp⟩ := isD_of (a1.ok.view r1 hd) hi
  refine ⟨p, rfl, hp, ?_⟩
  rw [← e1]
  refine sb w1 m1 _ Qx _ a1.ok q1 (fun rb m2 w2 y e2 a2 r2 q2 => ?_) (kx.aft a1 e1)
  obtain ⟨d, hd, q2⟩ := bindO_elim q2
  obtain ⟨e, he, q2⟩ := bindO_elim q2
  obtain ⟨o, ho, q2⟩ := bindO_elim q2
  obtain ⟨p', ov, ep, g, y1, y2⟩ := dget_ok a2.ok (a2.ok.view (r1.step a2.st e2) hd) (a2.ok.view r2 he) ho
  cases ep
  refine ⟨ov, g, ?_⟩
  cases o with
  | none =>
    rw [y2 rfl]
    exact k _ m2 w2 _ (e2.trans e1) (a1.trans a2) (retFz .non) q2
  | some z =>
    obtain ⟨v, rfl, rv⟩ := y1 z rfl
    exact k _ m2 w2 _ (e2.trans e1) (a1.trans a2) (retFz rv) q2
def fGet2 (fa fb fc : FE) : FE := fun m Q Qx => fa m (fun ra m1 => bindO (view m1 ra) fun d => isDict d ∧ fb m1 (fun rb m2 => fc m2 (fun rc m3 => bindO (view m3 ra) fun d => bindO (view m3 rb) fun e => bindO (dGetD d e) fun o => match o with
  | some x => Q (.fz x) m3
  | none => Q rc m3) Qx) Qx) Qx
theorem ve_get2 {apos : Pos} (hu : X.A.units + 1 < cLine) (ha : VE X W a fa) (hb : VE X W b fb) (hc : VE X W c fc) (m1 : M2 X a "get" apos b c pos := by exact ⟨rfl, rfl, rfl, rfl⟩) : VE X W (.Call (.Attribute a "get" apos) [b, c] [] pos) (fGet2 fa fb fc) := by
  obtain ⟨ta, pa, sa⟩ := ha.ex
  obtain ⟨tb, pb, sb⟩ := hb.ex
  obtain ⟨tc, pc, sc⟩ := hc.ex
  refine ⟨⟨_, pe_dget2 hu pa pb pc m1, fun w m Q Qx Q' s h k kx => ?_⟩⟩
  refine sa w m _ Qx _ s h (fun ra m1 w1 x e1 a1 r1 q1 => ?_) kx
  obtain ⟨d, hd, hi, q1⟩ := bindO_elim q1
  obtain ⟨p, rfl, hp⟩ := isD_of (a1.ok.view r1 hd) hi
  refine ⟨p, rfl, hp, ?_⟩
  rw [← e1]
  refine sb w1 m1 _ Qx _ a1.ok q1 (fun rb m2 w2 y e2 a2 r2 q2 => ?_) (kx.aft a1 e1)
  rw [← e2]
  have a12 := a1.trans a2
  have e21 := e2.trans e1
  refine sc w2 m2 _ Qx _ a2.ok q2 (fun rc m3 w3 u e3 a3 r3 q3 => ?_) (kx.aft a12 e21)
  obtain ⟨d, hd, q3⟩ := bindO_elim q3
  obtain ⟨e, he, q3⟩ := bindO_elim q3
  obtain ⟨o, ho, q3⟩ := bindO_elim q3
  obtain ⟨p', ov, ep, g, y1, y2⟩ := dget_ok a3.ok (a3.ok.view ((r1.step a2.st e2).step a3.st e3) hd) (a3.ok.view (r2.step a3.st e3) he) ho
  cases ep
  refine ⟨ov, g, ?_⟩
  cases o with
  | none =>
    rw [y2 rfl]
    exact k _ m3 w3 _ (e3.trans e21) (a12.trans a3) (r3.from fun _ z => a12.st.back z) q3
  | some z =>
    obtain ⟨v, rfl, rv⟩ := y1 z rfl
    exact k _ m3 w3 _ (e3.trans e21) (a12.trans a3) (retFz rv) q3
/-- {} -/
def fDNewK : FE := fun m Q _ => Q (.tmp (.dK [])) m
def fDNewT : FE := fun m Q _ => Q (.tmp (.dT [])) m
theorem ve_dnewK : VE X W (.Dict [] [] pos) fDNewK := by
  refine ⟨⟨_, pe_dnewK, fun w m Q Qx Q' s h k kx => fun p hp => ?_⟩⟩
  obtain ⟨s2, st2⟩ := s.put (o := .dK []) hp
  exact k _ m (w.put p (.dK [])) _ rfl ⟨s2, st2⟩ (s.putRet hp (.dK rfl .nil)) h
theorem ve_dnewT : VE X W (.Dict [] [] pos) fDNewT := by
  refine ⟨⟨_, pe_dnewT, fun w m Q Qx Q' s h k kx => fun p hp => ?_⟩⟩
  obtain ⟨s2, st2⟩ := s.put (o := .dT []) hp
  exact k _ m (w.put p (.dT [])) _ rfl ⟨s2, st2⟩ (s.putRet hp (.dT rfl .nil)) h
/-- {k: v, ..} -/
abbrev FP := M → (List (Key × D) → M → Prop) → PX → Prop
structure VP (X : Cx) (W : WX) (pos : Pos) (ks : List (Option Expr)) (vs : List Expr) (f : FP) : Prop where
  ex : ∃ t, PPs X pos ks vs t ∧ ∀ (w : Wd) (m : M) (Q : List (Key × D) → M → Prop) (Qx : PX) (Q' : List (V × V) → Hp → Prop), SOk X.K w m → f m Q Qx →
    (∀ (es : List (Key × D)) (m' : M) (w' : Wd) (kvs : List (Key × V)), w'.σ = w.σ → Aft X.K w m w' m' → kvs.map (·.1) = es.map (·.1) → RepL X.K w'.γ w'.G (kvs.map (·.2)) (es.map (·.2)) → Q es m' → Q' (kvs.map fun kv => (kV kv.1, kv.2)) w'.H) → ExOk X.K W w m Qx → tPairs t w.σ w.H Q'
def pNil : FP := fun m Q _ => Q [] m
def pCons (fa fb : FE) (g : FP) : FP := fun m Q Qx => fa m (fun ra m1 => bindO (keep m1 ra) fun p1 => bindO (keyOf p1.1) fun k => fb p1.2 (fun rb m2 => bindO (keep m2 rb) fun p => g p.2 (fun es m3 => Q ((k, p.1) :: es) m3) Qx) Qx) Qx
theorem vp_nil : VP X W pos [] [] pNil := ⟨⟨_, pps_nil, fun w m Q Qx Q' s h k kx => k [] m w [] rfl (.refl s) rfl .nil h⟩⟩
theorem vp_cons {ks : List (Option Expr)} {vs : List Expr} {g : FP} (ha : VE X W a fa) (hb : VE X W b fb) (hr : VP X W pos ks vs g) : VP X W pos (some a :: ks) (b :: vs) (pCons fa fb g) := by
  obtain ⟨ta, pa, sa⟩ := ha.ex
  obtain ⟨tb, pb, sb⟩ := hb.ex
  obtain ⟨tr, pr, sr⟩ := hr.ex
  refine ⟨⟨_, pps_cons pa pb pr, fun w m Q Qx Q' s h k kx => ?_⟩⟩
  refine sa w m _ Qx _ s h (fun ra m1 w1 x e1 a1 r1 q => ?_) kx
  obtain ⟨⟨d, m2⟩, hk, q⟩ := bindO_elim q
  obtain ⟨w2, e2, eH, a2, r2⟩ := keep_ok a1 r1 hk
  obtain ⟨ky, hy, q⟩ := bindO_elim q
  have e21 := e2.trans e1
  have z : d = kD ky := keyOf_of hy
  subst z
  have z := rep_kD r2
  subst z
  rw [← eH, ← e21]
  refine sb w2 m2 _ Qx _ a2.ok q (fun rb m3 w3 y e3 a3 r3 q => ?_) (kx.aft a2 e21)
  obtain ⟨⟨d, m4⟩, hk, q⟩ := bindO_elim q
  obtain ⟨w4, e4, eH4, a4, r4⟩ := keep_ok a3 r3 hk
  have a24 := a2.trans a4
  have e41 := (e4.trans e3).trans e21
  rw [← eH4, ← (e4.trans e3)]
  refine sr w4 m4 _ Qx _ a4.ok q (fun es m5 w5 kvs e5 a5 h1 h2 q => ?_) (kx.aft a24 e41)
  refine k _ m5 w5 ((ky, y) :: kvs) (e5.trans e41) (a24.trans a5) ?_ ?_ q
  · simp only [List.map_cons, h1]
  · exact .cons (r4.mono a5.st.gp a5.st.gg) h2
def dmerge (es more : List (Key × D)) : List (Key × D) := more.foldl (fun acc kv => dput acc kv.1 kv.2) es
theorem dmerge_ok {K : PySem.W.Frag} {γ : List Addr} {G : Hp} : ∀ {more : List (Key × V)} {mes : List (Key × D)} {kvs : List (Key × V)} {es : List (Key × D)}, more.map (·.1) = mes.map (·.1) → RepL K γ G (more.map (·.2)) (mes.map (·.2)) → kvs.map (·.1) = es.map (·.1) → RepL K γ G (kvs.map (·.2)) (es.map (·.2)) →
    (mergeK kvs more).map (·.1) = (dmerge es mes).map (·.1) ∧ RepL K γ G ((mergeK kvs more).map (·.2)) ((dmerge es mes).map (·.2))
  | [], [], _, _, _, _, h, r => ⟨h, r⟩
  | [], _ :: _, _, _, h, _, _, _ => by simp at h
  | _ :: _, [], _, _, h, _, _, _ => by simp at h
  | (k1, v1) :: more, (k2, d2) :: mes, kvs, es, h1, r1, h, r => by
    simp only [List.map_cons, List.cons.injEq] at h1
    obtain ⟨rfl, h1⟩ := h1
    simp only [List.map_cons] at r1
    cases r1 with
    | cons ra rb =>
      obtain ⟨z1, z2⟩ := dput_ok ra k1 h r
      exact dmerge_ok (more := more) (mes := mes) (kvs := putK kvs k1 v1) (es := dput es k1 d2) h1 rb z1 z2
def fDisp (g : FP) : FE := fun m Q Qx => g m (fun es m1 => es.length ≤ 15 ∧ Q (.tmp (.dK (dmerge [] es))) m1) Qx
theorem ve_disp {ks : List (Option Expr)} {vs : List Expr} {g : FP} (hp : VP X W pos ks vs g) (hall : ks.all (·.isSome) = true := by rfl) (hl : ks.length = vs.length := by rfl) (h0 : ks ≠ [] := by exact fun z => by cases z) (h15 : ks.length ≤ 15 := by decide) : VE X W (.Dict ks vs pos) (fDisp g) := by
  obtain ⟨tb, pb, sb⟩ := hp.ex
  refine ⟨⟨_, pe_disp pb hall hl h0 h15, fun w m Q Qx Q' s h k kx => fun p hp => ?_⟩⟩
  obtain ⟨s2, st2⟩ := s.put (o := .dK []) hp
  have a0 : Aft X.K w m (w.put p (.dK [])) m := ⟨s2, st2⟩
  refine sb (w.put p (.dK [])) m _ Qx _ s2 h (fun es m1 w1 kvs e1 a1 h1 r1 q => ?_) (kx.aft a0 rfl)
  have hno : ¬ Own (w.put p (.dK [])) m p := fun z => s.notOwn hp z
  have hH : w1.H p = some (.dK []) := a1.st.fr p _ upd_same hno
  refine ⟨hH, kvs, rfl, by rw [len_keys h1]; exact q.1, ?_⟩
  obtain ⟨z1, z2⟩ := dmerge_ok (kvs := []) (es := []) h1 r1 rfl .nil
  -- the new dict, written at the end
  have hret : RetOk X.K w.H w1 m1 (.ref p) (.tmp (.dK [])) := (s.putRet hp (.dK rfl .nil)).step a1.st e1
  obtain ⟨p', o, ep, f1, f2, f3, f4, f5⟩ := hret
  cases ep
  have a01 := a0.trans a1
  have nep : ∀ b u, w1.G b = some u → b ≠ p := fun b u g z => by rw [z] at g; rw [f2] at g; cases g
  have a2 : Aft X.K w m (w1.put p (.dK (mergeK [] kvs))) m1 := by
    refine ⟨⟨fun b u g => (upd_ne (nep b u g)).trans (a1.ok.sub b u g), a1.ok.len, a1.ok.val, fun i d g => ?_, a1.ok.inj, a1.ok.gl, fun j b d g1 g2 => ?_, a1.ok.gnd⟩, ⟨a01.st.gg, fun b u g n => ?_, a01.st.gn, fun b g => ?_, fun b u g => ?_, a01.st.gp⟩⟩
    · obtain ⟨b, o, g1, g2, g3, g4, g5⟩ := a1.ok.own i d g
      have nb : b ≠ p := fun z => f3 (.inr ⟨i, d, g, by rw [← z]; exact g1⟩)
      exact ⟨b, o, g1, g2, g3, (upd_ne nb).trans g4, g5⟩
    · obtain ⟨g3, o, g4, g5⟩ := a1.ok.gh j b d g1 g2
      have nb : b ≠ p := fun z => f3 (.inl (by rw [← z]; exact List.mem_of_getElem? g1))
      exact ⟨g3, o, (upd_ne nb).trans g4, g5⟩
    · have nb : b ≠ p := fun z => by rw [z] at g; rw [show w.H p = some u from g] at hp; cases hp
      exact (upd_ne nb).trans (a01.st.fr b u g n)
    · exact a01.st.on b g
    · by_cases nb : b = p
      · exact ⟨_, by rw [nb]; exact upd_same⟩
      · obtain ⟨u', g'⟩ := a01.st.al b u g
        exact ⟨u', (upd_ne nb).trans g'⟩
  exact k (.tmp (.dK (dmerge [] es))) m1 (w1.put p (.dK (mergeK [] kvs))) (.ref p) (e1.trans rfl) a2 ⟨p, _, rfl, f1, f2, fun z => f3 z, upd_same, .dK z1 z2⟩ q.2
/-- d[k] = e -/
def sDPutV (fe fo fk : FE) : FS := fun E m => fe m (fun re m1 => bindO (keep m1 re) fun p => fo p.2 (fun ro m3 => fk m3 (fun rk m4 => bindO (view m4 rk) fun kd => bindO (mget m4 ro) fun c => dPutD c kd p.1 fun c' => E.nx (mput m4 ro c')) E.ex) E.ex) E.ex
theorem vs_dput {o i e : Expr} {fo fi fe : FE} {p' : Pos} (hu : X.A.units + 1 < cLine) (he : VE X W e fe) (ho : VE X W o fo) (hi : VE X W i fi) (hs : swapsWith e (some (.Subscript o i p')) pos.line X.env = pure false := by rfl) :
    VS X W (.Assign [.Subscript o i p'] e pos) (sDPutV fe fo fi) := by
  obtain ⟨te, pe, se⟩ := he.ex
  obtain ⟨to, po, so⟩ := ho.ex
  obtain ⟨ti, pi, si⟩ := hi.ex
  refine ⟨⟨_, ps_dput hu po pi pe hs, fun w m E D s h k => ?_⟩⟩
  refine se w m _ _ _ s h (fun re m1 w1 v e1 a1 r1 q => ?_) k.exOk
  obtain ⟨⟨d, m2⟩, hk, q⟩ := bindO_elim q
  obtain ⟨w2, e2, eH, a2, r2⟩ := keep_ok a1 r1 hk
  have e21 := e2.trans e1
  rw [← eH, ← e21]
  refine so w2 m2 _ _ _ a2.ok q (fun ro m3 w3 x e3 a3 r3 q => ?_) (k.exOk.aft a2 e21)
  rw [← e3]
  have a23 := a2.trans a3
  have e31 := e3.trans e21
  refine si w3 m3 _ _ _ a3.ok q (fun ri m4 w4 y e4 a4 r4 q => ?_) (k.exOk.aft a23 e31)
  obtain ⟨kd, hkd, q⟩ := bindO_elim q
  obtain ⟨c, hc, q⟩ := bindO_elim q
  obtain ⟨p, o, rfl, h3, h4, h5⟩ := mut_ok a4.ok (r3.step a4.st e4) hc
  obtain ⟨o', c', g, ro', q⟩ := dput_at a4.ok h3 h4 (a4.ok.view r4 hkd) ((r2.mono a3.st.gp a3.st.gg).mono a4.st.gp a4.st.gg) q
  refine ⟨p, _, rfl, g, ?_⟩
  have := k.nx _ (w4.put p o') ((a23.trans a4).trans (h5 o' c' ro')) q
  rw [mput_σ, e4] at this
  exact this
/-- dict(a list of pairs) -/
def toPairs : List D → Option (List (Key × D))
  | [] => some []
  | .tup [a, b] :: ds => match keyOf a with
    | some k => match toPairs ds with | some r => some ((k, b) :: r) | none => none
    | none => none
  | _ :: _ => none
def gDict : G1 := fun d k => bindO (lstOf d) fun ds => bindO (toPairs ds) fun es => k (.tmp (.dK (dmerge [] es)))
theorem toPairs_ok {K : PySem.W.Frag} {γ : List Addr} {G H : Hp} (e : Ext G H) : ∀ {ds : List D} {xs : List V} {es : List (Key × D)}, RepL K γ G xs ds → toPairs ds = some es → ∃ (ps : List Addr) (kvs : List (Key × V)), xs = ps.map V.ref ∧ Paired (fun p kv => SqT K H p [kV kv.1, kv.2]) ps kvs ∧ kvs.map (·.1) = es.map (·.1) ∧ RepL K γ G (kvs.map (·.2)) (es.map (·.2))
  | [], _, _, .nil, h => by cases h; exact ⟨[], [], rfl, .nil, rfl, .nil⟩
  | d :: ds, _, es, .cons h1 r, h => by
    unfold toPairs at h
    split at h
    · rename_i heq; cases heq
    · rename_i a b ds' heq
      cases heq
      split at h
      · rename_i k hk
        split at h
        · rename_i r' hr
          cases h
          obtain ⟨ps, kvs, rfl, hp, h2, h3⟩ := toPairs_ok e r hr
          cases h1 with
          | tup ha ra =>
            cases ra with
            | cons ra1 ra2 =>
              cases ra2 with
              | cons rb rn =>
                cases rn
                rw [keyOf_of hk] at ra1
                have z := rep_kD ra1
                subst z
                refine ⟨_ :: ps, (k, _) :: kvs, rfl, .cons (.inl (.inl (e _ _ ha))) hp, by simp [h2], .cons rb h3⟩
        · cases h
      · cases h
    · cases h
theorem dictV {K : PySem.W.Frag} : UnV K (fun v H Q => (fun xs H Q => ∃ (a : Addr) (ps : List Addr) (kvs : List (Key × V)), xs = [V.ref a] ∧ SqL K H a (ps.map V.ref) ∧ Paired (fun p kv => SqT K H p [kV kv.1, kv.2]) ps kvs ∧
    ∀ p, H p = none → Q (.ref p) (upd H p (.dK (mergeK [] kvs))) : List V → Hp → VK → Prop) [v] H Q) gDict := by
  intro w m v d k Q' s hv h q
  obtain ⟨ds, he, h⟩ := bindO_elim h
  obtain ⟨es, hn, h⟩ := bindO_elim h
  obtain ⟨a, xs, rfl, h1, r1⟩ := lst_at s hv he
  obtain ⟨ps, kvs, rfl, hp, h2, h3⟩ := toPairs_ok s.sub r1 hn
  obtain ⟨z1, z2⟩ := dmerge_ok (kvs := []) (es := []) h2 h3 rfl .nil
  exact ⟨a, ps, kvs, rfl, h1, hp, fun p hp' => outTmp s q hp' (.dK z1 z2) h⟩
end
end VL

/-! The value layer: list comprehensions. -/
namespace VL
open PySem PySem.Spec PyProof.Rows L2

/-! ### readings that hang on the value's reading alone -/
def canE (K : PySem.W.Frag) (W : WX) (f : FE) : TE := fun σ H Q' => ∃ (w : Wd) (m : M) (Q : Ret → M → Prop) (Qx : PX), w.σ = σ ∧ w.H = H ∧ SOk K w m ∧ f m Q Qx ∧
  (∀ r m' w' v, w'.σ = w.σ → Aft K w m w' m' → RetOk K w.H w' m' v r → Q r m' → Q' v w'.H) ∧ ExOk K W w m Qx
def canT (K : PySem.W.Frag) (W : WX) (f : FT) : TT := fun σ H Q' => ∃ (w : Wd) (m : M) (Q : Bool → M → Prop) (Qx : PX), w.σ = σ ∧ w.H = H ∧ SOk K w m ∧ f m Q Qx ∧
  (∀ r m' w', w'.σ = w.σ → Aft K w m w' m' → Q r m' → Q' r w'.H) ∧ ExOk K W w m Qx
def canG (K : PySem.W.Frag) (is : List Nat) (g : FG) : TG := fun v σ H Q' => ∃ (w : Wd) (m : M) (d : D) (Q : M → Prop), w.σ = σ ∧ w.H = H ∧ SOk K w m ∧ Rep K w.γ w.G v d ∧ g m d Q ∧ (∀ m' w', Aft K w m w' m' → OnlyAt is w.σ w'.σ → Q m' → Q' w'.σ w'.H)
section
variable {X : Cx} {W : WX} {a : Expr}
theorem VE.can {f : FE} (h : VE X W a f) : PE X a (canE X.K W f) := by
  obtain ⟨t, p, s⟩ := h.ex
  refine ⟨fun pins sh σ H Q' I hh => ?_⟩
  obtain ⟨w, m, Q, Qx, rfl, rfl, h1, h2, h3, h4⟩ := hh
  exact p.run pins sh _ _ Q' I (s w m Q Qx Q' h1 h2 h3 h4)
theorem VT.can {f : FT} (h : VT X W a f) : PT X a (canT X.K W f) := by
  obtain ⟨t, p, s⟩ := h.ex
  refine ⟨fun pins sh σ H Q' I hh => ?_⟩
  obtain ⟨w, m, Q, Qx, rfl, rfl, h1, h2, h3, h4⟩ := hh
  exact p.run pins sh _ _ Q' I (s w m Q Qx Q' h1 h2 h3 h4)
theorem VG.can {is : List Nat} {g : FG} (h : VG X is a g) : PG X a (canG X.K is g) := by
  obtain ⟨t, p, s⟩ := h.ex
  refine ⟨fun pins sh σ H v u Q' I r hh => ?_⟩
  obtain ⟨w, m, d, Q, rfl, rfl, h1, h2, h3, h4⟩ := hh
  exact p.run pins sh _ _ v u Q' I r (s w m v d Q Q' h1 h2 h3 h4)
end
/-- the tests of a comprehension -/
structure VTs (X : Cx) (W : WX) (ifs : List Expr) (f : FT) : Prop where
  run : PTs X ifs (canT X.K W f)
def tYesV : FT := fun m Q _ => Q true m
theorem vts_nil {X : Cx} {W : WX} : VTs X W [] tYesV := by
  refine ⟨⟨fun pins sh σ H Q' I hh => ?_⟩⟩
  obtain ⟨w, m, Q, Qx, rfl, rfl, h1, h2, h3, h4⟩ := hh
  exact (pts_nil (X := X)).run pins sh _ _ Q' I (h3 true m w rfl (.refl h1) h2)
theorem vts_one {X : Cx} {W : WX} {c : Expr} {f : FT} (h : VT X W c f) : VTs X W [c] f := ⟨pts_one h.can⟩

section
variable {K : PySem.W.Frag} {w w' wz : Wd} {m m' mz : M}
theorem tmp_step {H0 : Hp} {v : V} {d : D} (h : RetOk K H0 w m v (.tmp d)) (s : Step w (Own w m) w' (Own w' m')) : RetOk K H0 w' m' v (.tmp d) := by
  obtain ⟨p, o, rfl, h1, h2, h3, h4, h5⟩ := h
  refine ⟨p, o, rfl, h1, ?_, ?_, s.fr _ _ h4 h3, h5.mono s.gp s.gg⟩
  · rcases none_or (w'.G p) with e | ⟨u, e⟩
    · exact e
    · rcases s.gn p u e with z | z | z
      · rw [h2] at z; cases z
      · exact absurd z h3
      · rw [h4] at z; cases z
  · intro z
    rcases s.on p z with z | z
    · exact h3 z
    · rw [h4] at z; cases z
/-- a held new object is written -/
theorem Aft.writeTmp {p : Addr} {o : HO} (a : Aft K wz mz w m) (h0 : wz.H p = none) (f2 : w.G p = none) (f3 : ¬ Own w m p) : Aft K wz mz (w.put p o) m := by
  have nep : ∀ b u, w.G b = some u → b ≠ p := fun b u g z => by rw [z] at g; rw [f2] at g; cases g
  refine ⟨⟨fun b u g => (upd_ne (nep b u g)).trans (a.ok.sub b u g), a.ok.len, a.ok.val, fun i d g => ?_, a.ok.inj, a.ok.gl, fun j b d g1 g2 => ?_, a.ok.gnd⟩, ⟨a.st.gg, fun b u g n => ?_, a.st.gn, fun b g => a.st.on b g, fun b u g => ?_, a.st.gp⟩⟩
  · obtain ⟨b, o, g1, g2, g3, g4, g5⟩ := a.ok.own i d g
    have nb : b ≠ p := fun z => f3 (.inr ⟨i, d, g, by rw [← z]; exact g1⟩)
    exact ⟨b, o, g1, g2, g3, (upd_ne nb).trans g4, g5⟩
  · obtain ⟨g3, o, g4, g5⟩ := a.ok.gh j b d g1 g2
    have nb : b ≠ p := fun z => f3 (.inl (by rw [← z]; exact List.mem_of_getElem? g1))
    exact ⟨g3, o, (upd_ne nb).trans g4, g5⟩
  · have nb : b ≠ p := fun z => by rw [z] at g; rw [g] at h0; cases h0
    exact (upd_ne nb).trans (a.st.fr b u g n)
  · by_cases nb : b = p
    · exact ⟨_, by rw [nb]; exact upd_same⟩
    · obtain ⟨u', g'⟩ := a.st.al b u g
      exact ⟨u', (upd_ne nb).trans g'⟩

/-! ### slots forgotten -/
def wipeE (e : List Sl) : List Nat → List Sl
  | [] => e
  | v :: vs => (wipeE e vs).set v .no
def wipeM (m : M) (vs : List Nat) : M := ⟨wipeE m.env vs, m.gs⟩
def Wd.wip (w : Wd) (vs : List Nat) : Wd := ⟨w.G, w.H, w.γ, wipe w.σ vs⟩
theorem wipeE_length (e : List Sl) : ∀ vs : List Nat, (wipeE e vs).length = e.length
  | [] => rfl
  | v :: vs => by unfold wipeE; rw [List.length_set, wipeE_length e vs]
theorem wipeE_get {e : List Sl} {i : Nat} {s : Sl} (hs : s ≠ .no) : ∀ {vs : List Nat}, (wipeE e vs)[i]? = some s → e[i]? = some s ∧ i ∉ vs
  | [], h => ⟨h, by simp⟩
  | v :: vs, h => by
    unfold wipeE at h
    rcases getset h with ⟨_, z, _⟩ | ⟨hi, h⟩
    · exact absurd z hs
    · obtain ⟨h1, h2⟩ := wipeE_get hs h
      exact ⟨h1, by simp only [List.mem_cons, not_or]; exact ⟨hi, h2⟩⟩
theorem wipe_get {σ : L2.St} {i : Nat} : ∀ {vs : List Nat}, i ∉ vs → (wipe σ vs)[i]? = σ[i]?
  | [], _ => rfl
  | v :: vs, h => by
    simp only [List.mem_cons, not_or] at h
    unfold wipe
    rw [List.getElem?_set_ne (fun z => h.1 z.symm)]
    exact wipe_get h.2
theorem wipe_at {σ : L2.St} {i : Nat} : ∀ {vs : List Nat}, i ∈ vs → i < σ.length → (wipe σ vs)[i]? = some none
  | [], h, _ => by simp at h
  | v :: vs, h, hl => by
    unfold wipe
    by_cases e : v = i
    · subst e
      rw [List.getElem?_set_self (by rw [wipe_length]; exact hl)]
    · rw [List.getElem?_set_ne e]
      rcases List.mem_cons.mp h with z | z
      · exact absurd z.symm e
      · exact wipe_at z hl
theorem SOk.wip (s : SOk K w m) (vs : List Nat) : SOk K (w.wip vs) (wipeM m vs) ∧ ∀ b, Own (w.wip vs) (wipeM m vs) b → Own w m b := by
  refine ⟨⟨s.sub, by show (wipeE m.env vs).length = (wipe w.σ vs).length; rw [wipeE_length, wipe_length]; exact s.len, fun i d h => ?_, fun i d h => ?_, fun i j d e a h1 h2 e1 e2 => ?_, s.gl, s.gh, s.gnd⟩, fun b h => ?_⟩
  · obtain ⟨h1, h2⟩ := wipeE_get (by intro z; cases z) h
    obtain ⟨v, e1, e2⟩ := s.val i d h1
    exact ⟨v, (wipe_get h2).trans e1, e2⟩
  · obtain ⟨h1, h2⟩ := wipeE_get (by intro z; cases z) h
    obtain ⟨b, o, e1, e2⟩ := s.own i d h1
    exact ⟨b, o, (wipe_get h2).trans e1, e2⟩
  · obtain ⟨h1, z1⟩ := wipeE_get (by intro z; cases z) h1
    obtain ⟨h2, z2⟩ := wipeE_get (by intro z; cases z) h2
    exact s.inj i j d e a h1 h2 ((wipe_get z1).symm.trans e1) ((wipe_get z2).symm.trans e2)
  · rcases h with h | ⟨i, d, h, e1⟩
    · exact .inl h
    · obtain ⟨h1, z1⟩ := wipeE_get (by intro z; cases z) h
      exact .inr ⟨i, d, h1, (wipe_get z1).symm.trans e1⟩
theorem Aft.wip (a : Aft K wz mz w m) (vs : List Nat) : Aft K wz mz (w.wip vs) (wipeM m vs) := by
  obtain ⟨x, y⟩ := a.ok.wip vs
  exact ⟨x, ⟨a.st.gg, a.st.fr, a.st.gn, fun b h => a.st.on b (y b h), a.st.al, a.st.gp⟩⟩
/-- back to the slots as they were -/
theorem Aft.unwip {σ : L2.St} {vs : List Nat} (a : Aft K wz mz w m) (e : w.σ = wipe σ vs) : Aft K wz mz ⟨w.G, w.H, w.γ, σ⟩ m ∧ ∀ b, Own ⟨w.G, w.H, w.γ, σ⟩ m b → Own w m b := by
  have s := a.ok
  have up : ∀ {i : Nat} {x : V}, w.σ[i]? = some (some x) → σ[i]? = some (some x) := fun h => by rw [e] at h; exact (wipe_some h).1
  have ow : ∀ b, Own ⟨w.G, w.H, w.γ, σ⟩ m b → Own w m b := fun b h => by
    rcases h with h | ⟨i, d, h, e1⟩
    · exact .inl h
    · obtain ⟨c, o, e2, _⟩ := s.own i d h
      have z := up e2
      have e1 : σ[i]? = some (some (.ref b)) := e1
      rw [e1] at z
      cases z
      exact .inr ⟨i, d, h, e2⟩
  refine ⟨⟨⟨s.sub, by show m.env.length = σ.length; rw [s.len, e, wipe_length], fun i d h => ?_, fun i d h => ?_, fun i j d d' b h1 h2 e1 e2 => ?_, s.gl, s.gh, s.gnd⟩, ⟨a.st.gg, a.st.fr, a.st.gn, fun b h => a.st.on b (ow b h), a.st.al, a.st.gp⟩⟩, ow⟩
  · obtain ⟨v, e1, e2⟩ := s.val i d h
    exact ⟨v, up e1, e2⟩
  · obtain ⟨b, o, e1, e2⟩ := s.own i d h
    exact ⟨b, o, up e1, e2⟩
  · obtain ⟨c1, o1, f1, _⟩ := s.own i d h1
    obtain ⟨c2, o2, f2, _⟩ := s.own j d' h2
    have z1 := up f1
    have z2 := up f2
    have e1 : σ[i]? = some (some (.ref b)) := e1
    have e2 : σ[j]? = some (some (.ref b)) := e2
    rw [e1] at z1
    rw [e2] at z2
    cases z1; cases z2
    exact s.inj i j d d' _ h1 h2 f1 f2
theorem wipe_only {σ σ' : L2.St} {is vs : List Nat} (h : OnlyAt is (wipe σ vs) σ') (hs : ∀ i ∈ is, i ∈ vs) : wipe σ' vs = wipe σ vs := by
  have hl : σ'.length = σ.length := by rw [h.1, wipe_length]
  apply List.ext_getElem?
  intro j
  by_cases hj : j ∈ vs
  · by_cases hlt : j < σ.length
    · rw [wipe_at hj (by rw [hl]; exact hlt), wipe_at hj hlt]
    · rw [List.getElem?_eq_none (by rw [wipe_length, hl]; omega), List.getElem?_eq_none (by rw [wipe_length]; omega)]
  · rw [wipe_get hj, h.2 j fun z => hj (hs j z)]
end

def lcR (g : FG) (ft : FT) (fe : FE) (vs : List Nat) (lk : M → Prop) (Q : List D → M → Prop) : List D → List D → M → Prop
  | [], acc, m => lk m ∧ Q acc m
  | d :: ds, acc, m => lk m ∧ g m d fun m1 => ft m1 (fun c m2 => iteP c (fe m2 (fun r m3 => bindO (keep m3 r) fun p => acc.length < sizeLine ∧ lcR g ft fe vs lk Q ds (acc ++ [p.1]) (wipeM p.2 vs)) (fun _ _ => False))
      (lcR g ft fe vs lk Q ds acc (wipeM m2 vs))) (fun _ _ => False)
theorem lcR_nil {g : FG} {ft : FT} {fe : FE} {vs : List Nat} {lk : M → Prop} {Q : List D → M → Prop} {acc : List D} {m : M} : lcR g ft fe vs lk Q [] acc m = (lk m ∧ Q acc m) := rfl
theorem lcR_cons {g : FG} {ft : FT} {fe : FE} {vs : List Nat} {lk : M → Prop} {Q : List D → M → Prop} {d : D} {ds acc : List D} {m : M} : lcR g ft fe vs lk Q (d :: ds) acc m = (lk m ∧ g m d fun m1 => ft m1 (fun c m2 => iteP c (fe m2 (fun r m3 => bindO (keep m3 r) fun p => acc.length < sizeLine ∧ lcR g ft fe vs lk Q ds (acc ++ [p.1]) (wipeM p.2 vs)) (fun _ _ => False))
      (lcR g ft fe vs lk Q ds acc (wipeM m2 vs))) (fun _ _ => False)) := rfl
theorem lcR_lk {g : FG} {ft : FT} {fe : FE} {vs : List Nat} {lk : M → Prop} {Q : List D → M → Prop} {ds acc : List D} {m : M} (h : lcR g ft fe vs lk Q ds acc m) : lk m := by
  cases ds with
  | nil => rw [lcR_nil] at h; exact h.1
  | cons d ds => rw [lcR_cons] at h; exact h.1
@[irreducible] def lcQ (g : FG) (ft : FT) (fe : FE) (vs : List Nat) (lk : M → Prop) (Q : List D → M → Prop) (ds acc : List D) (m : M) : Prop := lcR g ft fe vs lk Q ds acc m
theorem lcQ_eq {g : FG} {ft : FT} {fe : FE} {vs : List Nat} {lk : M → Prop} {Q : List D → M → Prop} {ds acc : List D} {m : M} : lcQ g ft fe vs lk Q ds acc m = lcR g ft fe vs lk Q ds acc m := by rw [lcQ]
def fLc (fi : FI) (g : FG) (ft : FT) (fe : FE) (vs : List Nat) : FE := fun m Q Qx => fi m (fun ds lk m1 => lcQ g ft fe vs lk (fun acc m' => Q (.tmp (.lst acc)) m') ds [] (wipeM m1 vs)) Qx
abbrev WN : WX := fun _ _ _ _ => False
section
variable {X : Cx} {W : WX}
theorem lc_core' {ti : TI} {fi : FI} {g : FG} {ft : FT} {fe : FE} {is vs : List Nat} (his : ∀ i ∈ is, i ∈ vs)
    (si : ∀ (w : Wd) (m : M) (Q : List D → (M → Prop) → M → Prop) (Qx : PX) (R : It → Hp → Prop), SOk X.K w m → fi m Q Qx → (∀ ds lk m' w' J, w'.σ = w.σ → Aft X.K w m w' m' → ItOk X.K w' m' J ds lk → Q ds lk m' → R J w'.H) → ExOk X.K W w m Qx → ti w.σ w.H R)
    {w : Wd} {m : M} {Q : Ret → M → Prop} {Qx : PX} {Q' : VK} (s : SOk X.K w m) (h : fLc fi g ft fe vs m Q Qx) (k : ∀ r m' w' v, w'.σ = w.σ → Aft X.K w m w' m' → RetOk X.K w.H w' m' v r → Q r m' → Q' v w'.H) (kx : ExOk X.K W w m Qx) :
    tLc ti (canG X.K is g) (canT X.K WN ft) (canE X.K WN fe) vs w.σ w.H Q' := by
  refine si w m _ Qx _ s h (fun ds lk m1 w1 J e1 a1 J1 q => ?_) kx
  rw [lcQ_eq] at q
  intro D hD
  have hD0 : w.H D = none := a1.st.back hD
  refine ⟨fun i n H => n = ds.length - i ∧ i ≤ ds.length ∧ ∃ w2 m2 acc, w2.σ = wipe w.σ vs ∧ w2.H = H ∧ Aft X.K w1 m1 w2 m2 ∧ RetOk X.K w1.H w2 m2 (.ref D) (.tmp (.lst acc)) ∧ lcR g ft fe vs lk (fun acc m' => Q (.tmp (.lst acc)) m') (ds.drop i) acc m2, ⟨_, rfl, Nat.zero_le _, (w1.put D (.lst [])).wip vs, wipeM m1 vs, [], ?_, rfl, ?_, ?_, q⟩, ?_⟩
  · show wipe w1.σ vs = _
    rw [e1]
  · obtain ⟨s2, st2⟩ := a1.ok.put (o := .lst []) hD
    exact Aft.wip ⟨s2, st2⟩ vs
  · obtain ⟨s2, st2⟩ := a1.ok.put (o := .lst []) hD
    obtain ⟨p, o, ep, f1, f2, f3, f4, f5⟩ := a1.ok.putRet (o := .lst []) (d := .lst []) hD (.lst .nil)
    exact ⟨p, o, ep, f1, f2, fun z => f3 ((s2.wip vs).2 p z), f4, f5⟩
  · rintro i n _ ⟨rfl, hi, w2, m2, acc, e2, rfl, a2, t2, q2⟩
    by_cases hlt : i < ds.length
    · refine .inr ⟨J1.go i w2 m2 a2 (lcR_lk q2) hlt, fun H' => ∃ w3 m3 acc', w3.σ = wipe w.σ vs ∧ w3.H = H' ∧ Aft X.K w1 m1 w3 m3 ∧ RetOk X.K w1.H w3 m3 (.ref D) (.tmp (.lst acc')) ∧ lcR g ft fe vs lk (fun acc m' => Q (.tmp (.lst acc)) m') (ds.drop (i + 1)) acc' m3,
        fun H' ⟨w3, m3, acc', z⟩ => ⟨ds.length - (i + 1), by omega, rfl, hlt, w3, m3, acc', z⟩, fun x H' y => ?_⟩
      obtain ⟨w3, e3, eH, a3, r3⟩ := J1.yld i w2 m2 ds[i] x H' a2 (lcR_lk q2) (List.getElem?_eq_getElem hlt) y
      rw [List.drop_eq_getElem_cons hlt, lcR_cons] at q2
      have t3 := tmp_step t2 a3.st
      have e32 := e3.trans e2
      refine ⟨w3, m2, ds[i], _, e32, eH, a3.ok, r3, q2.2, fun m4 w4 a4 o4 q4 => ?_⟩
      have hw4 : wipe w4.σ vs = wipe w.σ vs := wipe_only (by rw [← e32]; exact o4) his
      refine ⟨hw4, w4, m4, _, _, rfl, rfl, a4.ok, q4, fun c m5 w5 e5 a5 q5 => ?_, fun _ _ _ _ _ _ _ z => z.elim⟩
      have t4 := tmp_step t3 a4.st
      have t5 := tmp_step t4 a5.st
      have a25 := ((a2.trans a3).trans a4).trans a5
      cases c with
      | false =>
        have q5 := q5.2 rfl
        refine L2.iteF ?_
        obtain ⟨p, o, ep, f1, f2, f3, f4, f5⟩ := t5
        refine ⟨w5.wip vs, wipeM m5 vs, acc, ?_, rfl, a25.wip vs, ⟨p, o, ep, f1, f2, fun z => f3 ((a5.ok.wip vs).2 p z), f4, f5⟩, q5⟩
        show wipe w5.σ vs = _
        rw [e5]; exact hw4
      | true =>
        have q5 := q5.1 rfl
        refine L2.iteT ?_
        refine ⟨w5, m5, _, _, e5, rfl, a5.ok, q5, fun r m6 w6 v e6 a6 r6 q6 => ?_, fun _ _ _ _ _ _ _ z => z.elim⟩
        obtain ⟨⟨d, m7⟩, hk, hz, q7⟩ := bindO_elim q6
        obtain ⟨w7, e7, eH7, a7, r7⟩ := keep_ok a6 r6 hk
        obtain ⟨p, o, ep, f1, f2, f3, f4, f5⟩ := tmp_step t5 a7.st
        cases ep
        cases f5 with
        | lst rr =>
          rename_i accV
          refine ⟨accV, by rw [← eH7]; exact f4, by rw [rr.length]; exact hz, ?_⟩
          have a27 := a25.trans a7
          have a8 := (a27.writeTmp (o := .lst (accV ++ [v])) f1 f2 f3).wip vs
          refine ⟨(w7.put D (.lst (accV ++ [v]))).wip vs, wipeM m7 vs, acc ++ [d], ?_, ?_, a8, ⟨D, _, rfl, f1, f2, fun z => ?_, upd_same, .lst (rr.append (.cons r7 .nil))⟩, q7⟩
          · show wipe w7.σ vs = _
            rw [e7, e6, e5]; exact hw4
          · show upd w7.H D _ = _
            rw [eH7]
          · exact f3 (((a27.writeTmp (o := .lst (accV ++ [v])) f1 f2 f3).ok.wip vs).2 D z)
    · have e : i = ds.length := by omega
      subst e
      refine .inl ⟨J1.stop w2 m2 a2 (lcR_lk q2), ?_⟩
      rw [List.drop_length, lcR_nil] at q2
      obtain ⟨a9, ow⟩ := (a1.trans a2).unwip e2
      obtain ⟨p, o, ep, f1, f2, f3, f4, f5⟩ := t2
      cases ep
      exact k (.tmp (.lst acc)) m2 ⟨w2.G, w2.H, w2.γ, w.σ⟩ (.ref D) rfl a9 ⟨D, o, rfl, hD0, f2, fun z => f3 (ow D z), f4, f5⟩ q2.2
theorem ve_lc {elt tg iter : Expr} {ifs : List Expr} {scope : Scope} {own : List (Str × Nat)} {pos : Pos} {fi : FI} {g : FG} {ft : FT} {fe : FE} {is : List Nat} (hc : X.calm = true) (hN : X.N.Nodup) (hi : VI X W tg iter fi) (ok : BlkOk X.N X.env.scope scope own)
    (hg : ∀ (s : Shared) (H : Hp) (C : Addr) (cl : List (Str × Addr)) (fp : List Addr), VG (X.blk s H scope (compEnvC scope cl C X.env) fp) is tg g)
    (ht : ∀ (s : Shared) (H : Hp) (C : Addr) (cl : List (Str × Addr)) (fp : List Addr), VTs (X.blk s H scope (compEnvC scope cl C X.env) fp) WN ifs ft)
    (he : ∀ (s : Shared) (H : Hp) (C : Addr) (cl : List (Str × Addr)) (fp : List Addr), VE (X.blk s H scope (compEnvC scope cl C X.env) fp) WN elt fe) (his : ∀ i ∈ is, i ∈ own.map (·.2) := by decide) (hs : ∀ x, foldedSetIterable iter X.env x = pure x := by intro _; rfl) :
    VE X W (.ListComp elt [⟨tg, iter, ifs, 0⟩] scope pos) (fLc fi g ft fe (own.map (·.2))) := by
  obtain ⟨ti, pi, si⟩ := hi.ex
  exact ⟨⟨_, pe_lc (g := canG X.K is g) (tt := canT X.K WN ft) (te := canE X.K WN fe) hc hN pi ok (fun s H C cl fp => (hg s H C cl fp).can) (fun s H C cl fp => (ht s H C cl fp).run) (fun s H C cl fp => (he s H C cl fp).can) hs, fun w m Q Qx Q' s h k kx => lc_core' his si s h k kx⟩⟩
theorem vs_setLc (i : Nat) {y : Str} {py : Pos} {elt tg iter : Expr} {ifs : List Expr} {scope : Scope} {own : List (Str × Nat)} {pos spos : Pos} {fi : FI} {g : FG} {ft : FT} {fe : FE} {is : List Nat} (hc : X.calm = true) (hN : X.N.Nodup) (hi : VI X W tg iter fi) (ok : BlkOk X.N X.env.scope scope own)
    (hg : ∀ (s : Shared) (H : Hp) (C : Addr) (cl : List (Str × Addr)) (fp : List Addr), VG (X.blk s H scope (compEnvC scope cl C X.env) fp) is tg g)
    (ht : ∀ (s : Shared) (H : Hp) (C : Addr) (cl : List (Str × Addr)) (fp : List Addr), VTs (X.blk s H scope (compEnvC scope cl C X.env) fp) WN ifs ft)
    (he : ∀ (s : Shared) (H : Hp) (C : Addr) (cl : List (Str × Addr)) (fp : List Addr), VE (X.blk s H scope (compEnvC scope cl C X.env) fp) WN elt fe) (his : ∀ i ∈ is, i ∈ own.map (·.2) := by decide)
    (hsw : swapsWith (.ListComp elt [⟨tg, iter, ifs, 0⟩] scope pos) (some (.Name y py)) spos.line X.env = pure true := by exact sw_true rfl rfl rfl (by decide +kernel))
    (hy : X.N[i]? = some y := by rfl) (hyl : X.env.scope.names.lookup y = some .local := by rfl) (hs : ∀ x, foldedSetIterable iter X.env x = pure x := by intro _; rfl) :
    VS X W (.Assign [.Name y py] (.ListComp elt [⟨tg, iter, ifs, 0⟩] scope pos) spos) (sAsg i (fLc fi g ft fe (own.map (·.2)))) := by
  obtain ⟨ti, pi, si⟩ := hi.ex
  refine ⟨⟨_, ps_setLc (g := canG X.K is g) (tt := canT X.K WN ft) (te := canE X.K WN fe) hc hN hy hyl hsw pi ok (fun s H C cl fp => (hg s H C cl fp).can) (fun s H C cl fp => (ht s H C cl fp).run) (fun s H C cl fp => (he s H C cl fp).can) hs, fun w m E D s h k => ?_⟩⟩
  refine lc_core' (Q' := fun x H1 => gName i x w.σ H1 D.nx) his si s h (fun r m1 w1 v e1 a1 r1 q => ?_) k.exOk
  obtain ⟨m2, h2, q1, q2⟩ := bindO_elim q
  have hl : i < w1.σ.length := by rw [← a1.ok.len, ← sto_env h2]; exact q1
  obtain ⟨w2, e2, eH, a2⟩ := sto_ok a1 r1 hl h2
  show D.nx (w.σ.set i (some v)) w1.H
  rw [← e1, ← e2, ← eH]
  exact k.nx m2 w2 a2 q2
end
end VL

/-! The value layer: short names; loops by words. -/
namespace VL
open PySem PySem.Spec PyProof.Rows L2
section
variable {K : PySem.W.Frag}
theorem divV : OpV K (rI CDiv fun i j => .int (i / j)) gDiv := intV
theorem modV : OpV K (rI (fun _ j => 0 < j) fun i j => .int (i % j)) gMod := intV
theorem powV : OpV K (rI CPow fun i j => .int (i ^ j.toNat)) gPow := intV
theorem ltV : OpV K (rI0 fun i j => .bl (decide (i < j))) gLt := cmpV
theorem leV : OpV K (rI0 fun i j => .bl (decide (i ≤ j))) gLe := cmpV
theorem gtV : OpV K (rI0 fun i j => .bl (decide (j < i))) gGt := cmpV
theorem geV : OpV K (rI0 fun i j => .bl (decide (j ≤ i))) gGe := cmpV
def gNeg : G1 := fun d k => match d with
  | .int i => k (.fz (.int (-i)))
  | _ => False
theorem negV : UnV K (rU fun i => .int (-i)) gNeg := by
  intro w m v d k Q' s hv h q
  unfold gNeg at h
  split at h
  · cases hv
    exact ⟨_, rfl, outFz s q (.int _) h⟩
  · exact h.elim
end

/-! ### plain facts for evaluating readings -/

/-! ### loops by a word -/
theorem forR_ind {g : FG} {fb : FS} {E : EndsV} {lk : M → Prop} (I : List D → M → Prop) (hnil : ∀ m, I [] m → lk m ∧ E.nx m)
    (hcons : ∀ d ds m, I (d :: ds) m → lk m ∧ ∀ k : M → Prop, (∀ m', I ds m' → k m') → g m d fun m1 => fb (E.wl k) m1) : ∀ ds m, I ds m → forQ g fb E lk ds m := by
  have H : ∀ ds m, I ds m → forR g fb E lk ds m := by
    intro ds
    induction ds with
    | nil => intro m h; rw [forR_nil]; exact hnil m h
    | cons d ds ih => intro m h; rw [forR_cons]; exact ⟨(hcons d ds m h).1, (hcons d ds m h).2 _ ih⟩
  intro ds m h
  rw [forQ_eq]
  exact H ds m h
/-- over items of one kind -/
theorem forR_map {α : Type} (f : α → D) {g : FG} {fb : FS} {E : EndsV} {lk : M → Prop} (I : List α → M → Prop) (hnil : ∀ m, I [] m → lk m ∧ E.nx m)
    (hcons : ∀ x xs m, I (x :: xs) m → lk m ∧ ∀ k : M → Prop, (∀ m', I xs m' → k m') → g m (f x) fun m1 => fb (E.wl k) m1) : ∀ xs m, I xs m → forQ g fb E lk (xs.map f) m := by
  have H : ∀ xs m, I xs m → forR g fb E lk (xs.map f) m := by
    intro xs
    induction xs with
    | nil => intro m h; rw [List.map_nil, forR_nil]; exact hnil m h
    | cons x xs ih => intro m h; rw [List.map_cons, forR_cons]; exact ⟨(hcons x xs m h).1, (hcons x xs m h).2 _ ih⟩
  intro xs m h
  rw [forQ_eq]
  exact H xs m h
/-- over a range -/
theorem forR_range {lo : Int} {n : Nat} {g : FG} {fb : FS} {E : EndsV} {lk : M → Prop} (I : Nat → M → Prop) (hnil : ∀ m, I n m → lk m ∧ E.nx m)
    (hcons : ∀ i m, i < n → I i m → lk m ∧ ∀ k : M → Prop, (∀ m', I (i + 1) m' → k m') → g m (.int (lo + i)) fun m1 => fb (E.wl k) m1) {m : M} (h0 : I 0 m) : forQ g fb E lk (rangeD lo n) m := by
  rw [forQ_eq]
  have h : ∀ (j i : Nat) m, i + j = n → I i m → forR g fb E lk ((List.range' i j).map fun (i : Nat) => .int (lo + i)) m := by
    intro j
    induction j with
    | zero => intro i m e hi; rw [Nat.add_zero] at e; subst e; rw [List.range'_zero, List.map_nil, forR_nil]; exact hnil m hi
    | succ j ih =>
      intro i m e hi
      rw [List.range'_succ, List.map_cons, forR_cons]
      obtain ⟨h1, h2⟩ := hcons i m (by omega) hi
      exact ⟨h1, h2 _ fun m' h' => ih (i + 1) m' (by omega) h'⟩
  unfold rangeD
  rw [List.range_eq_range']
  exact h n 0 m (by omega) h0
theorem while_ind {ft : FT} {fb : FS} {E : EndsV} (I : Nat → M → Prop) (h : ∀ n m, I n m → ft m (fun c m1 => iteP c (fb (E.wl fun m' => ∃ n', n' < n ∧ I n' m') m1) (E.nx m1)) E.ex)
    {m : M} {n : Nat} (h0 : I n m) : sWhile ft fb E m := by rw [sWhile]; exact ⟨I, ⟨n, h0⟩, h⟩
theorem lcR_map {α β : Type} (f : α → D) (r : β → D) {g : FG} {ft : FT} {fe : FE} {vs : List Nat} {lk : M → Prop} {Q : List D → M → Prop} (I : List α → List β → M → Prop) (hnil : ∀ acc m, I [] acc m → lk m ∧ Q (acc.map r) m)
    (hcons : ∀ x xs acc m, I (x :: xs) acc m → lk m ∧ ∀ k : List D → M → Prop, (∀ acc' m', I xs acc' m' → k (acc'.map r) m') → g m (f x) fun m1 => ft m1 (fun c m2 => iteP c (fe m2 (fun rr m3 => bindO (keep m3 rr) fun p => acc.length < sizeLine ∧ k (acc.map r ++ [p.1]) (wipeM p.2 vs)) (fun _ _ => False)) (k (acc.map r) (wipeM m2 vs))) (fun _ _ => False)) :
    ∀ xs acc m, I xs acc m → lcQ g ft fe vs lk Q (xs.map f) (acc.map r) m := by
  have H : ∀ xs acc m, I xs acc m → lcR g ft fe vs lk Q (xs.map f) (acc.map r) m := by
    intro xs
    induction xs with
    | nil => intro acc m h; rw [List.map_nil, lcR_nil]; exact hnil acc m h
    | cons x xs ih =>
      intro acc m h
      obtain ⟨h1, h2⟩ := hcons x xs acc m h
      rw [List.map_cons, lcR_cons]
      refine ⟨h1, ?_⟩
      simp only [List.length_map]
      exact h2 (fun acc' m' => lcR g ft fe vs lk Q (xs.map f) acc' m') ih
  intro xs acc m h
  rw [lcQ_eq]
  exact H xs acc m h
/-- over a range -/
theorem lcR_range {β : Type} (r : β → D) {lo : Int} {n : Nat} {g : FG} {ft : FT} {fe : FE} {vs : List Nat} {lk : M → Prop} {Q : List D → M → Prop} (I : Nat → List β → M → Prop) (hnil : ∀ acc m, I n acc m → lk m ∧ Q (acc.map r) m)
    (hcons : ∀ i acc m, i < n → I i acc m → lk m ∧ ∀ k : List D → M → Prop, (∀ acc' m', I (i + 1) acc' m' → k (acc'.map r) m') → g m (.int (lo + i)) fun m1 => ft m1 (fun c m2 => iteP c (fe m2 (fun rr m3 => bindO (keep m3 rr) fun p => acc.length < sizeLine ∧ k (acc.map r ++ [p.1]) (wipeM p.2 vs)) (fun _ _ => False)) (k (acc.map r) (wipeM m2 vs))) (fun _ _ => False))
    {m : M} {acc : List β} (h0 : I 0 acc m) : lcQ g ft fe vs lk Q (rangeD lo n) (acc.map r) m := by
  have H : ∀ (j i : Nat) acc m, i + j = n → I i acc m → lcR g ft fe vs lk Q ((List.range' i j).map fun (i : Nat) => .int (lo + i)) (acc.map r) m := by
    intro j
    induction j with
    | zero => intro i acc m e hi; rw [Nat.add_zero] at e; subst e; rw [List.range'_zero, List.map_nil, lcR_nil]; exact hnil acc m hi
    | succ j ih =>
      intro i acc m e hi
      rw [List.range'_succ, List.map_cons, lcR_cons]
      obtain ⟨h1, h2⟩ := hcons i acc m (by omega) hi
      refine ⟨h1, ?_⟩
      simp only [List.length_map]
      exact h2 (fun acc' m' => lcR g ft fe vs lk Q ((List.range' (i + 1) j).map fun (i : Nat) => .int (lo + i)) acc' m') fun acc' m' h' => ih (i + 1) acc' m' (by omega) h'
  rw [lcQ_eq]
  unfold rangeD
  rw [List.range_eq_range']
  exact H n 0 acc m (by omega) h0
/-- the end of a body that leaves the shared containers as they are -/
theorem fin0 {gs : List D} {r : Ret} {Q : Ret → List D → Prop} {m : M} (e : m.gs = gs) (h : Q r gs) : Clean gs.length m r ∧ Q r (m.gs.take gs.length) := by
  subst e
  exact ⟨.inl rfl, by rw [List.take_length]; exact h⟩

/-! ### isinstance with a built-in class -/
inductive TyK where
  | int | bool | str | list | tuple | dict
def TyK.name : TyK → String
  | .int => "int"
  | .bool => "bool"
  | .str => "str"
  | .list => "list"
  | .tuple => "tuple"
  | .dict => "dict"
def isTy : TyK → D → Option Bool
  | .int, .int _ => some true
  | .int, .bl _ => some true
  | .bool, .bl _ => some true
  | .str, .str _ => some true
  | .tuple, .tup _ => some true
  | .list, .lst _ => some true
  | .dict, .dK _ => some true
  | .dict, .dT _ => some true
  | _, .raw _ => none
  | _, .gh _ => none
  | _, .kt _ => none
  | _, .kl _ => none
  | _, _ => some false
theorem isTy_ok : ∀ (k : TyK) (d : D) (b : Bool), isTy k d = some b → ∃ t, tyName d = some t ∧ kitB t k.name = some b := by
  intro k d b h
  cases k <;> cases d <;> simp only [isTy, reduceCtorEq, Option.some.injEq] at h <;> subst h <;> exact ⟨_, rfl, by decide +kernel⟩
def gIsiT (k : TyK) : G1 := fun d kk => bindO (isTy k d) fun b => kk (.fz (.bl b))
theorem ve_isi {X : Cx} {W : WX} {a : Expr} {fa : FE} {p p2 pos : Pos} (k : TyK) {y : Str} (hg : Gl X "isinstance") (hm : X.mg "isinstance" = none) (hgy : Gl X y) (hmy : X.mg y = none) (hb : bootBuiltins y = some (.type k.name)) (ha : VE X W a fa)
    (hbi : bootBuiltins "isinstance" = some (.builtin "isinstance") := by decide +kernel) (hn : y ≠ "__name__" := by decide) (hd : (y == ("__debug__" : Str)) = false := by decide)
    (he : starEach (a :: .Name y p2 :: []) X.env = (false, eval a X.env) :: starEach (.Name y p2 :: []) X.env := by rfl) (he2 : starEach (.Name y p2 :: []) X.env = (false, eval (.Name y p2) X.env) :: starEach [] X.env := by rfl)
    (hpl : (backTo pos (starEach [.Name y p2] X.env)).any (·.1) = false := by rfl) : VE X W (.Call (.Name "isinstance" p) [a, .Name y p2] [] pos) (fUn (gIsiT k) fa) := by
  obtain ⟨ta, pa, sa⟩ := ha.ex
  refine ⟨⟨_, pe_callB call_isi hg hm hbi (pa_cons pa (pa_cons (pe_bltn (v := .ty k.name) hgy hmy hb rfl hn hd) pa_nil he2) he) (by decide) (by decide) he hpl, fun w m Q Qx Q' s h kk kx => ?_⟩⟩
  refine sa w m _ Qx _ s h (fun r m' w' v e a1 r1 q => ?_) kx
  obtain ⟨d, hd, q⟩ := bindO_elim q
  obtain ⟨b, hb, q⟩ := bindO_elim q
  obtain ⟨t, ht, hk⟩ := isTy_ok k d b hb
  refine isiV w' m' v (.ty k.name) d (.raw (.ty k.name)) (fun r => Q r m') Q' a1.ok (a1.ok.view r1 hd) rfl ?_ fun r w3 v' e3 a3 r3 k3 => ?_
  · show bindO (tyName d) fun t => bindO (kitB t k.name) fun b => Q (.fz (.bl b)) m'
    rw [ht, bindO_some, hk, bindO_some]
    exact q
  · exact kk r m' w3 v' (e3.trans e) (a1.trans a3) (r3.from fun _ z => a1.st.back z) k3

/-! ### data with a Lean type -/
class Emb (α : Type) [DecidableEq α] [PySem.W.Datum α] where
  d : α → D
  ok : ∀ a, toPy (d a) = some (PySem.W.Datum.toD a)
theorem toPyL_map {α : Type} {f : α → D} {g : α → PyData} (h : ∀ a, toPy (f a) = some (g a)) : ∀ xs : List α, toPyL (xs.map f) = some (xs.map g)
  | [] => by simp [toPyL]
  | x :: xs => by simp [toPyL, h x, toPyL_map h xs]
instance : Emb Int := ⟨.int, fun _ => by simp [toPy, PySem.W.Datum.toD]⟩
instance : Emb Str := ⟨.str, fun _ => by simp [toPy, PySem.W.Datum.toD]⟩
instance : Emb Bool := ⟨.bl, fun _ => by simp [toPy, PySem.W.Datum.toD]⟩
section
variable {α β : Type} [DecidableEq α] [PySem.W.Datum α] [Emb α] [DecidableEq β] [PySem.W.Datum β] [Emb β]
instance : Emb (α × β) := ⟨fun p => .tup [Emb.d p.1, Emb.d p.2], fun p => by simp [toPy, toPyL, Emb.ok, PySem.W.Datum.toD]⟩
instance : Emb (List α) := ⟨fun xs => .lst (xs.map Emb.d), fun xs => by simp [toPy, toPyL_map Emb.ok, PySem.W.Datum.toD]⟩
instance : Emb (PySem.W.Tup α) := ⟨fun t => .tup (t.items.map Emb.d), fun t => by simp [toPy, toPyL_map Emb.ok, PySem.W.Datum.toD]⟩
/-- == of two values of one type -/
theorem eqO_emb {d e : D} (x y : α) (hd : toPy d = some (PySem.W.Datum.toD x)) (he : toPy e = some (PySem.W.Datum.toD y)) (h64 : PySem.W.Datum.depth α ≤ 64) : eqO d e = some (decide (x = y)) := by
  rw [eqO_of hd he (by have := PySem.W.Datum.depth_le x; omega), PySem.W.Datum.eqv]
theorem eqO_e (x y : α) (h64 : PySem.W.Datum.depth α ≤ 64) : eqO (Emb.d x) (Emb.d y) = some (decide (x = y)) := eqO_emb x y (Emb.ok x) (Emb.ok y) h64
theorem depthAll_le : ∀ (xs : List α), PyData.depthAll (xs.map PySem.W.Datum.toD) ≤ PySem.W.Datum.depth α
  | [] => by simp [PyData.depthAll]
  | x :: xs => by
    have h1 := depthAll_le xs
    have h2 := PySem.W.Datum.depth_le x
    simp only [List.map_cons, PyData.depthAll]
    omega
theorem inO_e (xs : List α) (x : α) (h63 : PySem.W.Datum.depth α ≤ 63) : inO (xs.map Emb.d) (Emb.d x) = some (decide (x ∈ xs)) := by
  rw [inO_of (toPyL_map Emb.ok xs) (Emb.ok x) (by have := PySem.W.Datum.depth_le x; omega)]
  congr 1
  induction xs with
  | nil => rfl
  | cons y ys ih =>
    rw [List.map_cons, List.any_cons, ih, PySem.W.Datum.eqv]
    by_cases h : y = x
    · subst h; simp
    · have : x ≠ y := fun z => h z.symm
      simp [h, this]
end
theorem eqO_refl {d : D} {p : PyData} (hd : toPy d = some p) (hp : p.plain = true) (h64 : p.depth ≤ 64) : eqO d d = some true := by
  rw [eqO_of hd hd (by omega), PySem.SeqAt.eqv_refl_plain p hp]

/-- plain data, at most n deep -/
def Pl (d : D) (n : Nat) : Prop := ∃ p, toPy d = some p ∧ p.plain = true ∧ p.depth ≤ n
def PlL (ds : List D) (n : Nat) : Prop := ∃ ps, toPyL ds = some ps ∧ PyData.plainAll ps = true ∧ PyData.depthAll ps ≤ n
theorem Pl.refl {d : D} (h : Pl d 64) : eqO d d = some true := by
  obtain ⟨p, h1, h2, h3⟩ := h
  exact eqO_refl h1 h2 h3
theorem Pl.emb {α : Type} [DecidableEq α] [PySem.W.Datum α] [Emb α] (x : α) : Pl (Emb.d x) (PySem.W.Datum.depth α) := ⟨_, Emb.ok x, PySem.W.Datum.plain x, PySem.W.Datum.depth_le x⟩
theorem Pl.mono {d : D} {n m : Nat} (h : Pl d n) (l : n ≤ m) : Pl d m := by obtain ⟨p, h1, h2, h3⟩ := h; exact ⟨p, h1, h2, by omega⟩
theorem PlL.nil {n : Nat} : PlL [] n := ⟨[], by simp [toPyL], by simp [PyData.plainAll], by simp [PyData.depthAll]⟩
theorem PlL.cons {d : D} {ds : List D} {n : Nat} (h : Pl d n) (r : PlL ds n) : PlL (d :: ds) n := by
  obtain ⟨p, h1, h2, h3⟩ := h
  obtain ⟨ps, r1, r2, r3⟩ := r
  exact ⟨p :: ps, by simp [toPyL, h1, r1], by simp [PyData.plainAll, h2, r2], by simp only [PyData.depthAll]; omega⟩
theorem PlL.map {α : Type} {f : α → D} {n : Nat} (h : ∀ x, Pl (f x) n) : ∀ xs : List α, PlL (xs.map f) n
  | [] => .nil
  | x :: xs => .cons (h x) (PlL.map h xs)
theorem Pl.lst {ds : List D} {n : Nat} (r : PlL ds n) : Pl (.lst ds) (n + 1) := by
  obtain ⟨ps, r1, r2, r3⟩ := r
  exact ⟨.list ps, by simp [toPy, r1], by simpa [PyData.plain] using r2, by simp only [PyData.depth]; omega⟩
theorem Pl.tup {ds : List D} {n : Nat} (r : PlL ds n) : Pl (.tup ds) (n + 1) := by
  obtain ⟨ps, r1, r2, r3⟩ := r
  exact ⟨.tuple ps, by simp [toPy, r1], by simpa [PyData.plain] using r2, by simp only [PyData.depth]; omega⟩
theorem Pl.int (i : Int) {n : Nat} : Pl (.int i) n := ⟨_, rfl, rfl, by rw [dep_int]; omega⟩
theorem Pl.str (i : Str) {n : Nat} : Pl (.str i) n := ⟨_, rfl, rfl, by rw [dep_str]; omega⟩
theorem Pl.bl (i : Bool) {n : Nat} : Pl (.bl i) n := ⟨_, rfl, rfl, by rw [dep_bool]; omega⟩

/-! ### dicts: what they hold -/
section
variable {κ : Type} [DecidableEq κ]
theorem dval_nil (k : κ) : dval ([] : List (κ × D)) k = none := rfl
theorem dval_put (es : List (κ × D)) (k j : κ) (v : D) : dval (dput es k v) j = if j = k then some v else dval es j := by
  unfold dput
  split
  · rename_i h
    induction es with
    | nil => simp at h
    | cons e es ih =>
      obtain ⟨a, b⟩ := e
      by_cases ha : a = k
      · subst ha
        by_cases hj : j = a
        · subst hj; simp [dval]
        · have hj' : ¬ a = j := fun z => hj z.symm
          by_cases hes : (es.any fun kv => decide (kv.1 = a)) = true
          · have := ih hes
            simp only [if_neg hj] at this ⊢
            simpa [dval, List.find?_cons, hj', hj] using this
          · have e0 : es.map (fun kv => if kv.1 = a then (kv.1, v) else kv) = es := by
              conv => rhs; rw [← List.map_id es]
              apply List.map_congr_left
              intro x hx
              have : ¬ x.1 = a := fun z => hes (List.any_eq_true.mpr ⟨x, hx, decide_eq_true z⟩)
              simp [this]
            simp [dval, List.find?_cons, hj', hj, e0]
      · have hes : (es.any fun kv => decide (kv.1 = k)) = true := by simpa [ha] using h
        have := ih hes
        by_cases hj : a = j
        · subst hj; simp [dval, List.find?_cons, ha]
        · simp only [List.map_cons, ha, if_false]
          simpa [dval, List.find?_cons, hj] using this
  · rename_i h
    unfold dval
    rw [List.find?_append]
    by_cases hj : j = k
    · subst hj
      have : es.find? (fun kv => decide (kv.1 = j)) = none := List.find?_eq_none.mpr fun x hx z => h (List.any_eq_true.mpr ⟨x, hx, z⟩)
      simp [this]
    · have hj' : ¬ k = j := fun z => hj z.symm
      cases es.find? (fun kv => decide (kv.1 = j)) <;> simp [hj, hj', List.find?_cons]
theorem dput_len (es : List (κ × D)) (k : κ) (v : D) : (dput es k v).length ≤ es.length + 1 := by
  unfold dput
  split <;> simp
theorem dput_all {P : D → Prop} {es : List (κ × D)} (h : ∀ e ∈ es, P e.2) (k : κ) {v : D} (hv : P v) : ∀ e ∈ dput es k v, P e.2 := by
  unfold dput
  split
  · intro e he
    obtain ⟨x, hx, rfl⟩ := List.mem_map.mp he
    split
    · exact hv
    · exact h x hx
  · intro e he
    rcases List.mem_append.mp he with z | z
    · exact h e z
    · simp at z; rw [z]; exact hv
theorem dval_mem {es : List (κ × D)} {k : κ} {d : D} (h : dval es k = some d) : ∃ e ∈ es, e.1 = k ∧ e.2 = d := by
  unfold dval at h
  cases z : es.find? (fun kv => decide (kv.1 = k)) with
  | none => rw [z] at h; cases h
  | some e =>
    rw [z] at h
    exact ⟨e, List.mem_of_find?_eq_some z, of_decide_eq_true (List.find?_some (p := fun kv : κ × D => decide (kv.1 = k)) z), Option.some.inj h⟩
end
theorem dmerge_len : ∀ (more es : List (Key × D)), (dmerge es more).length ≤ es.length + more.length
  | [], es => by simp [dmerge]
  | p :: r, es => by
    have h1 := dmerge_len r (dput es p.1 p.2)
    have h2 := dput_len es p.1 p.2
    show (dmerge (dput es p.1 p.2) r).length ≤ _
    rw [List.length_cons]; omega
theorem dmerge_all {P : D → Prop} : ∀ (more es : List (Key × D)), (∀ e ∈ es, P e.2) → (∀ e ∈ more, P e.2) → ∀ e ∈ dmerge es more, P e.2
  | [], es, h, _ => h
  | p :: r, es, h, h2 => dmerge_all r (dput es p.1 p.2) (dput_all h p.1 (h2 p List.mem_cons_self)) fun e he => h2 e (List.mem_cons_of_mem _ he)
theorem dmerge_some : ∀ (more es : List (Key × D)) (k : Key), (dval (dmerge es more) k).isSome = true ↔ k ∈ more.map (fun p : Key × D => p.1) ∨ (dval es k).isSome = true
  | [], es, k => by simp [dmerge]
  | p :: r, es, k => by
    have h := dmerge_some r (dput es p.1 p.2) k
    rw [dval_put] at h
    show (dval (dmerge (dput es p.1 p.2) r) k).isSome = true ↔ _
    rw [h]
    by_cases e : k = p.1
    · simp [e]
    · simp [e]
theorem toPairs_map (es : List (Str × D)) : toPairs (es.map fun p => .tup [.str p.1, p.2]) = some (es.map fun p => (.inr p.1, p.2)) := by
  induction es with
  | nil => rfl
  | cons e es ih => simp [toPairs, keyOf, ih]
theorem and_split {c1 c2 : Bool} {X Y : Prop} (hx : c1 = true → c2 = true → X) (hy : (c1 && c2) = false → Y) : (c1 = true → (c2 = true → X) ∧ (c2 = false → Y)) ∧ (c1 = false → Y) := by
  cases c1 <;> cases c2 <;> simp_all
theorem or_split {c1 c2 : Bool} {X Y : Prop} (hx : (c1 || c2) = true → X) (hy : c1 = false → c2 = false → Y) : (c1 = true → X) ∧ (c1 = false → (c2 = true → X) ∧ (c2 = false → Y)) := by
  cases c1 <;> cases c2 <;> simp_all
theorem yes_of {c : Bool} {X Y : Prop} (h : c = true) (hx : X) : (c = true → X) ∧ (c = false → Y) := ⟨fun _ => hx, fun e => by rw [h] at e; cases e⟩
theorem no_of {c : Bool} {X Y : Prop} (h : c = false) (hy : Y) : (c = true → X) ∧ (c = false → Y) := ⟨fun e => (by rw [h] at e; cases e), fun _ => hy⟩
theorem len1 (x : Nat) : (⟨#[x]⟩ : Str).length = 1 := rfl
theorem szl : sizeLine = 16777216 := by decide
/-! ### places -/
theorem at_nat {α : Type} {xs : List α} {k : Nat} (h : k < xs.length) : atI xs (k : Int) = some xs[k] := atI_nat (List.getElem?_eq_getElem h)
theorem at_ex {α : Type} {xs : List α} {i : Int} (h0 : 0 ≤ i) (h1 : i < xs.length) : ∃ x ∈ xs, atI xs i = some x := by
  obtain ⟨k, rfl⟩ := Int.eq_ofNat_of_zero_le h0
  have hk : k < xs.length := by omega
  exact ⟨xs[k], List.getElem_mem hk, at_nat hk⟩
theorem at_exm {α β : Type} {f : α → β} {xs : List α} {i : Int} (h0 : 0 ≤ i) (h1 : i < xs.length) : ∃ x ∈ xs, atI (xs.map f) i = some (f x) := by
  obtain ⟨y, hy, h⟩ := at_ex (xs := xs.map f) h0 (by simpa using h1)
  obtain ⟨x, hx, rfl⟩ := List.mem_map.mp hy
  exact ⟨x, hx, h⟩
theorem at_map {α β : Type} {f : α → β} {xs : List α} {k : Nat} {x : α} (h : xs[k]? = some x) : atI (xs.map f) (k : Int) = some (f x) := atI_nat (by rw [List.getElem?_map, h]; rfl)
theorem at_chr {z : Str} {i : Int} (h0 : 0 ≤ i) (h1 : i < z.length) : ∃ c ∈ z.cps.toList, atI z.cps.toList i = some c := at_ex h0 (by simpa [Str.length] using h1)
theorem bindO_at {α : Type} {xs : List α} {i : Int} {k : α → Prop} (h0 : 0 ≤ i) (h1 : i < xs.length) (h : ∀ x ∈ xs, k x) : bindO (atI xs i) k := by
  obtain ⟨x, hx, e⟩ := at_ex h0 h1
  exact bindO_of e (h x hx)
theorem bindO_atm {α β : Type} (f : α → β) {xs : List α} {i : Int} {k : β → Prop} (h0 : 0 ≤ i) (h1 : i < xs.length) (h : ∀ x ∈ xs, k (f x)) : bindO (atI (xs.map f) i) k := by
  obtain ⟨x, hx, e⟩ := at_exm (f := f) h0 h1
  exact bindO_of e (h x hx)
/-- the k-th, known -/
theorem bindO_atk {α β : Type} (f : α → β) {xs : List α} {i : Int} {n : Nat} {x : α} {k : β → Prop} (hi : i = n) (e : xs[n]? = some x) (h : k (f x)) : bindO (atI (xs.map f) i) k := by
  subst hi; exact bindO_of (at_map e) h
theorem at_lastm {α β : Type} (f : α → β) (xs : List α) (x : α) : atI ((xs ++ [x]).map f) (-1) = some (f x) := by
  have e : ixN ((xs ++ [x]).map f).length (-1) = some xs.length := by
    unfold ixN
    have : ((xs ++ [x]).map f).length = xs.length + 1 := by simp
    rw [this, if_neg (by omega), if_pos (by omega)]
    congr 1
    omega
  unfold atI
  rw [e]
  simp
theorem last_map {α β : Type} (f : α → β) (xs : List α) (x : α) : ((xs ++ [x]).map f)[((xs ++ [x]).map f).length - 1]? = some (f x) := by simp
theorem dropLast_map' {α β : Type} (f : α → β) (xs : List α) (x : α) : ((xs ++ [x]).map f).dropLast = xs.map f := by simp
theorem ixN_ok {n : Nat} {i : Int} (h0 : 0 ≤ i) (h1 : i < n) : ∃ j, ixN n i = some j ∧ j < n := ⟨i.toNat, by unfold ixN; rw [if_pos h0, if_pos h1], by omega⟩
theorem strApp_len (x y : Str) : (x ++ y).length = x.length + y.length := by
  have h := TL.len_tl (x ++ y)
  rw [TL.tl_append, List.length_append] at h
  rw [h, TL.len_tl x, TL.len_tl y]
/-! ### loops by what is done already -/
theorem forR_pre {α : Type} (f : α → D) {xs : List α} {dz : List D} {g : FG} {fb : FS} {E : EndsV} {lk : M → Prop} (e : dz = xs.map f) (I : List α → M → Prop) (hnil : ∀ m, I xs m → lk m ∧ E.nx m)
    (hcons : ∀ pre x rest m, xs = pre ++ x :: rest → I pre m → lk m ∧ ∀ k : M → Prop, (∀ m', I (pre ++ [x]) m' → k m') → g m (f x) fun m1 => fb (E.wl k) m1) {m : M} (h0 : I [] m) : forQ g fb E lk dz m := by
  subst e
  refine forR_map f (fun rest m => ∃ pre, xs = pre ++ rest ∧ I pre m) (fun m h => ?_) (fun x rest m h => ?_) xs m ⟨[], rfl, h0⟩
  · obtain ⟨pre, e, h⟩ := h
    rw [List.append_nil] at e; subst e; exact hnil m h
  · obtain ⟨pre, e, h⟩ := h
    have z := hcons pre x rest m e h
    exact ⟨z.1, fun k hk => z.2 k fun m' h' => hk m' ⟨pre ++ [x], by rw [e, List.append_assoc]; rfl, h'⟩⟩
theorem forR_enum {α : Type} (f : α → D) {xs : List α} {dz : List D} {g : FG} {fb : FS} {E : EndsV} {lk : M → Prop} (e : dz = enumD 0 (xs.map f)) (I : List α → M → Prop) (hnil : ∀ m, I xs m → lk m ∧ E.nx m)
    (hcons : ∀ pre x rest m, xs = pre ++ x :: rest → I pre m → lk m ∧ ∀ k : M → Prop, (∀ m', I (pre ++ [x]) m' → k m') → g m (.tup [.int pre.length, f x]) fun m1 => fb (E.wl k) m1) {m : M} (h0 : I [] m) : forQ g fb E lk dz m := by
  subst e
  refine forR_ind (fun ds m => ∃ pre rest, xs = pre ++ rest ∧ ds = enumD pre.length (rest.map f) ∧ I pre m) (fun m h => ?_) (fun d ds m h => ?_) _ m ⟨[], xs, rfl, rfl, h0⟩
  · obtain ⟨pre, rest, e, e2, h⟩ := h
    cases rest with
    | nil => rw [List.append_nil] at e; subst e; exact hnil m h
    | cons x rest => cases e2
  · obtain ⟨pre, rest, e, e2, h⟩ := h
    cases rest with
    | nil => cases e2
    | cons x rest =>
      rw [List.map_cons] at e2
      injection e2 with e3 e4
      subst e3; subst e4
      have z := hcons pre x rest m e h
      exact ⟨z.1, fun k hk => z.2 k fun m' h' => hk m' ⟨pre ++ [x], rest, by rw [e, List.append_assoc]; rfl, by rw [List.length_append]; rfl, h'⟩⟩
theorem cutD_map {α β : Type} (f : α → β) (xs : List α) (lo hi : Option Int) : cutD (xs.map f) lo hi = (cutD xs lo hi).map f := by
  unfold cutD
  rw [List.length_map, List.map_take, List.map_drop]
theorem cutD_len {α : Type} (xs : List α) (lo hi : Option Int) : (cutD xs lo hi).length ≤ xs.length := by
  unfold cutD
  rw [List.length_take, List.length_drop]; omega
theorem cutD_mem {α : Type} {xs : List α} {lo hi : Option Int} {x : α} (h : x ∈ cutD xs lo hi) : x ∈ xs := List.mem_of_mem_drop (List.mem_of_mem_take h)
/-! ### the ends -/
theorem law_start {K : PySem.W.Frag} {H : Hp} {a : Addr} {ns : List Int} {g : FV} (hS : SqL K H a (ns.map V.int)) (h : ∀ Q Qe, Q (.fz (.bl true)) [] → g [.kl (ns.map .int)] [] Q Qe) : spV K 1 g [.ref a] H (fun v _ => v = .bl true) fun _ _ _ => False := by
  refine ⟨H, [], [.kl (ns.map .int)], [], fun r _ => r = .fz (.bl true), fun _ _ => False, ?_, .cons (.kl hS (reps_ints ns)) .nil, rfl, h _ _ rfl, ?_, fun _ _ _ _ _ _ _ q => q.elim⟩
  · refine ⟨Ext.refl _, rfl, fun i d h => ?_, fun i d h => ?_, fun i j d e a h => ?_, rfl, fun k a d h => ?_, .nil⟩
    · cases h
    · cases h
    · cases h
    · cases h
  · intro r gs' G' H' v _ rr q
    subst q
    have rr : Rep K [] G' v (.bl true) := rr
    cases rr
    rfl
theorem no_end {P : Program} {w : World} {H : Hp} {s s' : Shared} {e : Value} (h : L2.CX P w [] H s (fun _ _ _ => False) e s') : False := by
  obtain ⟨_, _, _, _, _, _, _, _, _, _, _, _, h⟩ := h
  exact h
end VL

/-! The value layer: more rules. -/
namespace VL
open PySem PySem.Spec PyProof.Rows L2
section
variable {X : Cx} {W : WX} {a b c : Expr} {fa fb fc : FE} {pos : Pos}
/-- xs[::-1] of a list -/
def gRevL : G1 := fun d k => bindO (lstOf d) fun ds => k (.tmp (.lst ds.reverse))
theorem ve_revL {k : Nat} {p1 p2 p3 : Pos} (ha : VE X W a fa) : VE X W (.Subscript a (.Slice none none (some (.UnaryOp .USub (.Constant (.int 1) k p1) p2)) p3) pos) (fUn gRevL fa) := by
  obtain ⟨ta, pa, sa⟩ := ha.ex
  refine ⟨⟨_, pe_revL pa, fun w m Q Qx Q' s h k kx => ?_⟩⟩
  refine sa w m _ Qx _ s h (fun r m' w' v e a1 r1 q => ?_) kx
  obtain ⟨d, hd, q⟩ := bindO_elim q
  have hv := a1.ok.view r1 hd
  obtain ⟨ds, he, q⟩ := bindO_elim q
  obtain ⟨p, xs, rfl, h1, r1⟩ := lst_at a1.ok hv he
  refine ⟨p, xs, rfl, h1, fun l hl => ?_⟩
  exact outTmp a1.ok (fun r w3 v' e3 a3 r3 k3 => k r m' w3 v' (e3.trans e) (a1.trans a3) (r3.from fun _ z => a1.st.back z) k3) hl (.lst r1.reverse) q
end
theorem toPairs_str (es : List (Str × Str)) : toPairs (es.map fun e => .tup [.str e.1, .str e.2]) = some (es.map fun e => (.inr e.1, .str e.2)) := by
  have := toPairs_map (es.map fun e => (e.1, D.str e.2))
  rw [List.map_map, List.map_map] at this
  exact this
/-! ### a module's tuple of texts -/
def KT (K : PySem.W.Frag) (a : Addr) (zs : List Str) : Prop := ∃ (o : Obj) (its : Array Value) (n : Nat), K.lookup a = some o ∧ o.cls = .type "tuple" ∧ o.dict = none ∧ o.data = .seq its n ∧ its.size ≤ sizeLine ∧ Vals (zs.map V.str) its.toList
section
variable {X : Cx} {W : WX}
theorem KT.sq {K : PySem.W.Frag} {a : Addr} {zs : List Str} (h : KT K a zs) : ∃ (o : Obj) (its : Array Value) (n : Nat), K.lookup a = some o ∧ o.cls = .type "tuple" ∧ o.data = .seq its n ∧ its.size ≤ sizeLine ∧ Vals (zs.map V.str) its.toList := by
  obtain ⟨o, its, n, h1, h2, _, h3, h4, h5⟩ := h
  exact ⟨o, its, n, h1, h2, h3, h4, h5⟩
theorem ve_globTup {x : Str} {a : Addr} {zs : List Str} {pos : Pos} (hg : Gl X x) (hm : X.mg x = some (.ref a)) (hk : KT X.K a zs) (hd : (x == ("__debug__" : Str)) = false := by decide) : VE X W (.Name x pos) (fC (.kt (zs.map .str))) :=
  ⟨⟨_, pe_glob (v := .ref a) hg hm rfl hd, fun w m Q Qx Q' s h k kx => k _ m w _ rfl (.refl s) (retFz (.kt (.inr hk.sq) (reps_strs' zs))) h⟩⟩
end
theorem Pl.non' {n : Nat} : Pl .non n := ⟨.none, rfl, rfl, by simp [PyData.depth]⟩
theorem eqO_nil {ds : List D} {n : Nat} (h : PlL ds n) (hn : n ≤ 60) : eqO (.lst ds) (.lst []) = some ds.isEmpty := by
  obtain ⟨ps, h1, h2, h3⟩ := h
  rw [eqO_of (p := .list ps) (p' := .list []) (by simp [toPy, h1]) (by simp [toPy, toPyL]) (by simp only [PyData.depth]; omega)]
  cases ds with
  | nil => simp [toPyL] at h1; subst h1; rfl
  | cons d ds =>
    cases ps with
    | nil =>
      unfold toPyL at h1
      split at h1
      · split at h1
        · cases h1
        · cases h1
      · cases h1
    | cons p ps => rfl
theorem cut_take {α : Type} (xs : List α) (k : Nat) : VL.cutD xs none (some (k : Int)) = xs.take k := by
  unfold VL.cutD
  rw [HT.sIx_none, HT.sIx_nat, List.drop_zero, Nat.sub_zero]
  rcases Nat.le_total k xs.length with h | h
  · rw [Nat.min_eq_left h]
  · rw [Nat.min_eq_right h, List.take_length, List.take_of_length_le h]
theorem cut_drop {α : Type} (xs : List α) (k : Nat) : VL.cutD xs (some (k : Int)) none = xs.drop k := by
  unfold VL.cutD
  rw [HT.sIx_none, HT.sIx_nat]
  rcases Nat.le_total k xs.length with h | h
  · rw [Nat.min_eq_left h, List.take_of_length_le (by rw [List.length_drop]; omega)]
  · rw [Nat.min_eq_right h, List.drop_length, List.drop_of_length_le h, List.take_nil]
theorem cut_len2 {α : Type} (xs : List α) (a b i : Nat) (h : i < (VL.cutD xs (some (a : Int)) (some (b : Int))).length) : a + i < xs.length ∧ a + i < b := by
  unfold VL.cutD at h
  rw [HT.sIx_nat, HT.sIx_nat, List.length_take, List.length_drop] at h
  omega
mutual
theorem py_gh (k : Nat) : ∀ (d : D) {p : PyData}, toPy d = some p → ghB k d = true
  | .non, _, _ => by simp [ghB]
  | .bl b, _, _ => by simp [ghB]
  | .int i, _, _ => by simp [ghB]
  | .str x, _, _ => by simp [ghB]
  | .raw v, _, _ => by simp [ghB]
  | .gh j, _, h => by simp [toPy] at h
  | .dK es, _, h => by simp [toPy] at h
  | .dT es, _, h => by simp [toPy] at h
  | .tup ds, _, h => by
    cases z : toPyL ds with
    | none => simp [toPy, z] at h
    | some ps => simp only [ghB]; exact pyL_gh k ds z
  | .lst ds, _, h => by
    cases z : toPyL ds with
    | none => simp [toPy, z] at h
    | some ps => simp only [ghB]; exact pyL_gh k ds z
  | .kt ds, _, h => by
    cases z : toPyL ds with
    | none => simp [toPy, z] at h
    | some ps => simp only [ghB]; exact pyL_gh k ds z
  | .kl ds, _, h => by
    cases z : toPyL ds with
    | none => simp [toPy, z] at h
    | some ps => simp only [ghB]; exact pyL_gh k ds z
theorem pyL_gh (k : Nat) : ∀ (ds : List D) {ps : List PyData}, toPyL ds = some ps → ghBL k ds = true
  | [], _, _ => by simp [ghBL]
  | d :: ds, _, h => by
    cases z : toPy d with
    | none => simp [toPyL, z] at h
    | some p =>
      cases z2 : toPyL ds with
      | none => simp [toPyL, z, z2] at h
      | some ps => simp only [ghBL, Bool.and_eq_true]; exact ⟨py_gh k d z, pyL_gh k ds z2⟩
end
theorem plGh {d : D} {n : Nat} (h : Pl d n) (k : Nat) : ghB k d = true := by obtain ⟨p, h1, _⟩ := h; exact py_gh k d h1
/-! ### two tuples, one beside the other -/
def tupOf' : D → Option (List D)
  | .tup ds => some ds
  | .kt ds => some ds
  | _ => none
theorem tup_fix {K : PySem.W.Frag} {w : Wd} {v : V} {d : D} {ds : List D} (r : Rep K w.γ w.G v d) (h : tupOf' d = some ds) : ∃ a xs, v = .ref a ∧ SqT K w.G a xs ∧ RepL K w.γ w.G xs ds := by
  cases d <;> simp [tupOf'] at h <;> subst h
  · cases r with
    | tup h1 r1 => exact ⟨_, _, rfl, .inl (.inl h1), r1⟩
  · cases r with
    | kt h1 r1 => exact ⟨_, _, rfl, h1, r1⟩
def iZipT (f g : FE) : FI := fun m Q Qx => f m (fun r m1 => bindO (keep m1 r) fun p => g p.2 (fun r' m2 => bindO (keep m2 r') fun p' => bindO (tupOf' p.1) fun ds => bindO (tupOf' p'.1) fun es => Q (zipD ds es) (fun _ => True) p'.2) Qx) Qx
section
variable {X : Cx} {W : WX} {a b c : Expr} {fa fb fc : FE} {pos : Pos}
theorem vi_zipT {elts : List Expr} {kk : Nat} {p tpos : Pos} (hg : Gl X "zip") (hm : X.mg "zip" = none) (ha : VE X W a fa) (hb : VE X W b fb) (hs : starEach [a, b] X.env = (false, eval a X.env) :: starEach [b] X.env := by rfl) (hs2 : starEach [b] X.env = [(false, eval b X.env)] := by rfl) (hpl : (backTo pos (starEach [b] X.env)).any (·.1) = false := by rfl) :
    VI X W (.Tuple elts kk tpos) (.Call (.Name "zip" p) [a, b] [] pos) (iZipT fa fb) := by
  obtain ⟨ta, pa, sa⟩ := ha.ex
  obtain ⟨tb, pb, sb⟩ := hb.ex
  refine ⟨⟨_, RZ.pi_zipA hg hm (pa_cons pa (pa_cons pb pa_nil hs2) hs) hs hpl, fun w m Q Qx R s h k kx => ?_⟩⟩
  refine sa w m _ _ _ s h (fun r m1 w1 v e1 a1 r1 q => ?_) kx
  obtain ⟨⟨d, m2⟩, hk, q⟩ := bindO_elim q
  obtain ⟨w2, e2, eH, a2, r2⟩ := keep_ok a1 r1 hk
  rw [← eH, ← e1, ← e2]
  have e21 := e2.trans e1
  refine sb w2 m2 _ _ _ a2.ok q (fun r' m3 w3 u e3 a3 r3 q => ?_) (kx.aft a2 e21)
  obtain ⟨⟨d', m4⟩, hk', q⟩ := bindO_elim q
  obtain ⟨w4, e4, eH4, a4, r4⟩ := keep_ok a3 r3 hk'
  obtain ⟨ds, hd, q⟩ := bindO_elim q
  obtain ⟨es, he, q⟩ := bindO_elim q
  obtain ⟨p1, xs, rfl, h1, rx⟩ := tup_fix (r2.mono a4.st.gp a4.st.gg) hd
  obtain ⟨p2, ys, rfl, h2, ry⟩ := tup_fix r4 he
  refine ⟨p1, p2, xs, ys, rfl, .inr ⟨by rw [← eH4]; exact sqT_ext a4.ok.sub h1, by rw [← eH4]; exact sqT_ext a4.ok.sub h2, ?_⟩⟩
  rw [← eH4]
  have st1 : ∀ w' m', Aft X.K w4 m4 w' m' → SqT X.K w'.H p1 xs ∧ SqT X.K w'.H p2 ys := fun w' m' a' => ⟨sqT_ext (a'.st.gg.trans a'.ok.sub) h1, sqT_ext (a'.st.gg.trans a'.ok.sub) h2⟩
  refine k _ _ m4 w4 _ (e4.trans (e3.trans e21)) (a2.trans a4) ⟨fun w' m' a' l => ?_, fun i w' m' a' l hi => ?_, fun i w' m' d x H' a' l hd y => ?_⟩ q
  · obtain ⟨z1, z2⟩ := st1 w' m' a'
    refine ⟨xs, ys, z1, z2, ?_⟩
    rw [zipD, List.length_zipWith, rx.length, ry.length]
    omega
  · obtain ⟨z1, z2⟩ := st1 w' m' a'
    rw [zipD, List.length_zipWith] at hi
    obtain ⟨x, hx, _⟩ := rx.get (List.getElem?_eq_getElem (show i < ds.length by omega))
    obtain ⟨y, hy, _⟩ := ry.get (List.getElem?_eq_getElem (show i < es.length by omega))
    exact ⟨xs, ys, x, y, z1, z2, hx, hy⟩
  · obtain ⟨z1, z2⟩ := st1 w' m' a'
    obtain ⟨T, x, y', rfl, hT, rfl, y1, y2⟩ := y
    rw [zipD, List.getElem?_zipWith] at hd
    cases f1 : ds[i]? with
    | none => rw [f1] at hd; simp at hd
    | some d1 =>
      cases f2 : es[i]? with
      | none => rw [f1, f2] at hd; simp at hd
      | some d2 =>
        rw [f1, f2] at hd
        simp at hd
        subst hd
        obtain ⟨x', hx, rx'⟩ := rx.get f1
        obtain ⟨y'', hy, ry'⟩ := ry.get f2
        have z := y1 xs z1
        rw [hx] at z
        cases z
        have z := y2 ys z2
        rw [hy] at z
        cases z
        obtain ⟨s4, st4⟩ := a'.ok.lay (o := .tup [x, y']) hT
        exact ⟨w'.lay T (.tup [x, y']), rfl, rfl, ⟨s4, st4⟩, .tup upd_same (.cons ((rx'.mono a'.st.gp a'.st.gg).mono (Pre.refl _) st4.gg) (.cons ((ry'.mono a'.st.gp a'.st.gg).mono (Pre.refl _) st4.gg) .nil))⟩
end
end VL

/-! The value layer: slices of lists with a step. -/
namespace VL
open PySem PySem.Spec PyProof.Rows L2
/-- the items of xs[lo:hi:st] -/
def pickV {α : Type} (xs : List α) (lo hi st : Option Int) : List α := (sliceRange (sliceBounds lo hi st xs.length).1 (sliceBounds lo hi st xs.length).2.1 (sliceBounds lo hi st xs.length).2.2).filterMap (xs[·]?)
theorem pickV_map {α β : Type} (f : α → β) (xs : List α) (lo hi st : Option Int) : pickV (xs.map f) lo hi st = (pickV xs lo hi st).map f := by
  unfold pickV
  rw [List.length_map, List.map_filterMap]
  congr 1
  funext i
  rw [List.getElem?_map]
theorem pick_array (its : List Value) (lo hi st : Option Int) : slicePick its.toArray lo hi st = (pickV its lo hi st).toArray := by
  unfold slicePick pickV
  rw [List.size_toArray]
  have e : (fun i : Nat => its.toArray[i]?) = fun i : Nat => its[i]? := by funext i; simp
  rw [e]
theorem pickV_len {α : Type} (xs : List α) (lo hi st : Option Int) : (pickV xs lo hi st).length ≤ xs.length := by
  have h := slicePick_size_le (xs.map fun _ => Value.none).toArray lo hi st
  rw [pick_array, List.size_toArray, List.size_toArray, pickV_map, List.length_map, List.length_map] at h
  exact h
theorem vals_pick {xs : List V} {us : List Value} (r : Vals xs us) (is : List Nat) : Vals (is.filterMap (xs[·]?)) (is.filterMap (us[·]?)) := by
  induction is with
  | nil => exact .nil
  | cons i is ih =>
    cases h : xs[i]? with
    | some x =>
      obtain ⟨u, hu, ru⟩ := r.get h
      rw [List.filterMap_cons_some h, List.filterMap_cons_some hu]
      exact .cons ru ih
    | none =>
      have hl := r.length
      have hu : us[i]? = none := by rw [List.getElem?_eq_none_iff] at h ⊢; omega
      rw [List.filterMap_cons_none h, List.filterMap_cons_none hu]
      exact ih
theorem RepL.pick {K : PySem.W.Frag} {γ : List Addr} {G : Hp} {vs : List V} {ds : List D} (r : RepL K γ G vs ds) (is : List Nat) : RepL K γ G (is.filterMap (vs[·]?)) (is.filterMap (ds[·]?)) := by
  induction is with
  | nil => exact .nil
  | cons i is ih =>
    cases h : ds[i]? with
    | some x =>
      obtain ⟨u, hu, ru⟩ := r.get h
      rw [List.filterMap_cons_some h, List.filterMap_cons_some hu]
      exact .cons ru ih
    | none =>
      have hl := r.length
      have hu : vs[i]? = none := by rw [List.getElem?_eq_none_iff] at h ⊢; omega
      rw [List.filterMap_cons_none h, List.filterMap_cons_none hu]
      exact ih
def tSlSt (K : PySem.W.Frag) (te : TE) (tl th ts : TO) : TE := fun σ H Q => te σ H fun x H1 => tl σ H1 fun l H2 => th σ H2 fun u H3 => ts σ H3 fun o H4 => ∃ a xs i, x = .ref a ∧ o = some i ∧ i ≠ 0 ∧ SqL K H4 a xs ∧ ∀ p, H4 p = none → Q (.ref p) (upd H4 p (.lst (pickV xs l u o)))
section
variable {X : Cx} {W : WX} {a b c : Expr} {fa fb fc : FE} {pos : Pos}
theorem pe_slSt {e : Expr} {te : TE} {lo hi : Option Expr} {st : Expr} {tl th ts : TO} {p2 pos : Pos} (he : PE X e te) (hl : PO X lo tl) (hu : PO X hi th) (hs : PO X (some st) ts) : PE X (.Subscript e (.Slice lo hi (some st) p2) pos) (tSlSt X.K te tl th ts) := by
  refine ⟨fun pins s σ H Q I h => ?_⟩
  refine Subscript_ (thn (he.run pins s σ H _ I h) fun v s1 ⟨x, H1, I1, r1, q1⟩ => ?_)
  refine wpAny_Slice (thn (hl.run pins s1 σ H1 _ I1 q1) fun vl s2 ⟨l, H2, I2, pl, q2⟩ => thn (hu.run pins s2 σ H2 _ I2 q2) fun vu s3 ⟨u, H3, I3, pu, q3⟩ => ?_)
  refine thn (hs.run pins s3 σ H3 _ I3 q3) fun vs s4 ⟨o, H4, I4, ps, q4⟩ => ?_
  obtain ⟨a, xs, i, ex, eo, h0, hx, q⟩ := q4
  subst ex
  cases r1
  have I5 : Inv X pins σ H4 { s4 with heap := s4.heap.push { cls := .type "slice", data := .fields #[vl, vu, vs] } } := I4.kept (t' := s4.toks) fun b ob q => Heap.get?_push_of_some _ q
  obtain ⟨its, r, ht, hz⟩ := I5.list hx
  have hlen := r.length
  show wpAny (model X.prog X.w) X.A (subscriptTail e (.Slice lo hi (some st) p2) (.ref a) (.ref s4.heap.objs.size)) (EP X pins σ Q) X.xe { s4 with heap := s4.heap.push { cls := .type "slice", data := .fields #[vl, vu, vs] } }
  refine tail_any (ops := [.ref a, .ref s4.heap.objs.size]) ht.isList.typeIs (PySem.slot_list_getitem.lookup) ?_ (by with_unfolding_all rfl)
  refine wpAny_getItem_list_slice ht.isList (Heap.IsSliceOf.new _ vl vu vs) pl pu ps (by rw [eo]; intro e; exact h0 (Option.some.inj e)) ?_ (by rw [List.size_toArray]; omega)
  rw [pick_array]
  have rp : Vals (pickV xs l u o) (pickV its l u o) := by
    unfold pickV
    rw [hlen]
    exact vals_pick r _
  refine ⟨.ref _, _, I5.laid (t' := s4.toks) (o := .lst (pickV xs l u o)) (fun b ob q => Heap.get?_push_of_some _ q) (Nat.le_refl _) ?_, rfl, q _ (I5.hok.fresh (Nat.le_refl _))⟩
  exact ⟨Nat.le_trans (pickV_len xs l u o) hz, _, 0, rp, Heap.get?_push_size _ rfl⟩
def fSlSt (fe : FE) (fl fh fs : FO) : FE := fun m Q Qx => fe m (fun r m1 => fl m1 (fun lo m2 => fh m2 (fun hi m3 => fs m3 (fun st m4 => bindO st fun i => i ≠ 0 ∧ bindO (view m4 r) fun d => bindO (lstOf d) fun ds => Q (.tmp (.lst (pickV ds lo hi st))) m4) Qx) Qx) Qx) Qx
theorem ve_slSt {lo hi : Option Expr} {st : Expr} {fl fh fs : FO} {p2 : Pos} (ha : VE X W a fa) (hl : VO X W lo fl) (hh : VO X W hi fh) (hs : VO X W (some st) fs) : VE X W (.Subscript a (.Slice lo hi (some st) p2) pos) (fSlSt fa fl fh fs) := by
  obtain ⟨ta, pa, sa⟩ := ha.ex
  obtain ⟨tl, pl, sl⟩ := hl.ex
  obtain ⟨th, ph, sh⟩ := hh.ex
  obtain ⟨ts, ps, ss⟩ := hs.ex
  refine ⟨⟨_, pe_slSt pa pl ph ps, fun w m Q Qx Q' s h k kx => ?_⟩⟩
  refine sa w m _ Qx _ s h (fun r m1 w1 v e1 a1 r1 q => ?_) kx
  rw [← e1]
  refine sl w1 m1 _ Qx _ a1.ok q (fun lo m2 w2 e2 a2 q => ?_) (kx.aft a1 e1)
  rw [← e2]
  have a12 := a1.trans a2
  refine sh w2 m2 _ Qx _ a2.ok q (fun hi m3 w3 e3 a3 q => ?_) (kx.aft a12 (e2.trans e1))
  rw [← e3]
  have a13 := a12.trans a3
  refine ss w3 m3 _ Qx _ a3.ok q (fun st m4 w4 e4 a4 q => ?_) (kx.aft a13 (e3.trans (e2.trans e1)))
  obtain ⟨i, hi2, q⟩ := bindO_elim q
  obtain ⟨d, hd, q'⟩ := bindO_elim q.2
  obtain ⟨ds, he, q'⟩ := bindO_elim q'
  have a14 := a13.trans a4
  have r4 := ((r1.step a2.st e2).step a3.st e3).step a4.st e4
  have hv := a4.ok.view r4 hd
  have e14 := e4.trans (e3.trans (e2.trans e1))
  obtain ⟨p, xs, rfl, h1, rr⟩ := lst_at a4.ok hv he
  refine ⟨p, xs, i, rfl, hi2, q.1, h1, fun l hl => ?_⟩
  have rp : RepL X.K w4.γ w4.G (pickV xs lo hi st) (pickV ds lo hi st) := by
    unfold pickV
    rw [rr.length]
    exact rr.pick _
  exact outTmp a4.ok (fun r w5 v' e5 a5 r5 k5 => k r m4 w5 v' (e5.trans e14) (a14.trans a5) (r5.from fun _ z => a14.st.back z) k5) hl (.lst rp) q'
end
/-! ### t.index(x), t a module's tuple of texts -/
def idxO : List Str → Str → Option Nat
  | [], _ => none
  | y :: r, z => if y = z then some 0 else (idxO r z).map (· + 1)
theorem idxO_ok : ∀ {ys : List Str} {z : Str} {j : Nat}, idxO ys z = some j → ys[j]? = some z ∧ ∀ m, m < j → ys[m]? ≠ some z
  | y :: r, z, j, h => by
    unfold idxO at h
    by_cases c : y = z
    · rw [if_pos c] at h
      cases h
      exact ⟨by rw [c]; rfl, fun m hm => absurd hm (Nat.not_lt_zero m)⟩
    · rw [if_neg c] at h
      cases e : idxO r z with
      | none => rw [e] at h; cases h
      | some i =>
        rw [e] at h
        cases h
        obtain ⟨h1, h2⟩ := idxO_ok e
        refine ⟨h1, fun m hm => ?_⟩
        cases m with
        | zero => intro q; exact c (Option.some.inj q)
        | succ m => exact h2 m (Nat.lt_of_succ_lt_succ hm)
def fTix (zs : List Str) (fb : FE) : FE := fun m Q Qx => fb m (fun re m2 => bindO (view m2 re) fun e => match e with
  | .str z => bindO (idxO zs z) fun j => Q (.fz (.int (j : Nat))) m2
  | _ => False) Qx
section
variable {X : Cx} {W : WX} {b : Expr} {fb : FE} {pos : Pos}
theorem ve_tix {x : Str} {a : Addr} {zs : List Str} {p apos : Pos} (hg : Gl X x) (hm : X.mg x = some (.ref a)) (hk : KT X.K a zs) (hb : VE X W b fb) (hd : (x == ("__debug__" : Str)) = false := by decide)
    (hbase : attributeBase (.Name x p) "index" X.env (eval (.Name x p) X.env) = eval (.Name x p) X.env := by rfl)
    (hfew : ((backTo pos (starEach (b :: []) X.env)).all (fun x => !x.1) && (backToKw pos (keywordEach [] X.env)).all (fun x => x.1.isSome)
      && decide ((b :: []).length + ([] : List Keyword).length + (if ([] : List Keyword).isEmpty then 0 else 1) < 30)) = true := by rfl)
    (hline : (apos.endLine == pos.line) = true := by rfl) (hs : starEach (b :: []) X.env = (false, eval b X.env) :: starEach [] X.env := by rfl) (hplain : (backTo pos (starEach [] X.env)).any (·.1) = false := by rfl) :
    VE X W (.Call (.Attribute (.Name x p) "index" apos) [b] [] pos) (fTix zs fb) := by
  obtain ⟨tb, pb, sb⟩ := hb.ex
  refine ⟨⟨_, pe_bm PySem.F.plainAttrs_tuple PySem.F.slot_tuple_index PySem.F.type_tuple_index mt_tup_index (pe_glob (v := .ref a) hg hm rfl hd) (pa_cons pb pa_nil hs) hbase hfew hline hs hplain, fun w m Q Qx Q' s h k kx => ?_⟩⟩
  obtain ⟨o, its, n, k1, k2, k3, k4⟩ := hk
  refine ⟨.inr (.inl ⟨rfl, o, k1, k2, k3⟩), ?_⟩
  refine sb w m _ Qx _ s h (fun re m2 w2 u e2 a2 r2 q => ?_) kx
  obtain ⟨e, he, q⟩ := bindO_elim q
  have hv := a2.ok.view r2 he
  split at q
  · cases hv
    obtain ⟨j, hj, q⟩ := bindO_elim q
    obtain ⟨h1, h2⟩ := idxO_ok hj
    exact ⟨a, zs, _, j, rfl, rfl, .inr ⟨o, its, n, k1, k2, k4⟩, h1, h2, k (.fz (.int (j : Nat))) m2 w2 _ e2 a2 (retFz (.int _)) q⟩
  · exact q.elim
end
/-! ### text.count(text), xs.insert(i, y) -/
section
variable {K : PySem.W.Frag}
def gCount : G2 := fun d e k => match d, e with
  | .str a, .str b => k (.fz (.int (Txt.count a b)))
  | _, _ => False
theorem countV : OpV K (fun x y H Q => (fun x xs H Q => ∃ a b, x = V.str a ∧ xs = [V.str b] ∧ Q (.int (Txt.count a b)) H : V → List V → Hp → VK → Prop) x [y] H Q) gCount := by
  intro w m v u d e k Q' s hv hu h q
  unfold gCount at h
  split at h
  · cases hv; cases hu
    exact ⟨_, _, rfl, rfl, outFz s q (.int _) h⟩
  · exact h.elim
def gInsert : GM := fun c ds k => match c, ds with
  | .lst cs, [.int i, d] => cs.length < sizeLine ∧ 0 ≤ i ∧ i < 2 ^ 63 ∧ k .non (.lst (cs.take i.toNat ++ [d] ++ cs.drop i.toNat))
  | _, _ => False
theorem insertV : MmV K (fun x vs H Q => ∃ (l : Addr) (xs : List V) (i : Int) (y : V), x = .ref l ∧ vs = [.int i, y] ∧ H l = some (.lst xs) ∧ xs.length < sizeLine ∧ 0 ≤ i ∧ i < 2 ^ 63 ∧
    Q .non (upd H l (.lst (xs.take i.toNat ++ [y] ++ xs.drop i.toNat)))) gInsert := by
  intro γ G H a o c vs ds k Q' s h1 h2 h3 h q
  unfold gInsert at h
  split at h
  · cases h2 with
    | lst r =>
      cases h3 with
      | cons r1 r2 =>
        cases r2 with
        | cons r3 r4 =>
          cases r4
          cases r1
          exact ⟨a, _, _, _, rfl, rfl, h1, by rw [r.length]; exact h.1, h.2.1, h.2.2.1, q _ _ _ _ .non (.lst (((r.take _).append (.cons r3 .nil)).append (r.drop _))) h.2.2.2⟩
  · exact h.elim
end
end VL

set_option maxHeartbeats 8000000
namespace LW
open PySem PySem.Spec PyProof.Rows L2 VL
/-! rows of a sheet -/
structure TRow where
  mark : Int
  rule : Nat
  parts : List (Int × Option Str)
def tpD (p : Int × Option Str) : D := .tup [.int p.1, match p.2 with | none => .non | some t => .str t]
def trD (r : TRow) : D := .tup [.int r.mark, .int r.rule, .lst (r.parts.map tpD)]
def ntD (p : Int × Int) : D := .tup [.int p.1, .int p.2]
/-- the name that a row binds -/
def bName (notes : List (Int × Int)) (r : TRow) : Option Str := match notes[r.rule]? with
  | some p => if 0 ≤ p.2 then (match r.parts[p.2.toNat]? with | some q => q.2 | none => none) else none
  | none => none
/-- a row's rule is there; its binding part is a text -/
def bOk (notes : List (Int × Int)) (r : TRow) : Prop := ∃ p, notes[r.rule]? = some p ∧ (0 ≤ p.2 → ∃ q t, r.parts[p.2.toNat]? = some (q, some t))
def bStep (notes : List (Int × Int)) (name : Str) (s : Nat × Int) (r : TRow) : Nat × Int := (s.1 + 1, if bName notes r = some name then (s.1 : Int) else s.2)
def bRun (notes : List (Int × Int)) (name : Str) (rows : List TRow) : Nat × Int := rows.foldl (bStep notes name) (0, -1)
/-- the last row that binds the name -/
def bIn (notes : List (Int × Int)) (name : Str) (rows : List TRow) : Int := (bRun notes name rows).2
theorem bRun_count (notes : List (Int × Int)) (name : Str) (rows : List TRow) : (bRun notes name rows).1 = rows.length := by
  have h : ∀ (rows : List TRow) (s : Nat × Int), (rows.foldl (bStep notes name) s).1 = s.1 + rows.length := by
    intro rows
    induction rows with
    | nil => intro s; rfl
    | cons r rows ih => intro s; rw [List.foldl_cons, ih, List.length_cons]; show s.1 + 1 + _ = _; omega
  unfold bRun
  rw [h]; simp
theorem bIn_snoc (notes : List (Int × Int)) (name : Str) (pre : List TRow) (r : TRow) : bIn notes name (pre ++ [r]) = if bName notes r = some name then (pre.length : Int) else bIn notes name pre := by
  unfold bIn bRun
  rw [List.foldl_append]
  show (if bName notes r = some name then ((bRun notes name pre).1 : Int) else _) = _
  rw [bRun_count]
/-! the holders of a sheet: each row's holder stands ahead -/
def shD (s : Int × D) : D := .tup [.int s.1, s.2]
def hCh (hs : List Int) : Nat → Int → List Int
  | 0, _ => []
  | n + 1, h => if 0 ≤ h then h :: hCh hs n (hs.getD h.toNat (-1)) else []
def hUp (hs : List Int) : Prop := ∀ (i : Nat) (h : Int), hs[i]? = some h → h < i
theorem hCh_neg (hs : List Int) {h : Int} (h0 : ¬ 0 ≤ h) : ∀ f, hCh hs f h = []
  | 0 => rfl
  | f + 1 => by unfold hCh; rw [if_neg h0]
theorem hCh_fuel {hs : List Int} (up : hUp hs) : ∀ (f f' : Nat) (h : Int), h < hs.length → (h + 1).toNat ≤ f → (h + 1).toNat ≤ f' → hCh hs f h = hCh hs f' h := by
  intro f
  induction f with
  | zero =>
    intro f' h _ hf _
    rw [hCh_neg hs (by omega), hCh_neg hs (by omega)]
  | succ f ih =>
    intro f' h hl hf hf'
    by_cases h0 : 0 ≤ h
    · cases f' with
      | zero => omega
      | succ f' =>
        obtain ⟨k, rfl⟩ := Int.eq_ofNat_of_zero_le h0
        have hk : k < hs.length := by omega
        have hg : hs.getD ((k : Int)).toNat (-1) = hs[k] := by rw [Int.toNat_natCast, List.getD_eq_getElem?_getD, List.getElem?_eq_getElem hk]; rfl
        have hu := up k hs[k] (List.getElem?_eq_getElem hk)
        unfold hCh
        rw [if_pos h0, if_pos h0, hg, ih f' hs[k] (by omega) (by omega) (by omega)]
    · rw [hCh_neg hs h0, hCh_neg hs h0]
/-- what holders_of answers of the row n -/
def hOf (hs : List Int) (n : Nat) : List Int := -1 :: hCh hs hs.length (hs.getD n (-1))
abbrev SRow := Int × List TRow
def srD (s : SRow) : D := shD (s.1, .lst (s.2.map trD))
def bFind (sh : List SRow) (hl : List Int) (notes : List (Int × Int)) (name : Str) : Nat → Option (Nat × Int)
  | 0 => none
  | p + 1 => match sh[p]? with
    | some s => if s.1 ∈ hl ∧ 0 ≤ bIn notes name s.2 then some (p, bIn notes name s.2) else bFind sh hl notes name p
    | none => none
def bAns : Option (Nat × Int) → D
  | none => .non
  | some p => .tup [.int p.1, .int p.2]
def bLast (sh : List SRow) (notes : List (Int × Int)) (name : Str) : Nat → Int
  | 0 => -1
  | p + 1 => match sh[p]? with
    | some s => if 0 ≤ bIn notes name s.2 then (p : Int) else bLast sh notes name p
    | none => -1
theorem bFind_last {sh : List SRow} {hl : List Int} {notes : List (Int × Int)} {name : Str} (hh : ∀ s ∈ sh, s.1 ∈ hl) : ∀ n, n ≤ sh.length →
    (bLast sh notes name n < 0 ∧ bFind sh hl notes name n = none) ∨ ∃ (p : Nat) (s : SRow), p < n ∧ sh[p]? = some s ∧ bLast sh notes name n = p ∧ bFind sh hl notes name n = some (p, bIn notes name s.2)
  | 0, _ => .inl ⟨by show (-1 : Int) < 0; omega, rfl⟩
  | n + 1, h => by
    have hn : n < sh.length := by omega
    have hat : sh[n]? = some sh[n] := List.getElem?_eq_getElem hn
    have hm := hh _ (List.getElem_mem hn)
    have e1 : bLast sh notes name (n + 1) = if 0 ≤ bIn notes name sh[n].2 then (n : Int) else bLast sh notes name n := by
      show (match sh[n]? with | some s => _ | none => _) = _
      rw [hat]
    have e2 : bFind sh hl notes name (n + 1) = if sh[n].1 ∈ hl ∧ 0 ≤ bIn notes name sh[n].2 then some (n, bIn notes name sh[n].2) else bFind sh hl notes name n := by
      show (match sh[n]? with | some s => _ | none => none) = _
      rw [hat]
    rw [e1, e2]
    by_cases c : 0 ≤ bIn notes name sh[n].2
    · rw [if_pos c, if_pos ⟨hm, c⟩]
      exact .inr ⟨n, sh[n], by omega, hat, rfl, rfl⟩
    · rw [if_neg c, if_neg (fun z => c z.2)]
      rcases bFind_last hh n (by omega) with h | ⟨p, s, h1, h2⟩
      · exact .inl h
      · exact .inr ⟨p, s, by omega, h2⟩
/-! the shapes of the rules, the notes -/
def shpL : List Str := ["w", "w", "nwn", "wnw", "wwn", "n", "wn", "www"]
def ntOk (k : Nat) (p : Int × Int) : Prop := p.2 = -1 ∨ ∃ (j : Nat) (s : Str), p.2 = j ∧ shpL[k]? = some s ∧ s.cps.toList[j]? = some 119
/-! flat enough to be compared -/
theorem tpD_pl (p : Int × Option Str) : Pl (tpD p) 1 := by
  rcases p with ⟨i, _ | t⟩
  · exact .tup (.cons (.int _) (.cons .non' .nil))
  · exact .tup (.cons (.int _) (.cons (.str _) .nil))
theorem trD_pl (r : TRow) : Pl (trD r) 4 := (Pl.tup (n := 3) (.cons (.int _) (.cons (.int _) (.cons (Pl.mono (.lst (.map tpD_pl r.parts)) (by decide)) .nil))))
theorem srD_pl (s : SRow) : Pl (srD s) 6 := (Pl.tup (n := 5) (.cons (.int _) (.cons (.lst (.map trD_pl s.2)) .nil)))
theorem ntD_pl (p : Int × Int) : Pl (ntD p) 1 := .tup (.cons (.int _) (.cons (.int _) .nil))
theorem bAns_pl (o : Option (Nat × Int)) : Pl (bAns o) 1 := by
  rcases o with _ | ⟨p, i⟩
  · exact .non'
  · exact .tup (.cons (.int _) (.cons (.int _) .nil))
def bLastH (sh : List SRow) (hl : List Int) (notes : List (Int × Int)) (name : Str) : Nat → Int
  | 0 => -1
  | p + 1 => match sh[p]? with
    | some s => if s.1 ∈ hl ∧ 0 ≤ bIn notes name s.2 then (p : Int) else bLastH sh hl notes name p
    | none => -1
theorem bFind_lastH {sh : List SRow} {hl : List Int} {notes : List (Int × Int)} {name : Str} : ∀ n, n ≤ sh.length →
    (bLastH sh hl notes name n < 0 ∧ bFind sh hl notes name n = none) ∨ ∃ (p : Nat) (s : SRow), p < n ∧ sh[p]? = some s ∧ bLastH sh hl notes name n = p ∧ bFind sh hl notes name n = some (p, bIn notes name s.2)
  | 0, _ => .inl ⟨by show (-1 : Int) < 0; omega, rfl⟩
  | n + 1, h => by
    have hn : n < sh.length := by omega
    have hat : sh[n]? = some sh[n] := List.getElem?_eq_getElem hn
    have e1 : bLastH sh hl notes name (n + 1) = if sh[n].1 ∈ hl ∧ 0 ≤ bIn notes name sh[n].2 then (n : Int) else bLastH sh hl notes name n := by
      show (match sh[n]? with | some s => _ | none => _) = _
      rw [hat]
    have e2 : bFind sh hl notes name (n + 1) = if sh[n].1 ∈ hl ∧ 0 ≤ bIn notes name sh[n].2 then some (n, bIn notes name sh[n].2) else bFind sh hl notes name n := by
      show (match sh[n]? with | some s => _ | none => none) = _
      rw [hat]
    rw [e1, e2]
    by_cases c : sh[n].1 ∈ hl ∧ 0 ≤ bIn notes name sh[n].2
    · rw [if_pos c, if_pos c]
      exact .inr ⟨n, sh[n], by omega, hat, rfl, rfl⟩
    · rw [if_neg c, if_neg c]
      rcases bFind_lastH (sh := sh) (hl := hl) (notes := notes) (name := name) n (by omega) with h | ⟨p, s, h1, h2⟩
      · exact .inl h
      · exact .inr ⟨p, s, by omega, h2⟩

/-- the script's k-th number, or nought -/
def sp__law_cell_at : FV := fun ds gs Q _ => ∃ (ns : List Int) (k : Nat), ds = [.kl (ns.map .int), .int k] ∧ Q (.fz (.int (ns.getD k 0))) gs

def fb__law_cell_at : FS := sSeq (sIf (fTest (fOp gLt (fVar 1) (fUn gLen (fVar 0)))) (sRet (fOp gIx (fVar 0) (fVar 1))) (sNil))
  (sRet (fC (.int 0)))
theorem bd__law_cell_at : ∀ ds gs Q Qe, sp__law_cell_at ds gs Q Qe → bodyV 2 fb__law_cell_at ds gs Q Qe := by
  rintro ds gs Q Qe ⟨ns, k, rfl, h⟩
  conv => whnf
  refine ⟨fun c => ?_, fun c => ?_⟩
  · have c : (k : Int) < (ns.map D.int).length := of_decide_eq_true c
    rw [List.length_map] at c
    have hk : k < ns.length := by omega
    refine bindO_of (at_map (List.getElem?_eq_getElem hk)) (fin0 rfl ?_)
    have e : ns.getD k 0 = ns[k] := by simp [List.getD, hk]
    rw [← e]; exact h
  · have c : ¬ (k : Int) < (ns.map D.int).length := of_decide_eq_false c
    rw [List.length_map] at c
    have e : ns.getD k 0 = 0 := by simp [List.getD, List.getElem?_eq_none (show ns.length ≤ k by omega)]
    rw [e] at h
    exact fin0 rfl h

def sp__law_holder : FV := fun ds gs Q _ => ∃ (sh : List SRow) (k : Nat), gs = [.lst (sh.map srD)] ∧ ds = [.gh 0, .int k] ∧ hUp (sh.map (·.1)) ∧ sh.length ≤ 1000 ∧ ∀ h : Int, h < sh.length → Q (.fz (.int h)) gs

def fb__law_holder : FS := sSeq (sIf (fOr (fTest (fOp (gEq false) (fOp gMod (fVar 1) (fC (.int 4))) (fC (.int 0)))) (fTest (fOp (gEq false) (fVar 0) (fLst (aNil))))) (sRet (fUn gNeg (fC (.int 1)))) (sNil))
  (sSeq (sIf (fTest (fOp (gEq false) (fOp gMod (fVar 1) (fC (.int 4))) (fC (.int 1)))) (sRet (fOp gSub (fUn gLen (fVar 0)) (fC (.int 1)))) (sNil))
  (sSeq (sIf (fTest (fOp (gEq false) (fOp gMod (fVar 1) (fC (.int 4))) (fC (.int 2)))) (sRet (fOp gIx (fOp gIx (fVar 0) (fUn gNeg (fC (.int 1)))) (fC (.int 0)))) (sNil))
  (sRet (fOp gMod (fOp gDiv (fVar 1) (fC (.int 4))) (fUn gLen (fVar 0))))))
theorem bd__law_holder : ∀ ds gs Q Qe, sp__law_holder ds gs Q Qe → bodyV 2 fb__law_holder ds gs Q Qe := by
  rintro ds gs Q Qe ⟨sh, k, rfl, rfl, up, hl, h⟩
  (try conv => whnf); repeat (first | (refine And.intro (fun e => Bool.noConfusion (show (false : Bool) = true from e)) (fun _ => ?_); conv => whnf) | (refine And.intro (fun _ => ?_) (fun e => Bool.noConfusion (show (true : Bool) = false from e)); conv => whnf) | (refine And.intro (by first | exact True.intro | ((try dsimp only [CDiv, CMul, CDivN, CPow] at *) <;> omega) | ((try dsimp only [CDiv, CMul, CDivN, CPow] at *) <;> (simp only [List.length_map, List.length_append, List.length_cons, List.length_nil, List.length_reverse, strApp_len, len1, szl] at *) <;> omega) | rfl | exact of_decide_eq_true rfl) ?_; conv => whnf))
  refine ⟨fun c => ?_, fun c => ?_⟩
  · (try conv => whnf); repeat (first | (refine And.intro (fun e => Bool.noConfusion (show (false : Bool) = true from e)) (fun _ => ?_); conv => whnf) | (refine And.intro (fun _ => ?_) (fun e => Bool.noConfusion (show (true : Bool) = false from e)); conv => whnf) | (refine And.intro (by first | exact True.intro | ((try dsimp only [CDiv, CMul, CDivN, CPow] at *) <;> omega) | ((try dsimp only [CDiv, CMul, CDivN, CPow] at *) <;> (simp only [List.length_map, List.length_append, List.length_cons, List.length_nil, List.length_reverse, strApp_len, len1, szl] at *) <;> omega) | rfl | exact of_decide_eq_true rfl) ?_; conv => whnf))
    exact fin0 rfl (h _ (by omega))
  (try conv => whnf); repeat (first | (refine And.intro (fun e => Bool.noConfusion (show (false : Bool) = true from e)) (fun _ => ?_); conv => whnf) | (refine And.intro (fun _ => ?_) (fun e => Bool.noConfusion (show (true : Bool) = false from e)); conv => whnf) | (refine And.intro (by first | exact True.intro | ((try dsimp only [CDiv, CMul, CDivN, CPow] at *) <;> omega) | ((try dsimp only [CDiv, CMul, CDivN, CPow] at *) <;> (simp only [List.length_map, List.length_append, List.length_cons, List.length_nil, List.length_reverse, strApp_len, len1, szl] at *) <;> omega) | rfl | exact of_decide_eq_true rfl) ?_; conv => whnf))
  refine bindO_of (eqO_nil (.map srD_pl sh) (by decide)) ?_
  (try conv => whnf); repeat (first | (refine And.intro (fun e => Bool.noConfusion (show (false : Bool) = true from e)) (fun _ => ?_); conv => whnf) | (refine And.intro (fun _ => ?_) (fun e => Bool.noConfusion (show (true : Bool) = false from e)); conv => whnf) | (refine And.intro (by first | exact True.intro | ((try dsimp only [CDiv, CMul, CDivN, CPow] at *) <;> omega) | ((try dsimp only [CDiv, CMul, CDivN, CPow] at *) <;> (simp only [List.length_map, List.length_append, List.length_cons, List.length_nil, List.length_reverse, strApp_len, len1, szl] at *) <;> omega) | rfl | exact of_decide_eq_true rfl) ?_; conv => whnf))
  by_cases e : sh = []
  · refine yes_of (by simp [e]) ?_
    (try conv => whnf); repeat (first | (refine And.intro (fun e => Bool.noConfusion (show (false : Bool) = true from e)) (fun _ => ?_); conv => whnf) | (refine And.intro (fun _ => ?_) (fun e => Bool.noConfusion (show (true : Bool) = false from e)); conv => whnf) | (refine And.intro (by first | exact True.intro | ((try dsimp only [CDiv, CMul, CDivN, CPow] at *) <;> omega) | ((try dsimp only [CDiv, CMul, CDivN, CPow] at *) <;> (simp only [List.length_map, List.length_append, List.length_cons, List.length_nil, List.length_reverse, strApp_len, len1, szl] at *) <;> omega) | rfl | exact of_decide_eq_true rfl) ?_; conv => whnf))
    exact fin0 rfl (h _ (by omega))
  refine no_of (by simp [e]) ?_
  have hne : 0 < sh.length := List.length_pos_iff.mpr e
  (try conv => whnf); repeat (first | (refine And.intro (fun e => Bool.noConfusion (show (false : Bool) = true from e)) (fun _ => ?_); conv => whnf) | (refine And.intro (fun _ => ?_) (fun e => Bool.noConfusion (show (true : Bool) = false from e)); conv => whnf) | (refine And.intro (by first | exact True.intro | ((try dsimp only [CDiv, CMul, CDivN, CPow] at *) <;> omega) | ((try dsimp only [CDiv, CMul, CDivN, CPow] at *) <;> (simp only [List.length_map, List.length_append, List.length_cons, List.length_nil, List.length_reverse, strApp_len, len1, szl] at *) <;> omega) | rfl | exact of_decide_eq_true rfl) ?_; conv => whnf))
  refine ⟨fun c => ?_, fun c => ?_⟩
  · (try conv => whnf); repeat (first | (refine And.intro (fun e => Bool.noConfusion (show (false : Bool) = true from e)) (fun _ => ?_); conv => whnf) | (refine And.intro (fun _ => ?_) (fun e => Bool.noConfusion (show (true : Bool) = false from e)); conv => whnf) | (refine And.intro (by first | exact True.intro | ((try dsimp only [CDiv, CMul, CDivN, CPow] at *) <;> omega) | ((try dsimp only [CDiv, CMul, CDivN, CPow] at *) <;> (simp only [List.length_map, List.length_append, List.length_cons, List.length_nil, List.length_reverse, strApp_len, len1, szl] at *) <;> omega) | rfl | exact of_decide_eq_true rfl) ?_; conv => whnf))
    refine fin0 rfl (h _ (by rw [List.length_map]; omega))
  (try conv => whnf); repeat (first | (refine And.intro (fun e => Bool.noConfusion (show (false : Bool) = true from e)) (fun _ => ?_); conv => whnf) | (refine And.intro (fun _ => ?_) (fun e => Bool.noConfusion (show (true : Bool) = false from e)); conv => whnf) | (refine And.intro (by first | exact True.intro | ((try dsimp only [CDiv, CMul, CDivN, CPow] at *) <;> omega) | ((try dsimp only [CDiv, CMul, CDivN, CPow] at *) <;> (simp only [List.length_map, List.length_append, List.length_cons, List.length_nil, List.length_reverse, strApp_len, len1, szl] at *) <;> omega) | rfl | exact of_decide_eq_true rfl) ?_; conv => whnf))
  refine ⟨fun c => ?_, fun c => ?_⟩
  · obtain ⟨init, x, rfl⟩ : ∃ init x, sh = init ++ [x] := ⟨sh.dropLast, sh.getLast e, (List.dropLast_concat_getLast e).symm⟩
    have hu := up init.length x.1 (by rw [List.getElem?_map, List.getElem?_append_right (Nat.le_refl _)]; simp)
    (try conv => whnf); repeat (first | (refine And.intro (fun e => Bool.noConfusion (show (false : Bool) = true from e)) (fun _ => ?_); conv => whnf) | (refine And.intro (fun _ => ?_) (fun e => Bool.noConfusion (show (true : Bool) = false from e)); conv => whnf) | (refine And.intro (by first | exact True.intro | ((try dsimp only [CDiv, CMul, CDivN, CPow] at *) <;> omega) | ((try dsimp only [CDiv, CMul, CDivN, CPow] at *) <;> (simp only [List.length_map, List.length_append, List.length_cons, List.length_nil, List.length_reverse, strApp_len, len1, szl] at *) <;> omega) | rfl | exact of_decide_eq_true rfl) ?_; conv => whnf))
    refine bindO_of (at_lastm srD init x) ?_
    (try conv => whnf); repeat (first | (refine And.intro (fun e => Bool.noConfusion (show (false : Bool) = true from e)) (fun _ => ?_); conv => whnf) | (refine And.intro (fun _ => ?_) (fun e => Bool.noConfusion (show (true : Bool) = false from e)); conv => whnf) | (refine And.intro (by first | exact True.intro | ((try dsimp only [CDiv, CMul, CDivN, CPow] at *) <;> omega) | ((try dsimp only [CDiv, CMul, CDivN, CPow] at *) <;> (simp only [List.length_map, List.length_append, List.length_cons, List.length_nil, List.length_reverse, strApp_len, len1, szl] at *) <;> omega) | rfl | exact of_decide_eq_true rfl) ?_; conv => whnf))
    exact fin0 rfl (h _ (by rw [List.length_append]; simp; omega))
  · (try conv => whnf); repeat (first | (refine And.intro (fun e => Bool.noConfusion (show (false : Bool) = true from e)) (fun _ => ?_); conv => whnf) | (refine And.intro (fun _ => ?_) (fun e => Bool.noConfusion (show (true : Bool) = false from e)); conv => whnf) | (refine And.intro (by first | exact True.intro | ((try dsimp only [CDiv, CMul, CDivN, CPow] at *) <;> omega) | ((try dsimp only [CDiv, CMul, CDivN, CPow] at *) <;> (simp only [List.length_map, List.length_append, List.length_cons, List.length_nil, List.length_reverse, strApp_len, len1, szl] at *) <;> omega) | rfl | exact of_decide_eq_true rfl) ?_; conv => whnf))
    refine fin0 rfl (h _ ?_)
    dsimp only
    rw [List.length_map]
    exact Int.emod_lt_of_pos _ (by omega)

/-! the drawn names: alike but for one letter -/
def lwL : List Nat := (Str.ofString "abcefghijklmnopqrstuvwxz").cps.toList
theorem lwL_len : lwL.length = 24 := by decide
theorem lwL_nd : lwL.Nodup := by decide
def lwStep (c : Int) (k j : Nat) : Int := if (j : Int) = c / 7 % (1 + c % 7) then (k : Int) else (j : Int) * (c / 49 % 5)
def lwCode (c : Int) (k j : Nat) : Nat := lwL.getD ((c / 245 + lwStep c k j) % 24).toNat 0
def lwName (c : Int) (k : Nat) : Str := ⟨((List.range (1 + c % 7).toNat).map (lwCode c k)).toArray⟩
theorem lwCode_mem (c : Int) (k j : Nat) : lwCode c k j ∈ lwL := by
  unfold lwCode
  have h : ((c / 245 + lwStep c k j) % 24).toNat < lwL.length := by rw [lwL_len]; omega
  rw [List.getD_eq_getElem?_getD, List.getElem?_eq_getElem h]
  exact List.getElem_mem h
theorem lwName_list (c : Int) (k : Nat) : (lwName c k).cps.toList = (List.range (1 + c % 7).toNat).map (lwCode c k) := rfl
theorem lwName_inj {c : Int} {k k' : Nat} (h1 : k < 24) (h2 : k' < 24) (h : lwName c k = lwName c k') : k = k' := by
  have e : (List.range (1 + c % 7).toNat).map (lwCode c k) = (List.range (1 + c % 7).toNat).map (lwCode c k') := by
    rw [← lwName_list, ← lwName_list, h]
  have hj : (c / 7 % (1 + c % 7)).toNat < (1 + c % 7).toNat := by
    have a1 : 0 < 1 + c % 7 := by omega
    have a2 := Int.emod_nonneg (c / 7) (show 1 + c % 7 ≠ 0 by omega)
    have a3 := Int.emod_lt_of_pos (c / 7) a1
    omega
  have e2 := congrArg (fun l : List Nat => l[(c / 7 % (1 + c % 7)).toNat]?) e
  simp only [List.getElem?_map, List.getElem?_range hj, Option.map_some, Option.some.injEq] at e2
  have hc : (((c / 7 % (1 + c % 7)).toNat : Nat) : Int) = c / 7 % (1 + c % 7) := by
    have a2 := Int.emod_nonneg (c / 7) (show 1 + c % 7 ≠ 0 by omega)
    omega
  unfold lwCode lwStep at e2
  rw [if_pos hc, if_pos hc] at e2
  have b1 : ((c / 245 + (k : Int)) % 24).toNat < lwL.length := by rw [lwL_len]; omega
  have b2 : ((c / 245 + (k' : Int)) % 24).toNat < lwL.length := by rw [lwL_len]; omega
  rw [List.getD_eq_getElem?_getD, List.getD_eq_getElem?_getD, List.getElem?_eq_getElem b1, List.getElem?_eq_getElem b2] at e2
  have e3 := (List.getElem?_inj (j := ((c / 245 + (k' : Int)) % 24).toNat) b1 lwL_nd).mp (by rw [List.getElem?_eq_getElem b1, List.getElem?_eq_getElem b2]; exact congrArg some e2)
  omega
/-- a text with a letter that none of the names has -/
theorem lwName_ne {c : Int} {k : Nat} {z : Str} (y : Nat) (hy : y ∈ z.cps.toList) (hn : y ∉ lwL) : lwName c k ≠ z := by
  intro e
  rw [← e, lwName_list] at hy
  obtain ⟨j, _, rfl⟩ := List.mem_map.mp hy
  exact hn (lwCode_mem c k j)
def lwNames (c : Int) (n : Nat) : List Str := (List.range n).map (lwName c)
theorem lwNames_len (c : Int) (n : Nat) : (lwNames c n).length = n := by simp [lwNames]
theorem map_nodup {α β : Type} {f : α → β} : ∀ {l : List α}, l.Nodup → (∀ a ∈ l, ∀ b ∈ l, f a = f b → a = b) → (l.map f).Nodup
  | [], _, _ => .nil
  | x :: l, h, hf => by
    rw [List.nodup_cons] at h
    rw [List.map_cons, List.nodup_cons]
    refine ⟨fun hm => ?_, map_nodup h.2 fun a ha b hb => hf a (List.mem_cons_of_mem _ ha) b (List.mem_cons_of_mem _ hb)⟩
    obtain ⟨b, hb, e⟩ := List.mem_map.mp hm
    have := hf b (List.mem_cons_of_mem _ hb) x List.mem_cons_self e
    subst this
    exact h.1 hb
theorem lwNames_nd (c : Int) {n : Nat} (h : n ≤ 24) : (lwNames c n).Nodup := by
  refine map_nodup List.nodup_range fun a ha b hb e => ?_
  have ha := List.mem_range.mp ha
  have hb := List.mem_range.mp hb
  exact lwName_inj (by omega) (by omega) e
theorem lwNames_snoc (c : Int) (n : Nat) : lwNames c (n + 1) = lwNames c n ++ [lwName c n] := by simp [lwNames, List.range_succ]
theorem set_nodup {α : Type} {l : List α} {a : α} (h : l.Nodup) (ha : a ∉ l) (i : Nat) : (l.set i a).Nodup := by
  induction l generalizing i with
  | nil => exact .nil
  | cons x l ih =>
    rw [List.nodup_cons] at h
    rw [List.mem_cons, not_or] at ha
    cases i with
    | zero => rw [List.set_cons_zero, List.nodup_cons]; exact ⟨ha.2, h.2⟩
    | succ i =>
      rw [List.set_cons_succ, List.nodup_cons]
      refine ⟨fun hm => ?_, ih h.2 ha.2 i⟩
      rcases List.mem_or_eq_of_mem_set hm with z | z
      · exact h.1 z
      · exact ha.1 z.symm
theorem str_snoc (l : List Nat) (x : Nat) : (⟨l.toArray⟩ : Str) ++ ⟨#[x]⟩ = ⟨(l ++ [x]).toArray⟩ := by
  apply TL.ext_tl
  rw [TL.tl_append]
/-- some texts, as many as asked for -/
def sp__law_names : FV := fun ds gs Q _ => ∃ (c : Int) (n : Nat), ds = [.int c, .int n] ∧ n ≤ 100 ∧ Q (.tmp (.lst ((lwNames c n).map .str))) gs

def fb__law_names : FS := sSeq (sAsg 2 (fC (.str "abcefghijklmnopqrstuvwxz")))
  (sSeq (sAsg 3 (fOp gMod (fOp gDiv (fVar 0) (fC (.int 7))) (fOp gAdd (fC (.int 1)) (fOp gMod (fVar 0) (fC (.int 7))))))
  (sSeq (sAsg 4 (fLst (aNil)))
  (sSeq (sFor (iRange1 (fVar 1)) (gNm 5) (sSeq (sAsg 6 (fC (.str "")))
  (sSeq (sFor (iRange1 (fOp gAdd (fC (.int 1)) (fOp gMod (fVar 0) (fC (.int 7))))) (gNm 7) (sSeq (sAsg 8 (fOp gMul (fVar 7) (fOp gMod (fOp gDiv (fVar 0) (fC (.int 49))) (fC (.int 5)))))
  (sSeq (sIf (fTest (fOp (gEq false) (fVar 7) (fVar 3))) (sAsg 8 (fVar 5)) (sNil))
  (sAsg 6 (fOp gAdd (fVar 6) (fOp gIx (fVar 2) (fOp gMod (fOp gAdd (fOp gDiv (fVar 0) (fC (.int 245))) (fVar 8)) (fC (.int 24)))))))))
  (sExpr (fMm "list" gAppend (fVar 4) (aCons (fVar 6) (aNil)))))))
  (sRet (fVar 4)))))
theorem bd__law_names : ∀ ds gs Q Qe, sp__law_names ds gs Q Qe → bodyV 9 fb__law_names ds gs Q Qe := by
  rintro ds gs Q Qe ⟨c, n, rfl, hn, h⟩
  (try conv => whnf); repeat (first | (refine And.intro (fun e => Bool.noConfusion (show (false : Bool) = true from e)) (fun _ => ?_); conv => whnf) | (refine And.intro (fun _ => ?_) (fun e => Bool.noConfusion (show (true : Bool) = false from e)); conv => whnf) | (refine And.intro (by first | exact True.intro | ((try dsimp only [CDiv, CMul, CDivN, CPow] at *) <;> omega) | ((try dsimp only [CDiv, CMul, CDivN, CPow] at *) <;> (simp only [List.length_map, List.length_append, List.length_cons, List.length_nil, List.length_reverse, strApp_len, len1, szl] at *) <;> omega) | rfl | exact of_decide_eq_true rfl) ?_; conv => whnf))
  refine forR_range (fun i m => ∃ (x5 x6 x7 x8 : Sl), m = ⟨[.val (.int c), .val (.int n), .val (.str "abcefghijklmnopqrstuvwxz"), .val (.int (c / 7 % (1 + c % 7))), .own (.lst ((lwNames c i).map .str)), x5, x6, x7, x8], gs⟩) ?_ ?_ ⟨.no, .no, .no, .no, rfl⟩
  · rintro m ⟨x5, x6, x7, x8, rfl⟩
    refine ⟨trivial, ?_⟩
    conv => whnf
    exact fin0 rfl h
  · rintro i m hi ⟨x5, x6, x7, x8, rfl⟩
    refine ⟨trivial, fun k hk => ?_⟩
    have hl := lwNames_len c i
    rw [lwNames_snoc] at hk
    (try conv => whnf); repeat (first | (refine And.intro (fun e => Bool.noConfusion (show (false : Bool) = true from e)) (fun _ => ?_); conv => whnf) | (refine And.intro (fun _ => ?_) (fun e => Bool.noConfusion (show (true : Bool) = false from e)); conv => whnf) | (refine And.intro (by first | exact True.intro | ((try dsimp only [CDiv, CMul, CDivN, CPow] at *) <;> omega) | ((try dsimp only [CDiv, CMul, CDivN, CPow] at *) <;> (simp only [List.length_map, List.length_append, List.length_cons, List.length_nil, List.length_reverse, strApp_len, len1, szl] at *) <;> omega) | rfl | exact of_decide_eq_true rfl) ?_; conv => whnf))
    refine forR_range (fun j m => ∃ (x7 x8 : Sl), m = ⟨[.val (.int c), .val (.int n), .val (.str "abcefghijklmnopqrstuvwxz"), .val (.int (c / 7 % (1 + c % 7))), .own (.lst ((lwNames c i).map .str)), .val (.int (0 + i)), .val (.str ⟨((List.range j).map (lwCode c i)).toArray⟩), x7, x8], gs⟩) ?_ ?_ ⟨_, _, rfl⟩
    · rintro m ⟨x7, x8, rfl⟩
      refine ⟨trivial, ?_⟩
      (try conv => whnf); repeat (first | (refine And.intro (fun e => Bool.noConfusion (show (false : Bool) = true from e)) (fun _ => ?_); conv => whnf) | (refine And.intro (fun _ => ?_) (fun e => Bool.noConfusion (show (true : Bool) = false from e)); conv => whnf) | (refine And.intro (by first | exact True.intro | ((try dsimp only [CDiv, CMul, CDivN, CPow] at *) <;> omega) | ((try dsimp only [CDiv, CMul, CDivN, CPow] at *) <;> (simp only [List.length_map, List.length_append, List.length_cons, List.length_nil, List.length_reverse, strApp_len, len1, szl] at *) <;> omega) | rfl | exact of_decide_eq_true rfl) ?_; conv => whnf))
      rw [List.map_append] at hk
      exact hk _ ⟨_, _, _, _, rfl⟩
    · rintro j m hj ⟨x7, x8, rfl⟩
      refine ⟨trivial, fun k hk => ?_⟩
      have hz : (⟨((List.range j).map (lwCode c i)).toArray⟩ : Str).length = j := by simp [Str.length]
      have e2 : ((List.range (j + 1)).map (lwCode c i)) = (List.range j).map (lwCode c i) ++ [lwCode c i j] := by simp [List.range_succ]
      rw [e2, ← str_snoc] at hk
      dsimp only at hj
      (try conv => whnf); repeat (first | (refine And.intro (fun e => Bool.noConfusion (show (false : Bool) = true from e)) (fun _ => ?_); conv => whnf) | (refine And.intro (fun _ => ?_) (fun e => Bool.noConfusion (show (true : Bool) = false from e)); conv => whnf) | (refine And.intro (by first | exact True.intro | ((try dsimp only [CDiv, CMul, CDivN, CPow] at *) <;> omega) | ((try dsimp only [CDiv, CMul, CDivN, CPow] at *) <;> (simp only [List.length_map, List.length_append, List.length_cons, List.length_nil, List.length_reverse, strApp_len, len1, szl] at *) <;> omega) | rfl | exact of_decide_eq_true rfl) ?_; conv => whnf))
      have hcode : ∀ s : Int, s = lwStep c i j → atI (Str.ofString "abcefghijklmnopqrstuvwxz").cps.toList ((c / 245 + s) % 24) = some (lwCode c i j) := by
        intro s hs
        subst hs
        have b1 : ((c / 245 + lwStep c i j) % 24).toNat < lwL.length := by rw [lwL_len]; omega
        have := at_nat b1
        have e3 : ((((c / 245 + lwStep c i j) % 24).toNat : Nat) : Int) = (c / 245 + lwStep c i j) % 24 := by omega
        rw [e3] at this
        unfold lwCode
        rw [List.getD_eq_getElem?_getD, List.getElem?_eq_getElem b1]
        exact this
      refine ⟨fun t => ?_, fun t => ?_⟩
      · have t : 0 + (j : Int) = c / 7 % (1 + c % 7) := by simpa using t
        (try conv => whnf); repeat (first | (refine And.intro (fun e => Bool.noConfusion (show (false : Bool) = true from e)) (fun _ => ?_); conv => whnf) | (refine And.intro (fun _ => ?_) (fun e => Bool.noConfusion (show (true : Bool) = false from e)); conv => whnf) | (refine And.intro (by first | exact True.intro | ((try dsimp only [CDiv, CMul, CDivN, CPow] at *) <;> omega) | ((try dsimp only [CDiv, CMul, CDivN, CPow] at *) <;> (simp only [List.length_map, List.length_append, List.length_cons, List.length_nil, List.length_reverse, strApp_len, len1, szl] at *) <;> omega) | rfl | exact of_decide_eq_true rfl) ?_; conv => whnf))
        refine bindO_of (hcode _ (by unfold lwStep; rw [if_pos (by omega)]; omega)) ?_
        (try conv => whnf); repeat (first | (refine And.intro (fun e => Bool.noConfusion (show (false : Bool) = true from e)) (fun _ => ?_); conv => whnf) | (refine And.intro (fun _ => ?_) (fun e => Bool.noConfusion (show (true : Bool) = false from e)); conv => whnf) | (refine And.intro (by first | exact True.intro | ((try dsimp only [CDiv, CMul, CDivN, CPow] at *) <;> omega) | ((try dsimp only [CDiv, CMul, CDivN, CPow] at *) <;> (simp only [List.length_map, List.length_append, List.length_cons, List.length_nil, List.length_reverse, strApp_len, len1, szl] at *) <;> omega) | rfl | exact of_decide_eq_true rfl) ?_; conv => whnf))
        exact hk _ ⟨_, _, rfl⟩
      · have t : ¬ 0 + (j : Int) = c / 7 % (1 + c % 7) := by simpa using t
        (try conv => whnf); repeat (first | (refine And.intro (fun e => Bool.noConfusion (show (false : Bool) = true from e)) (fun _ => ?_); conv => whnf) | (refine And.intro (fun _ => ?_) (fun e => Bool.noConfusion (show (true : Bool) = false from e)); conv => whnf) | (refine And.intro (by first | exact True.intro | ((try dsimp only [CDiv, CMul, CDivN, CPow] at *) <;> omega) | ((try dsimp only [CDiv, CMul, CDivN, CPow] at *) <;> (simp only [List.length_map, List.length_append, List.length_cons, List.length_nil, List.length_reverse, strApp_len, len1, szl] at *) <;> omega) | rfl | exact of_decide_eq_true rfl) ?_; conv => whnf))
        refine bindO_of (hcode _ (by unfold lwStep; rw [if_neg (by omega), Int.zero_add])) ?_
        (try conv => whnf); repeat (first | (refine And.intro (fun e => Bool.noConfusion (show (false : Bool) = true from e)) (fun _ => ?_); conv => whnf) | (refine And.intro (fun _ => ?_) (fun e => Bool.noConfusion (show (true : Bool) = false from e)); conv => whnf) | (refine And.intro (by first | exact True.intro | ((try dsimp only [CDiv, CMul, CDivN, CPow] at *) <;> omega) | ((try dsimp only [CDiv, CMul, CDivN, CPow] at *) <;> (simp only [List.length_map, List.length_append, List.length_cons, List.length_nil, List.length_reverse, strApp_len, len1, szl] at *) <;> omega) | rfl | exact of_decide_eq_true rfl) ?_; conv => whnf))
        exact hk _ ⟨_, _, rfl⟩

def sp__law_notes : FV := fun ds gs Q _ => ∃ c : Int, ds = [.int c] ∧ ∀ nts : List (Int × Int), nts.length = 8 → (∀ k p, nts[k]? = some p → ntOk k p) → Q (.tmp (.lst (nts.map ntD))) gs

def fb__law_notes : FS := sSeq (sAsg 1 (fLst (aNil)))
  (sSeq (sFor (iRange1 (fC (.int 8))) (gNm 2) (sSeq (sAsg 3 (fOp gIx (fLst (aCons (fC (.str "w")) (aCons (fC (.str "w")) (aCons (fC (.str "nwn")) (aCons (fC (.str "wnw")) (aCons (fC (.str "wwn")) (aCons (fC (.str "n")) (aCons (fC (.str "wn")) (aCons (fC (.str "www")) (aNil)))))))))) (fVar 2)))
  (sSeq (sAsg 4 (fLc (iRange1 (fUn gLen (fVar 3))) (gNm 8) (fTest (fOp (gEq false) (fOp gIx (fVar 3) (fVar 8)) (fC (.str "w")))) (fVar 8) [8]))
  (sSeq (sAsg 5 (fOp gMod (fOp gMul (fOp gMod (fVar 0) (fC (.int 2147483647))) (fOp gAdd (fOp gMul (fVar 2) (fVar 2)) (fC (.int 48271)))) (fC (.int 1000003))))
  (sSeq (sAsg 6 (fUn gNeg (fC (.int 1))))
  (sSeq (sAsg 7 (fUn gNeg (fC (.int 1))))
  (sSeq (sIf (fAnd (fTest (fOp (gEq true) (fVar 4) (fLst (aNil)))) (fTest (fOp gGt (fOp gMod (fVar 5) (fC (.int 3))) (fC (.int 0))))) (sAsg 6 (fOp gIx (fVar 4) (fOp gMod (fOp gDiv (fVar 5) (fC (.int 3))) (fUn gLen (fVar 4))))) (sNil))
  (sSeq (sIf (fAnd (fTest (fOp (gEq true) (fVar 4) (fLst (aNil)))) (fTest (fOp gGt (fOp gMod (fOp gDiv (fVar 5) (fC (.int 9))) (fC (.int 3))) (fC (.int 0))))) (sAsg 7 (fOp gIx (fVar 4) (fOp gMod (fOp gDiv (fVar 5) (fC (.int 27))) (fUn gLen (fVar 4))))) (sNil))
  (sExpr (fMm "list" gAppend (fVar 1) (aCons (fTup (aCons (fVar 6) (aCons (fVar 7) (aNil)))) (aNil))))))))))))
  (sRet (fVar 1)))
theorem bd__law_notes : ∀ ds gs Q Qe, sp__law_notes ds gs Q Qe → bodyV 9 fb__law_notes ds gs Q Qe := by
  rintro ds gs Q Qe ⟨c, rfl, h⟩
  (try conv => whnf); repeat (first | (refine And.intro (fun e => Bool.noConfusion (show (false : Bool) = true from e)) (fun _ => ?_); conv => whnf) | (refine And.intro (fun _ => ?_) (fun e => Bool.noConfusion (show (true : Bool) = false from e)); conv => whnf) | (refine And.intro (by first | exact True.intro | ((try dsimp only [CDiv, CMul, CDivN, CPow] at *) <;> omega) | ((try dsimp only [CDiv, CMul, CDivN, CPow] at *) <;> (simp only [List.length_map, List.length_append, List.length_cons, List.length_nil, List.length_reverse, strApp_len, len1, szl] at *) <;> omega) | rfl | exact of_decide_eq_true rfl) ?_; conv => whnf))
  refine forR_range (fun i m => ∃ (nts : List (Int × Int)) (x2 x3 x4 x5 x6 x7 x8 : Sl), nts.length = i ∧ (∀ k p, nts[k]? = some p → ntOk k p) ∧ m = ⟨[.val (.int c), .own (.lst (nts.map ntD)), x2, x3, x4, x5, x6, x7, x8], gs⟩) ?_ ?_ ⟨[], .no, .no, .no, .no, .no, .no, .no, rfl, fun k p h => (by simp at h), rfl⟩
  · rintro m ⟨nts, x2, x3, x4, x5, x6, x7, x8, hl, hn, rfl⟩
    refine ⟨trivial, ?_⟩
    (try conv => whnf); repeat (first | (refine And.intro (fun e => Bool.noConfusion (show (false : Bool) = true from e)) (fun _ => ?_); conv => whnf) | (refine And.intro (fun _ => ?_) (fun e => Bool.noConfusion (show (true : Bool) = false from e)); conv => whnf) | (refine And.intro (by first | exact True.intro | ((try dsimp only [CDiv, CMul, CDivN, CPow] at *) <;> omega) | ((try dsimp only [CDiv, CMul, CDivN, CPow] at *) <;> (simp only [List.length_map, List.length_append, List.length_cons, List.length_nil, List.length_reverse, strApp_len, len1, szl] at *) <;> omega) | rfl | exact of_decide_eq_true rfl) ?_; conv => whnf))
    exact fin0 rfl (h nts hl hn)
  · rintro i m hi ⟨nts, x2, x3, x4, x5, x6, x7, x8, hl, hn, rfl⟩
    have hi : i < 8 := hi
    have h8 : shpL.length = 8 := rfl
    have hs : shpL[i]? = some shpL[i] := List.getElem?_eq_getElem (by omega)
    have h3 : shpL[i].cps.toList.length ≤ 3 := by
      have : ∀ s ∈ shpL, s.cps.toList.length ≤ 3 := by decide
      exact this _ (List.getElem_mem (by omega))
    have hsl : shpL[i].length = shpL[i].cps.toList.length := by simp [Str.length]
    refine ⟨trivial, fun k hk => ?_⟩
    generalize shpL[i] = s at *
    have hfin : ∀ (a y : Int), (y = -1 ∨ ∃ j : Nat, y = j ∧ s.cps.toList[j]? = some 119) → ∀ k p, (nts ++ [(a, y)])[k]? = some p → ntOk k p := by
      intro a y hy k p hp
      by_cases hkl : k < nts.length
      · rw [List.getElem?_append_left hkl] at hp
        exact hn k p hp
      · have hk2 := (List.getElem?_eq_some_iff.mp hp).1
        have : k = nts.length := by simp at hk2; omega
        subst this
        simp at hp
        subst hp
        rcases hy with hy | ⟨j, h1, h2⟩
        · exact .inl hy
        · exact .inr ⟨j, s, h1, by rw [hl]; exact hs, h2⟩
    (try conv => whnf); repeat (first | (refine And.intro (fun e => Bool.noConfusion (show (false : Bool) = true from e)) (fun _ => ?_); conv => whnf) | (refine And.intro (fun _ => ?_) (fun e => Bool.noConfusion (show (true : Bool) = false from e)); conv => whnf) | (refine And.intro (by first | exact True.intro | ((try dsimp only [CDiv, CMul, CDivN, CPow] at *) <;> omega) | ((try dsimp only [CDiv, CMul, CDivN, CPow] at *) <;> (simp only [List.length_map, List.length_append, List.length_cons, List.length_nil, List.length_reverse, strApp_len, len1, szl] at *) <;> omega) | rfl | exact of_decide_eq_true rfl) ?_; conv => whnf))
    refine bindO_atk (xs := shpL) D.str (n := i) (by (first | ((try dsimp only [CDiv, CMul, CDivN, CPow] at *) <;> omega) | ((try dsimp only [CDiv, CMul, CDivN, CPow] at *) <;> (simp only [List.length_map, List.length_append, List.length_cons, List.length_nil, List.length_reverse, strApp_len, len1, szl] at *) <;> omega))) hs ?_
    (try conv => whnf); repeat (first | (refine And.intro (fun e => Bool.noConfusion (show (false : Bool) = true from e)) (fun _ => ?_); conv => whnf) | (refine And.intro (fun _ => ?_) (fun e => Bool.noConfusion (show (true : Bool) = false from e)); conv => whnf) | (refine And.intro (by first | exact True.intro | ((try dsimp only [CDiv, CMul, CDivN, CPow] at *) <;> omega) | ((try dsimp only [CDiv, CMul, CDivN, CPow] at *) <;> (simp only [List.length_map, List.length_append, List.length_cons, List.length_nil, List.length_reverse, strApp_len, len1, szl] at *) <;> omega) | rfl | exact of_decide_eq_true rfl) ?_; conv => whnf))
    refine lcR_range (β := Int) D.int (fun i2 acc m => acc.length ≤ i2 ∧ (∀ x ∈ acc, ∃ j : Nat, x = j ∧ s.cps.toList[j]? = some 119) ∧ m = ⟨[.val (.int c), .own (.lst (nts.map ntD)), .val (.int (0 + i)), .val (.str s), x4, x5, x6, x7, .no], gs⟩) ?_ ?_ (acc := []) ⟨Nat.le_refl _, fun x hx => (by cases hx), rfl⟩
    · rintro acc m ⟨ha, hgood, rfl⟩
      refine ⟨trivial, ?_⟩
      have ha : acc.length ≤ 3 := by omega
      (try conv => whnf); repeat (first | (refine And.intro (fun e => Bool.noConfusion (show (false : Bool) = true from e)) (fun _ => ?_); conv => whnf) | (refine And.intro (fun _ => ?_) (fun e => Bool.noConfusion (show (true : Bool) = false from e)); conv => whnf) | (refine And.intro (by first | exact True.intro | ((try dsimp only [CDiv, CMul, CDivN, CPow] at *) <;> omega) | ((try dsimp only [CDiv, CMul, CDivN, CPow] at *) <;> (simp only [List.length_map, List.length_append, List.length_cons, List.length_nil, List.length_reverse, strApp_len, len1, szl] at *) <;> omega) | rfl | exact of_decide_eq_true rfl) ?_; conv => whnf))
      refine bindO_of (eqO_e acc [] (by decide)) ?_
      (try conv => whnf); repeat (first | (refine And.intro (fun e => Bool.noConfusion (show (false : Bool) = true from e)) (fun _ => ?_); conv => whnf) | (refine And.intro (fun _ => ?_) (fun e => Bool.noConfusion (show (true : Bool) = false from e)); conv => whnf) | (refine And.intro (by first | exact True.intro | ((try dsimp only [CDiv, CMul, CDivN, CPow] at *) <;> omega) | ((try dsimp only [CDiv, CMul, CDivN, CPow] at *) <;> (simp only [List.length_map, List.length_append, List.length_cons, List.length_nil, List.length_reverse, strApp_len, len1, szl] at *) <;> omega) | rfl | exact of_decide_eq_true rfl) ?_; conv => whnf))
      refine And.intro (fun c1 => ?_) (fun c1 => ?_)
      · (try conv => whnf); repeat (first | (refine And.intro (fun e => Bool.noConfusion (show (false : Bool) = true from e)) (fun _ => ?_); conv => whnf) | (refine And.intro (fun _ => ?_) (fun e => Bool.noConfusion (show (true : Bool) = false from e)); conv => whnf) | (refine And.intro (by first | exact True.intro | ((try dsimp only [CDiv, CMul, CDivN, CPow] at *) <;> omega) | ((try dsimp only [CDiv, CMul, CDivN, CPow] at *) <;> (simp only [List.length_map, List.length_append, List.length_cons, List.length_nil, List.length_reverse, strApp_len, len1, szl] at *) <;> omega) | rfl | exact of_decide_eq_true rfl) ?_; conv => whnf))
        refine And.intro (fun c2 => ?_) (fun c2 => ?_)
        · have hne : 0 < acc.length := List.length_pos_iff.mpr (by simpa using c1)
          have z1 : ∀ u : Int, 0 ≤ u % (acc.length : Int) := fun u => Int.emod_nonneg u (by omega)
          have z2 : ∀ u : Int, u % (acc.length : Int) < acc.length := fun u => Int.emod_lt_of_pos u (by omega)
          (try conv => whnf); repeat (first | (refine And.intro (fun e => Bool.noConfusion (show (false : Bool) = true from e)) (fun _ => ?_); conv => whnf) | (refine And.intro (fun _ => ?_) (fun e => Bool.noConfusion (show (true : Bool) = false from e)); conv => whnf) | (refine And.intro (by first | exact True.intro | ((try dsimp only [CDiv, CMul, CDivN, CPow] at *) <;> omega) | ((try dsimp only [CDiv, CMul, CDivN, CPow] at *) <;> (simp only [List.length_map, List.length_append, List.length_cons, List.length_nil, List.length_reverse, strApp_len, len1, szl] at *) <;> omega) | rfl | exact of_decide_eq_true rfl) ?_; conv => whnf))
          refine bindO_atm (xs := acc) D.int (by dsimp only; rw [List.length_map]; exact z1 _) (by dsimp only; rw [List.length_map]; exact z2 _) fun y1 hy1 => ?_
          (try conv => whnf); repeat (first | (refine And.intro (fun e => Bool.noConfusion (show (false : Bool) = true from e)) (fun _ => ?_); conv => whnf) | (refine And.intro (fun _ => ?_) (fun e => Bool.noConfusion (show (true : Bool) = false from e)); conv => whnf) | (refine And.intro (by first | exact True.intro | ((try dsimp only [CDiv, CMul, CDivN, CPow] at *) <;> omega) | ((try dsimp only [CDiv, CMul, CDivN, CPow] at *) <;> (simp only [List.length_map, List.length_append, List.length_cons, List.length_nil, List.length_reverse, strApp_len, len1, szl] at *) <;> omega) | rfl | exact of_decide_eq_true rfl) ?_; conv => whnf))
          refine bindO_of (eqO_e acc [] (by decide)) ?_
          (try conv => whnf); repeat (first | (refine And.intro (fun e => Bool.noConfusion (show (false : Bool) = true from e)) (fun _ => ?_); conv => whnf) | (refine And.intro (fun _ => ?_) (fun e => Bool.noConfusion (show (true : Bool) = false from e)); conv => whnf) | (refine And.intro (by first | exact True.intro | ((try dsimp only [CDiv, CMul, CDivN, CPow] at *) <;> omega) | ((try dsimp only [CDiv, CMul, CDivN, CPow] at *) <;> (simp only [List.length_map, List.length_append, List.length_cons, List.length_nil, List.length_reverse, strApp_len, len1, szl] at *) <;> omega) | rfl | exact of_decide_eq_true rfl) ?_; conv => whnf))
          refine And.intro (fun c1 => ?_) (fun c1 => ?_)
          · (try conv => whnf); repeat (first | (refine And.intro (fun e => Bool.noConfusion (show (false : Bool) = true from e)) (fun _ => ?_); conv => whnf) | (refine And.intro (fun _ => ?_) (fun e => Bool.noConfusion (show (true : Bool) = false from e)); conv => whnf) | (refine And.intro (by first | exact True.intro | ((try dsimp only [CDiv, CMul, CDivN, CPow] at *) <;> omega) | ((try dsimp only [CDiv, CMul, CDivN, CPow] at *) <;> (simp only [List.length_map, List.length_append, List.length_cons, List.length_nil, List.length_reverse, strApp_len, len1, szl] at *) <;> omega) | rfl | exact of_decide_eq_true rfl) ?_; conv => whnf))
            refine And.intro (fun c2 => ?_) (fun c2 => ?_)
            · have hne : 0 < acc.length := List.length_pos_iff.mpr (by simpa using c1)
              have z1 : ∀ u : Int, 0 ≤ u % (acc.length : Int) := fun u => Int.emod_nonneg u (by omega)
              have z2 : ∀ u : Int, u % (acc.length : Int) < acc.length := fun u => Int.emod_lt_of_pos u (by omega)
              (try conv => whnf); repeat (first | (refine And.intro (fun e => Bool.noConfusion (show (false : Bool) = true from e)) (fun _ => ?_); conv => whnf) | (refine And.intro (fun _ => ?_) (fun e => Bool.noConfusion (show (true : Bool) = false from e)); conv => whnf) | (refine And.intro (by first | exact True.intro | ((try dsimp only [CDiv, CMul, CDivN, CPow] at *) <;> omega) | ((try dsimp only [CDiv, CMul, CDivN, CPow] at *) <;> (simp only [List.length_map, List.length_append, List.length_cons, List.length_nil, List.length_reverse, strApp_len, len1, szl] at *) <;> omega) | rfl | exact of_decide_eq_true rfl) ?_; conv => whnf))
              refine bindO_atm (xs := acc) D.int (by dsimp only; rw [List.length_map]; exact z1 _) (by dsimp only; rw [List.length_map]; exact z2 _) fun y hy => ?_
              (try conv => whnf); repeat (first | (refine And.intro (fun e => Bool.noConfusion (show (false : Bool) = true from e)) (fun _ => ?_); conv => whnf) | (refine And.intro (fun _ => ?_) (fun e => Bool.noConfusion (show (true : Bool) = false from e)); conv => whnf) | (refine And.intro (by first | exact True.intro | ((try dsimp only [CDiv, CMul, CDivN, CPow] at *) <;> omega) | ((try dsimp only [CDiv, CMul, CDivN, CPow] at *) <;> (simp only [List.length_map, List.length_append, List.length_cons, List.length_nil, List.length_reverse, strApp_len, len1, szl] at *) <;> omega) | rfl | exact of_decide_eq_true rfl) ?_; conv => whnf))
              refine hk _ ?_
              refine ⟨nts ++ [(y1, y)], _, _, _, _, _, _, _, by simp [hl], hfin _ _ (.inr (hgood y hy)), by rw [List.map_append]; rfl⟩
            · (try conv => whnf); repeat (first | (refine And.intro (fun e => Bool.noConfusion (show (false : Bool) = true from e)) (fun _ => ?_); conv => whnf) | (refine And.intro (fun _ => ?_) (fun e => Bool.noConfusion (show (true : Bool) = false from e)); conv => whnf) | (refine And.intro (by first | exact True.intro | ((try dsimp only [CDiv, CMul, CDivN, CPow] at *) <;> omega) | ((try dsimp only [CDiv, CMul, CDivN, CPow] at *) <;> (simp only [List.length_map, List.length_append, List.length_cons, List.length_nil, List.length_reverse, strApp_len, len1, szl] at *) <;> omega) | rfl | exact of_decide_eq_true rfl) ?_; conv => whnf))
              refine hk _ ?_
              refine ⟨nts ++ [(y1, -1)], _, _, _, _, _, _, _, by simp [hl], hfin _ _ (.inl rfl), by rw [List.map_append]; rfl⟩
          · (try conv => whnf); repeat (first | (refine And.intro (fun e => Bool.noConfusion (show (false : Bool) = true from e)) (fun _ => ?_); conv => whnf) | (refine And.intro (fun _ => ?_) (fun e => Bool.noConfusion (show (true : Bool) = false from e)); conv => whnf) | (refine And.intro (by first | exact True.intro | ((try dsimp only [CDiv, CMul, CDivN, CPow] at *) <;> omega) | ((try dsimp only [CDiv, CMul, CDivN, CPow] at *) <;> (simp only [List.length_map, List.length_append, List.length_cons, List.length_nil, List.length_reverse, strApp_len, len1, szl] at *) <;> omega) | rfl | exact of_decide_eq_true rfl) ?_; conv => whnf))
            refine hk _ ?_
            refine ⟨nts ++ [(y1, -1)], _, _, _, _, _, _, _, by simp [hl], hfin _ _ (.inl rfl), by rw [List.map_append]; rfl⟩
        · (try conv => whnf); repeat (first | (refine And.intro (fun e => Bool.noConfusion (show (false : Bool) = true from e)) (fun _ => ?_); conv => whnf) | (refine And.intro (fun _ => ?_) (fun e => Bool.noConfusion (show (true : Bool) = false from e)); conv => whnf) | (refine And.intro (by first | exact True.intro | ((try dsimp only [CDiv, CMul, CDivN, CPow] at *) <;> omega) | ((try dsimp only [CDiv, CMul, CDivN, CPow] at *) <;> (simp only [List.length_map, List.length_append, List.length_cons, List.length_nil, List.length_reverse, strApp_len, len1, szl] at *) <;> omega) | rfl | exact of_decide_eq_true rfl) ?_; conv => whnf))
          refine bindO_of (eqO_e acc [] (by decide)) ?_
          (try conv => whnf); repeat (first | (refine And.intro (fun e => Bool.noConfusion (show (false : Bool) = true from e)) (fun _ => ?_); conv => whnf) | (refine And.intro (fun _ => ?_) (fun e => Bool.noConfusion (show (true : Bool) = false from e)); conv => whnf) | (refine And.intro (by first | exact True.intro | ((try dsimp only [CDiv, CMul, CDivN, CPow] at *) <;> omega) | ((try dsimp only [CDiv, CMul, CDivN, CPow] at *) <;> (simp only [List.length_map, List.length_append, List.length_cons, List.length_nil, List.length_reverse, strApp_len, len1, szl] at *) <;> omega) | rfl | exact of_decide_eq_true rfl) ?_; conv => whnf))
          refine And.intro (fun c1 => ?_) (fun c1 => ?_)
          · (try conv => whnf); repeat (first | (refine And.intro (fun e => Bool.noConfusion (show (false : Bool) = true from e)) (fun _ => ?_); conv => whnf) | (refine And.intro (fun _ => ?_) (fun e => Bool.noConfusion (show (true : Bool) = false from e)); conv => whnf) | (refine And.intro (by first | exact True.intro | ((try dsimp only [CDiv, CMul, CDivN, CPow] at *) <;> omega) | ((try dsimp only [CDiv, CMul, CDivN, CPow] at *) <;> (simp only [List.length_map, List.length_append, List.length_cons, List.length_nil, List.length_reverse, strApp_len, len1, szl] at *) <;> omega) | rfl | exact of_decide_eq_true rfl) ?_; conv => whnf))
            refine And.intro (fun c2 => ?_) (fun c2 => ?_)
            · have hne : 0 < acc.length := List.length_pos_iff.mpr (by simpa using c1)
              have z1 : ∀ u : Int, 0 ≤ u % (acc.length : Int) := fun u => Int.emod_nonneg u (by omega)
              have z2 : ∀ u : Int, u % (acc.length : Int) < acc.length := fun u => Int.emod_lt_of_pos u (by omega)
              (try conv => whnf); repeat (first | (refine And.intro (fun e => Bool.noConfusion (show (false : Bool) = true from e)) (fun _ => ?_); conv => whnf) | (refine And.intro (fun _ => ?_) (fun e => Bool.noConfusion (show (true : Bool) = false from e)); conv => whnf) | (refine And.intro (by first | exact True.intro | ((try dsimp only [CDiv, CMul, CDivN, CPow] at *) <;> omega) | ((try dsimp only [CDiv, CMul, CDivN, CPow] at *) <;> (simp only [List.length_map, List.length_append, List.length_cons, List.length_nil, List.length_reverse, strApp_len, len1, szl] at *) <;> omega) | rfl | exact of_decide_eq_true rfl) ?_; conv => whnf))
              refine bindO_atm (xs := acc) D.int (by dsimp only; rw [List.length_map]; exact z1 _) (by dsimp only; rw [List.length_map]; exact z2 _) fun y hy => ?_
              (try conv => whnf); repeat (first | (refine And.intro (fun e => Bool.noConfusion (show (false : Bool) = true from e)) (fun _ => ?_); conv => whnf) | (refine And.intro (fun _ => ?_) (fun e => Bool.noConfusion (show (true : Bool) = false from e)); conv => whnf) | (refine And.intro (by first | exact True.intro | ((try dsimp only [CDiv, CMul, CDivN, CPow] at *) <;> omega) | ((try dsimp only [CDiv, CMul, CDivN, CPow] at *) <;> (simp only [List.length_map, List.length_append, List.length_cons, List.length_nil, List.length_reverse, strApp_len, len1, szl] at *) <;> omega) | rfl | exact of_decide_eq_true rfl) ?_; conv => whnf))
              refine hk _ ?_
              refine ⟨nts ++ [(-1, y)], _, _, _, _, _, _, _, by simp [hl], hfin _ _ (.inr (hgood y hy)), by rw [List.map_append]; rfl⟩
            · (try conv => whnf); repeat (first | (refine And.intro (fun e => Bool.noConfusion (show (false : Bool) = true from e)) (fun _ => ?_); conv => whnf) | (refine And.intro (fun _ => ?_) (fun e => Bool.noConfusion (show (true : Bool) = false from e)); conv => whnf) | (refine And.intro (by first | exact True.intro | ((try dsimp only [CDiv, CMul, CDivN, CPow] at *) <;> omega) | ((try dsimp only [CDiv, CMul, CDivN, CPow] at *) <;> (simp only [List.length_map, List.length_append, List.length_cons, List.length_nil, List.length_reverse, strApp_len, len1, szl] at *) <;> omega) | rfl | exact of_decide_eq_true rfl) ?_; conv => whnf))
              refine hk _ ?_
              refine ⟨nts ++ [(-1, -1)], _, _, _, _, _, _, _, by simp [hl], hfin _ _ (.inl rfl), by rw [List.map_append]; rfl⟩
          · (try conv => whnf); repeat (first | (refine And.intro (fun e => Bool.noConfusion (show (false : Bool) = true from e)) (fun _ => ?_); conv => whnf) | (refine And.intro (fun _ => ?_) (fun e => Bool.noConfusion (show (true : Bool) = false from e)); conv => whnf) | (refine And.intro (by first | exact True.intro | ((try dsimp only [CDiv, CMul, CDivN, CPow] at *) <;> omega) | ((try dsimp only [CDiv, CMul, CDivN, CPow] at *) <;> (simp only [List.length_map, List.length_append, List.length_cons, List.length_nil, List.length_reverse, strApp_len, len1, szl] at *) <;> omega) | rfl | exact of_decide_eq_true rfl) ?_; conv => whnf))
            refine hk _ ?_
            refine ⟨nts ++ [(-1, -1)], _, _, _, _, _, _, _, by simp [hl], hfin _ _ (.inl rfl), by rw [List.map_append]; rfl⟩
      · (try conv => whnf); repeat (first | (refine And.intro (fun e => Bool.noConfusion (show (false : Bool) = true from e)) (fun _ => ?_); conv => whnf) | (refine And.intro (fun _ => ?_) (fun e => Bool.noConfusion (show (true : Bool) = false from e)); conv => whnf) | (refine And.intro (by first | exact True.intro | ((try dsimp only [CDiv, CMul, CDivN, CPow] at *) <;> omega) | ((try dsimp only [CDiv, CMul, CDivN, CPow] at *) <;> (simp only [List.length_map, List.length_append, List.length_cons, List.length_nil, List.length_reverse, strApp_len, len1, szl] at *) <;> omega) | rfl | exact of_decide_eq_true rfl) ?_; conv => whnf))
        refine bindO_of (eqO_e acc [] (by decide)) ?_
        (try conv => whnf); repeat (first | (refine And.intro (fun e => Bool.noConfusion (show (false : Bool) = true from e)) (fun _ => ?_); conv => whnf) | (refine And.intro (fun _ => ?_) (fun e => Bool.noConfusion (show (true : Bool) = false from e)); conv => whnf) | (refine And.intro (by first | exact True.intro | ((try dsimp only [CDiv, CMul, CDivN, CPow] at *) <;> omega) | ((try dsimp only [CDiv, CMul, CDivN, CPow] at *) <;> (simp only [List.length_map, List.length_append, List.length_cons, List.length_nil, List.length_reverse, strApp_len, len1, szl] at *) <;> omega) | rfl | exact of_decide_eq_true rfl) ?_; conv => whnf))
        refine And.intro (fun c1 => ?_) (fun c1 => ?_)
        · (try conv => whnf); repeat (first | (refine And.intro (fun e => Bool.noConfusion (show (false : Bool) = true from e)) (fun _ => ?_); conv => whnf) | (refine And.intro (fun _ => ?_) (fun e => Bool.noConfusion (show (true : Bool) = false from e)); conv => whnf) | (refine And.intro (by first | exact True.intro | ((try dsimp only [CDiv, CMul, CDivN, CPow] at *) <;> omega) | ((try dsimp only [CDiv, CMul, CDivN, CPow] at *) <;> (simp only [List.length_map, List.length_append, List.length_cons, List.length_nil, List.length_reverse, strApp_len, len1, szl] at *) <;> omega) | rfl | exact of_decide_eq_true rfl) ?_; conv => whnf))
          refine And.intro (fun c2 => ?_) (fun c2 => ?_)
          · have hne : 0 < acc.length := List.length_pos_iff.mpr (by simpa using c1)
            have z1 : ∀ u : Int, 0 ≤ u % (acc.length : Int) := fun u => Int.emod_nonneg u (by omega)
            have z2 : ∀ u : Int, u % (acc.length : Int) < acc.length := fun u => Int.emod_lt_of_pos u (by omega)
            (try conv => whnf); repeat (first | (refine And.intro (fun e => Bool.noConfusion (show (false : Bool) = true from e)) (fun _ => ?_); conv => whnf) | (refine And.intro (fun _ => ?_) (fun e => Bool.noConfusion (show (true : Bool) = false from e)); conv => whnf) | (refine And.intro (by first | exact True.intro | ((try dsimp only [CDiv, CMul, CDivN, CPow] at *) <;> omega) | ((try dsimp only [CDiv, CMul, CDivN, CPow] at *) <;> (simp only [List.length_map, List.length_append, List.length_cons, List.length_nil, List.length_reverse, strApp_len, len1, szl] at *) <;> omega) | rfl | exact of_decide_eq_true rfl) ?_; conv => whnf))
            refine bindO_atm (xs := acc) D.int (by dsimp only; rw [List.length_map]; exact z1 _) (by dsimp only; rw [List.length_map]; exact z2 _) fun y hy => ?_
            (try conv => whnf); repeat (first | (refine And.intro (fun e => Bool.noConfusion (show (false : Bool) = true from e)) (fun _ => ?_); conv => whnf) | (refine And.intro (fun _ => ?_) (fun e => Bool.noConfusion (show (true : Bool) = false from e)); conv => whnf) | (refine And.intro (by first | exact True.intro | ((try dsimp only [CDiv, CMul, CDivN, CPow] at *) <;> omega) | ((try dsimp only [CDiv, CMul, CDivN, CPow] at *) <;> (simp only [List.length_map, List.length_append, List.length_cons, List.length_nil, List.length_reverse, strApp_len, len1, szl] at *) <;> omega) | rfl | exact of_decide_eq_true rfl) ?_; conv => whnf))
            refine hk _ ?_
            refine ⟨nts ++ [(-1, y)], _, _, _, _, _, _, _, by simp [hl], hfin _ _ (.inr (hgood y hy)), by rw [List.map_append]; rfl⟩
          · (try conv => whnf); repeat (first | (refine And.intro (fun e => Bool.noConfusion (show (false : Bool) = true from e)) (fun _ => ?_); conv => whnf) | (refine And.intro (fun _ => ?_) (fun e => Bool.noConfusion (show (true : Bool) = false from e)); conv => whnf) | (refine And.intro (by first | exact True.intro | ((try dsimp only [CDiv, CMul, CDivN, CPow] at *) <;> omega) | ((try dsimp only [CDiv, CMul, CDivN, CPow] at *) <;> (simp only [List.length_map, List.length_append, List.length_cons, List.length_nil, List.length_reverse, strApp_len, len1, szl] at *) <;> omega) | rfl | exact of_decide_eq_true rfl) ?_; conv => whnf))
            refine hk _ ?_
            refine ⟨nts ++ [(-1, -1)], _, _, _, _, _, _, _, by simp [hl], hfin _ _ (.inl rfl), by rw [List.map_append]; rfl⟩
        · (try conv => whnf); repeat (first | (refine And.intro (fun e => Bool.noConfusion (show (false : Bool) = true from e)) (fun _ => ?_); conv => whnf) | (refine And.intro (fun _ => ?_) (fun e => Bool.noConfusion (show (true : Bool) = false from e)); conv => whnf) | (refine And.intro (by first | exact True.intro | ((try dsimp only [CDiv, CMul, CDivN, CPow] at *) <;> omega) | ((try dsimp only [CDiv, CMul, CDivN, CPow] at *) <;> (simp only [List.length_map, List.length_append, List.length_cons, List.length_nil, List.length_reverse, strApp_len, len1, szl] at *) <;> omega) | rfl | exact of_decide_eq_true rfl) ?_; conv => whnf))
          refine hk _ ?_
          refine ⟨nts ++ [(-1, -1)], _, _, _, _, _, _, _, by simp [hl], hfin _ _ (.inl rfl), by rw [List.map_append]; rfl⟩
    · rintro j acc m hj ⟨ha, hgood, rfl⟩
      have hj : j < s.cps.toList.length := by omega
      have hcj : s.cps.toList[j]? = some s.cps.toList[j] := List.getElem?_eq_getElem hj
      refine ⟨trivial, fun k hk => ?_⟩
      (try conv => whnf); repeat (first | (refine And.intro (fun e => Bool.noConfusion (show (false : Bool) = true from e)) (fun _ => ?_); conv => whnf) | (refine And.intro (fun _ => ?_) (fun e => Bool.noConfusion (show (true : Bool) = false from e)); conv => whnf) | (refine And.intro (by first | exact True.intro | ((try dsimp only [CDiv, CMul, CDivN, CPow] at *) <;> omega) | ((try dsimp only [CDiv, CMul, CDivN, CPow] at *) <;> (simp only [List.length_map, List.length_append, List.length_cons, List.length_nil, List.length_reverse, strApp_len, len1, szl] at *) <;> omega) | rfl | exact of_decide_eq_true rfl) ?_; conv => whnf))
      refine bindO_of (show atI s.cps.toList (0 + (j : Int)) = some s.cps.toList[j] from by rw [Int.zero_add]; exact atI_nat hcj) ?_
      (try conv => whnf); repeat (first | (refine And.intro (fun e => Bool.noConfusion (show (false : Bool) = true from e)) (fun _ => ?_); conv => whnf) | (refine And.intro (fun _ => ?_) (fun e => Bool.noConfusion (show (true : Bool) = false from e)); conv => whnf) | (refine And.intro (by first | exact True.intro | ((try dsimp only [CDiv, CMul, CDivN, CPow] at *) <;> omega) | ((try dsimp only [CDiv, CMul, CDivN, CPow] at *) <;> (simp only [List.length_map, List.length_append, List.length_cons, List.length_nil, List.length_reverse, strApp_len, len1, szl] at *) <;> omega) | rfl | exact of_decide_eq_true rfl) ?_; conv => whnf))
      refine And.intro (fun c1 => ?_) (fun c1 => ?_)
      · have c1 : (⟨#[s.cps.toList[j]]⟩ : Str) = Str.ofString "w" := by simpa using c1
        have e119 : s.cps.toList[j] = 119 := by
          have e2 : [s.cps.toList[j]] = [119] := congrArg (fun z : Str => z.cps.toList) c1
          simpa using e2
        (try conv => whnf); repeat (first | (refine And.intro (fun e => Bool.noConfusion (show (false : Bool) = true from e)) (fun _ => ?_); conv => whnf) | (refine And.intro (fun _ => ?_) (fun e => Bool.noConfusion (show (true : Bool) = false from e)); conv => whnf) | (refine And.intro (by first | exact True.intro | ((try dsimp only [CDiv, CMul, CDivN, CPow] at *) <;> omega) | ((try dsimp only [CDiv, CMul, CDivN, CPow] at *) <;> (simp only [List.length_map, List.length_append, List.length_cons, List.length_nil, List.length_reverse, strApp_len, len1, szl] at *) <;> omega) | rfl | exact of_decide_eq_true rfl) ?_; conv => whnf))
        have z := hk (acc ++ [0 + (j : Int)]) _ ⟨by simp; omega, fun x hx => ?_, rfl⟩
        · rw [List.map_append] at z
          exact z
        · rcases List.mem_append.mp hx with y | y
          · exact hgood x y
          · simp at y; subst y; exact ⟨j, rfl, by rw [hcj, e119]⟩
      · (try conv => whnf); repeat (first | (refine And.intro (fun e => Bool.noConfusion (show (false : Bool) = true from e)) (fun _ => ?_); conv => whnf) | (refine And.intro (fun _ => ?_) (fun e => Bool.noConfusion (show (true : Bool) = false from e)); conv => whnf) | (refine And.intro (by first | exact True.intro | ((try dsimp only [CDiv, CMul, CDivN, CPow] at *) <;> omega) | ((try dsimp only [CDiv, CMul, CDivN, CPow] at *) <;> (simp only [List.length_map, List.length_append, List.length_cons, List.length_nil, List.length_reverse, strApp_len, len1, szl] at *) <;> omega) | rfl | exact of_decide_eq_true rfl) ?_; conv => whnf))
        exact hk acc _ ⟨by omega, hgood, rfl⟩

/-- a drawn row: its rule is there; it has as many parts as its shape has signs; a text stands where the shape tells a word -/
def rOk (r : TRow) : Prop := ∃ s : Str, shpL[r.rule]? = some s ∧ r.parts.length = s.cps.toList.length ∧ ∀ j : Nat, s.cps.toList[j]? = some 119 → ∃ (q : Int) (t : Str), (r.parts : List (Int × Option Str))[j]? = some (q, some t)
theorem bOk_of {notes : List (Int × Int)} (h8 : notes.length = 8) (hn : ∀ k p, notes[k]? = some p → ntOk k p) {r : TRow} (h : rOk r) : bOk notes r := by
  obtain ⟨s, h1, h2, h3⟩ := h
  have hr : r.rule < 8 := (List.getElem?_eq_some_iff.mp h1).1
  have e : notes[r.rule]? = some notes[r.rule] := List.getElem?_eq_getElem (by omega)
  refine ⟨_, e, fun c => ?_⟩
  rcases hn _ _ e with h | ⟨j, s', h4, h5, h6⟩
  · omega
  · rw [h1] at h5
    cases h5
    rw [h4]
    exact h3 j h6
theorem shp_cnt : ∀ s ∈ shpL, Txt.count s "n" = (s.cps.toList.count 110 : Nat) := by decide +kernel
theorem shp_len : ∀ s ∈ shpL, s.length = s.cps.toList.length ∧ s.cps.toList.length ≤ 3 := by decide
theorem shp_let : ∀ s ∈ shpL, ∀ c ∈ s.cps.toList, c = 110 ∨ c = 119 := by decide
def sp__law_rows : FV := fun ds gs Q _ => ∃ (c : Int) (names : List Str) (first step : Int), ds = [.int c, .lst (names.map .str), .int first, .int step] ∧ 0 < names.length ∧ names.length ≤ 100 ∧
  ∀ rows : List TRow, rows.length ≤ 20 → (∀ r ∈ rows, rOk r) → Q (.tmp (.lst (rows.map trD))) gs
def rwMany (c : Int) : Int := c % 2147483647 * 69621 % 1000033 % 6
theorem rwMany_lt (c : Int) : 0 ≤ rwMany c ∧ rwMany c < 6 := by unfold rwMany; omega

@[irreducible] def fb__law_rows_6_b5 : FS := sSeq (sAsg 12 (fOp gSub (fUn gLen (fVar 5)) (fS1 gCount (fVar 11) (fC (.str "n")))))
  (sSeq (sAsg 13 (fSl (fVar 5) (oSome (fVar 12)) (oNone)))
  (sSeq (sAsg 14 (fLst (aNil)))
  (sSeq (sFor (iRange1 (fUn gLen (fVar 11))) (gNm 15) (sIf (fTest (fOp (gEq false) (fOp gIx (fVar 11) (fVar 15)) (fC (.str "n")))) (sExpr (fMm "list" gAppend (fVar 14) (aCons (fTup (aCons (fMm "list" gPopAt (fVar 13) (aCons (fC (.int 0)) (aNil))) (aCons (fC .non) (aNil)))) (aNil)))) (sSeq (sExpr (fMm "list" gAppend (fVar 14) (aCons (fTup (aCons (fVar 6) (aCons (fOp gIx (fVar 1) (fOp gMod (fOp gDiv (fVar 8) (fOp gAdd (fC (.int 5)) (fOp gMul (fC (.int 8)) (fVar 15)))) (fUn gLen (fVar 1)))) (aNil)))) (aNil))))
  (sAsg 6 (fOp gAdd (fVar 6) (fVar 3))))))
  (sSeq (sExpr (fMm "list" gAppend (fVar 4) (aCons (fTup (aCons (fVar 6) (aCons (fVar 10) (aCons (fVar 14) (aNil))))) (aNil))))
  (sSeq (sAsg 5 (fOp gAdd (fSl (fVar 5) (oNone) (oSome (fVar 12))) (fLst (aCons (fVar 6) (aNil)))))
  (sAsg 6 (fOp gAdd (fVar 6) (fVar 3))))))))
theorem eq__law_rows_6_b5 : fb__law_rows_6_b5 = sSeq (sAsg 12 (fOp gSub (fUn gLen (fVar 5)) (fS1 gCount (fVar 11) (fC (.str "n")))))
  (sSeq (sAsg 13 (fSl (fVar 5) (oSome (fVar 12)) (oNone)))
  (sSeq (sAsg 14 (fLst (aNil)))
  (sSeq (sFor (iRange1 (fUn gLen (fVar 11))) (gNm 15) (sIf (fTest (fOp (gEq false) (fOp gIx (fVar 11) (fVar 15)) (fC (.str "n")))) (sExpr (fMm "list" gAppend (fVar 14) (aCons (fTup (aCons (fMm "list" gPopAt (fVar 13) (aCons (fC (.int 0)) (aNil))) (aCons (fC .non) (aNil)))) (aNil)))) (sSeq (sExpr (fMm "list" gAppend (fVar 14) (aCons (fTup (aCons (fVar 6) (aCons (fOp gIx (fVar 1) (fOp gMod (fOp gDiv (fVar 8) (fOp gAdd (fC (.int 5)) (fOp gMul (fC (.int 8)) (fVar 15)))) (fUn gLen (fVar 1)))) (aNil)))) (aNil))))
  (sAsg 6 (fOp gAdd (fVar 6) (fVar 3))))))
  (sSeq (sExpr (fMm "list" gAppend (fVar 4) (aCons (fTup (aCons (fVar 6) (aCons (fVar 10) (aCons (fVar 14) (aNil))))) (aNil))))
  (sSeq (sAsg 5 (fOp gAdd (fSl (fVar 5) (oNone) (oSome (fVar 12))) (fLst (aCons (fVar 6) (aNil)))))
  (sAsg 6 (fOp gAdd (fVar 6) (fVar 3)))))))) := by unfold fb__law_rows_6_b5; rfl
@[irreducible] def fb__law_rows_6_b2 : FS := sSeq (sAsg 7 (fOp gAdd (fVar 7) (fC (.int 1))))
  (sSeq (sAsg 11 (fOp gIx (fLst (aCons (fC (.str "w")) (aCons (fC (.str "w")) (aCons (fC (.str "nwn")) (aCons (fC (.str "wnw")) (aCons (fC (.str "wwn")) (aCons (fC (.str "n")) (aCons (fC (.str "wn")) (aCons (fC (.str "www")) (aNil)))))))))) (fVar 10)))
  (sSeq (sIf (fTest (fOp gGt (fS1 gCount (fVar 11) (fC (.str "n"))) (fUn gLen (fVar 5)))) (sSeq (sAsg 10 (fOp gMod (fOp gDiv (fVar 8) (fC (.int 24))) (fC (.int 2))))
  (sAsg 11 (fC (.str "w")))) (sNil))
  (fb__law_rows_6_b5)))
theorem eq__law_rows_6_b2 : fb__law_rows_6_b2 = sSeq (sAsg 7 (fOp gAdd (fVar 7) (fC (.int 1))))
  (sSeq (sAsg 11 (fOp gIx (fLst (aCons (fC (.str "w")) (aCons (fC (.str "w")) (aCons (fC (.str "nwn")) (aCons (fC (.str "wnw")) (aCons (fC (.str "wwn")) (aCons (fC (.str "n")) (aCons (fC (.str "wn")) (aCons (fC (.str "www")) (aNil)))))))))) (fVar 10)))
  (sSeq (sIf (fTest (fOp gGt (fS1 gCount (fVar 11) (fC (.str "n"))) (fUn gLen (fVar 5)))) (sSeq (sAsg 10 (fOp gMod (fOp gDiv (fVar 8) (fC (.int 24))) (fC (.int 2))))
  (sAsg 11 (fC (.str "w")))) (sNil))
  (fb__law_rows_6_b5))) := by unfold fb__law_rows_6_b2; rfl
@[irreducible] def fb__law_rows_6_b0 : FS := sSeq (sAsg 8 (fOp gMod (fOp gAdd (fOp gMul (fVar 8) (fC (.int 48271))) (fVar 7)) (fC (.int 2147483647))))
  (sSeq (sAsg 10 (fOp gIx (fLst (aCons (fOp gMod (fOp gDiv (fVar 8) (fC (.int 3))) (fC (.int 8))) (aCons (fC (.int 2)) (aNil)))) (fUn gToInt (fOp gGe (fVar 7) (fVar 9)))))
  (fb__law_rows_6_b2))
theorem eq__law_rows_6_b0 : fb__law_rows_6_b0 = sSeq (sAsg 8 (fOp gMod (fOp gAdd (fOp gMul (fVar 8) (fC (.int 48271))) (fVar 7)) (fC (.int 2147483647))))
  (sSeq (sAsg 10 (fOp gIx (fLst (aCons (fOp gMod (fOp gDiv (fVar 8) (fC (.int 3))) (fC (.int 8))) (aCons (fC (.int 2)) (aNil)))) (fUn gToInt (fOp gGe (fVar 7) (fVar 9)))))
  (fb__law_rows_6_b2)) := by unfold fb__law_rows_6_b0; rfl
def fb__law_rows : FS := sSeq (sAsg 4 (fLst (aNil)))
  (sSeq (sAsg 5 (fLst (aNil)))
  (sSeq (sAsg 6 (fVar 2))
  (sSeq (sAsg 7 (fC (.int 0)))
  (sSeq (sAsg 8 (fOp gMod (fOp gMul (fOp gMod (fVar 0) (fC (.int 2147483647))) (fC (.int 69621))) (fC (.int 1000033))))
  (sSeq (sAsg 9 (fOp gMod (fVar 8) (fC (.int 6))))
  (sSeq (sWhile (fOr (fTest (fOp gLt (fVar 7) (fVar 9))) (fTest (fOp gGt (fUn gLen (fVar 5)) (fC (.int 1))))) (fb__law_rows_6_b0))
  (sRet (fVar 4))))))))
theorem rows_turn5 {gs : List D} {c0 first step mark turn number many : Int} {names : List Str} {rows : List TRow} {wt : List Int} {x12 x13 x14 x15 : Sl} {E : EndsV} {ru M0 : Nat} {s : Str} (hn0 : 0 < names.length) (hn : names.length ≤ 100) (hw : wt.length ≤ 10) (hrl : rows.length ≤ 10)
    (hs : shpL[ru]? = some s) (hcw : s.cps.toList.count 110 ≤ wt.length) (hn0' : 0 ≤ number) (hm : 2 * (many - turn).toNat + (wt.length - s.cps.toList.count 110 + 1) < M0)
    (h : ∀ (r : TRow) (wt' : List Int) (mark' number' : Int) (x10 x11 x12 x13 x14 x15 : Sl), rOk r → 2 * (many - turn).toNat + wt'.length < M0 →
      E.nx ⟨[.val (.int c0), .val (.lst (names.map .str)), .val (.int first), .val (.int step), .own (.lst ((rows ++ [r]).map trD)), .own (.lst (wt'.map .int)), .val (.int mark'), .val (.int turn), .val (.int number'), .val (.int many), x10, x11, x12, x13, x14, x15], gs⟩) :
    fb__law_rows_6_b5 E ⟨[.val (.int c0), .val (.lst (names.map .str)), .val (.int first), .val (.int step), .own (.lst (rows.map trD)), .own (.lst (wt.map .int)), .val (.int mark), .val (.int turn), .val (.int number), .val (.int many), .val (.int ru), .val (.str s), x12, x13, x14, x15], gs⟩ := by
  have hmem := List.mem_of_getElem? hs
  obtain ⟨hl1, hl2⟩ := shp_len s hmem
  have hcnt := shp_cnt s hmem
  have hlet := shp_let s hmem
  have hcut : ((wt.map D.int).length : Int) - Txt.count s "n" = ((wt.length - s.cps.toList.count 110 : Nat) : Int) := by rw [hcnt, List.length_map]; omega
  unfold fb__law_rows_6_b5
  (try conv => whnf); repeat (first | (refine And.intro (fun e => Bool.noConfusion (show (false : Bool) = true from e)) (fun _ => ?_); conv => whnf) | (refine And.intro (fun _ => ?_) (fun e => Bool.noConfusion (show (true : Bool) = false from e)); conv => whnf) | (refine And.intro (by first | exact True.intro | ((try dsimp only [CDiv, CMul, CDivN, CPow] at *) <;> omega) | ((try dsimp only [CDiv, CMul, CDivN, CPow] at *) <;> (simp only [List.length_map, List.length_append, List.length_cons, List.length_nil, List.length_reverse, strApp_len, len1, szl] at *) <;> omega) | rfl | exact of_decide_eq_true rfl) ?_; conv => whnf))
  rw [hcut, cutD_map, cut_drop]
  refine forR_range (fun j m => ∃ (parts : List (Int × Option Str)) (nodes : List Int) (mark' : Int) (x15 : Sl), parts.length = j ∧ nodes.length = (s.cps.toList.drop j).count 110 ∧ (∀ j' : Nat, j' < j → s.cps.toList[j']? = some 119 → ∃ (q : Int) (t : Str), (parts : List (Int × Option Str))[j']? = some (q, some t)) ∧
    m = ⟨[.val (.int c0), .val (.lst (names.map .str)), .val (.int first), .val (.int step), .own (.lst (rows.map trD)), .own (.lst (wt.map .int)), .val (.int mark'), .val (.int turn), .val (.int number), .val (.int many), .val (.int ru), .val (.str s), .val (.int ((wt.length - s.cps.toList.count 110 : Nat) : Int)), .own (.lst (nodes.map .int)), .own (.lst (parts.map tpD)), x15], gs⟩) ?_ ?_ ⟨[], wt.drop (wt.length - s.cps.toList.count 110), mark, x15, rfl, by rw [List.length_drop, List.drop_zero]; omega, fun j' hj' => by omega, rfl⟩
  · rintro m ⟨parts, nodes, mark', x15, hp, hnd, hok, rfl⟩
    refine ⟨trivial, ?_⟩
    (try conv => whnf); repeat (first | (refine And.intro (fun e => Bool.noConfusion (show (false : Bool) = true from e)) (fun _ => ?_); conv => whnf) | (refine And.intro (fun _ => ?_) (fun e => Bool.noConfusion (show (true : Bool) = false from e)); conv => whnf) | (refine And.intro (by first | exact True.intro | ((try dsimp only [CDiv, CMul, CDivN, CPow] at *) <;> omega) | ((try dsimp only [CDiv, CMul, CDivN, CPow] at *) <;> (simp only [List.length_map, List.length_append, List.length_cons, List.length_nil, List.length_reverse, strApp_len, len1, szl] at *) <;> omega) | rfl | exact of_decide_eq_true rfl) ?_; conv => whnf))
    rw [cutD_map, cut_take]
    have hL : (s.length : Int).toNat = s.cps.toList.length := by omega
    rw [hL] at hp hok
    have z := h ⟨mark', ru, parts⟩ (wt.take (wt.length - s.cps.toList.count 110) ++ [mark']) (mark' + step) number (.val (.int ru)) (.val (.str s)) (.val (.int ((wt.length - s.cps.toList.count 110 : Nat) : Int))) (.own (.lst (nodes.map .int))) (.val (.lst (parts.map tpD))) x15
      ⟨s, hs, hp, fun j hj => hok j (List.getElem?_eq_some_iff.mp hj).1 hj⟩ (by rw [List.length_append, List.length_take, List.length_singleton]; omega)
    rw [List.map_append, List.map_append] at z
    have hl3 : (List.take (wt.length - s.cps.toList.count 110) wt).length ≤ 10 := by rw [List.length_take]; omega
    (try conv => whnf); repeat (first | (refine And.intro (fun e => Bool.noConfusion (show (false : Bool) = true from e)) (fun _ => ?_); conv => whnf) | (refine And.intro (fun _ => ?_) (fun e => Bool.noConfusion (show (true : Bool) = false from e)); conv => whnf) | (refine And.intro (by first | exact True.intro | ((try dsimp only [CDiv, CMul, CDivN, CPow] at *) <;> omega) | ((try dsimp only [CDiv, CMul, CDivN, CPow] at *) <;> (simp only [List.length_map, List.length_append, List.length_cons, List.length_nil, List.length_reverse, strApp_len, len1, szl] at *) <;> omega) | rfl | exact of_decide_eq_true rfl) ?_; conv => whnf))
    exact z
  · rintro j m hj ⟨parts, nodes, mark', x15, hp, hnd, hok, rfl⟩
    have hj : j < s.cps.toList.length := by omega
    have hcj : s.cps.toList[j]? = some s.cps.toList[j] := List.getElem?_eq_getElem hj
    refine ⟨trivial, fun k hk => ?_⟩
    rw [Int.zero_add]
    (try conv => whnf); repeat (first | (refine And.intro (fun e => Bool.noConfusion (show (false : Bool) = true from e)) (fun _ => ?_); conv => whnf) | (refine And.intro (fun _ => ?_) (fun e => Bool.noConfusion (show (true : Bool) = false from e)); conv => whnf) | (refine And.intro (by first | exact True.intro | ((try dsimp only [CDiv, CMul, CDivN, CPow] at *) <;> omega) | ((try dsimp only [CDiv, CMul, CDivN, CPow] at *) <;> (simp only [List.length_map, List.length_append, List.length_cons, List.length_nil, List.length_reverse, strApp_len, len1, szl] at *) <;> omega) | rfl | exact of_decide_eq_true rfl) ?_; conv => whnf))
    refine bindO_of (atI_nat hcj) ?_
    (try conv => whnf); repeat (first | (refine And.intro (fun e => Bool.noConfusion (show (false : Bool) = true from e)) (fun _ => ?_); conv => whnf) | (refine And.intro (fun _ => ?_) (fun e => Bool.noConfusion (show (true : Bool) = false from e)); conv => whnf) | (refine And.intro (by first | exact True.intro | ((try dsimp only [CDiv, CMul, CDivN, CPow] at *) <;> omega) | ((try dsimp only [CDiv, CMul, CDivN, CPow] at *) <;> (simp only [List.length_map, List.length_append, List.length_cons, List.length_nil, List.length_reverse, strApp_len, len1, szl] at *) <;> omega) | rfl | exact of_decide_eq_true rfl) ?_; conv => whnf))
    have hdr : s.cps.toList.drop j = s.cps.toList[j] :: s.cps.toList.drop (j + 1) := List.drop_eq_getElem_cons hj
    rw [hdr] at hnd
    rcases hlet _ (List.getElem_mem hj) with e | e
    · rw [e] at hnd ⊢
      refine yes_of (by rfl) ?_
      rw [List.count_cons_self] at hnd
      obtain ⟨x, rest, rfl⟩ : ∃ x rest, nodes = x :: rest := by
        cases nodes with
        | nil => simp at hnd
        | cons x rest => exact ⟨x, rest, rfl⟩
      have hnd : rest.length = (s.cps.toList.drop (j + 1)).count 110 := by simpa using hnd
      have hsi : seqIndex? 0 ((x :: rest).map D.int).length = some 0 := by rw [List.length_map, List.length_cons]; unfold seqIndex?; simp
      (try conv => whnf); repeat (first | (refine And.intro (fun e => Bool.noConfusion (show (false : Bool) = true from e)) (fun _ => ?_); conv => whnf) | (refine And.intro (fun _ => ?_) (fun e => Bool.noConfusion (show (true : Bool) = false from e)); conv => whnf) | (refine And.intro (by first | exact True.intro | ((try dsimp only [CDiv, CMul, CDivN, CPow] at *) <;> omega) | ((try dsimp only [CDiv, CMul, CDivN, CPow] at *) <;> (simp only [List.length_map, List.length_append, List.length_cons, List.length_nil, List.length_reverse, strApp_len, len1, szl] at *) <;> omega) | rfl | exact of_decide_eq_true rfl) ?_; conv => whnf))
      refine bindO_of hsi ?_
      (try conv => whnf); repeat (first | (refine And.intro (fun e => Bool.noConfusion (show (false : Bool) = true from e)) (fun _ => ?_); conv => whnf) | (refine And.intro (fun _ => ?_) (fun e => Bool.noConfusion (show (true : Bool) = false from e)); conv => whnf) | (refine And.intro (by first | exact True.intro | ((try dsimp only [CDiv, CMul, CDivN, CPow] at *) <;> omega) | ((try dsimp only [CDiv, CMul, CDivN, CPow] at *) <;> (simp only [List.length_map, List.length_append, List.length_cons, List.length_nil, List.length_reverse, strApp_len, len1, szl] at *) <;> omega) | rfl | exact of_decide_eq_true rfl) ?_; conv => whnf))
      have z := hk ⟨[.val (.int c0), .val (.lst (names.map .str)), .val (.int first), .val (.int step), .own (.lst (rows.map trD)), .own (.lst (wt.map .int)), .val (.int mark'), .val (.int turn), .val (.int number), .val (.int many), .val (.int ru), .val (.str s), .val (.int ((wt.length - s.cps.toList.count 110 : Nat) : Int)), .own (.lst (rest.map .int)), .own (.lst ((parts ++ [(x, none)]).map tpD)), .val (.int j)], gs⟩
        ⟨parts ++ [(x, none)], rest, mark', _, by simp [hp], hnd, ?_, rfl⟩
      · rw [List.map_append] at z
        exact z
      · intro j' hj' h119
        by_cases hjj : j' < j
        · obtain ⟨q, t, e2⟩ := hok j' hjj h119
          exact ⟨q, t, by rw [List.getElem?_append_left (by omega)]; exact e2⟩
        · have : j' = j := by omega
          subst this
          rw [hcj, e] at h119
          cases h119
    · rw [e] at hnd ⊢
      refine no_of (by rfl) ?_
      have hnd : nodes.length = (s.cps.toList.drop (j + 1)).count 110 := by simpa using hnd
      (try conv => whnf); repeat (first | (refine And.intro (fun e => Bool.noConfusion (show (false : Bool) = true from e)) (fun _ => ?_); conv => whnf) | (refine And.intro (fun _ => ?_) (fun e => Bool.noConfusion (show (true : Bool) = false from e)); conv => whnf) | (refine And.intro (by first | exact True.intro | ((try dsimp only [CDiv, CMul, CDivN, CPow] at *) <;> omega) | ((try dsimp only [CDiv, CMul, CDivN, CPow] at *) <;> (simp only [List.length_map, List.length_append, List.length_cons, List.length_nil, List.length_reverse, strApp_len, len1, szl] at *) <;> omega) | rfl | exact of_decide_eq_true rfl) ?_; conv => whnf))
      refine bindO_atm (xs := names) D.str (by dsimp only; rw [List.length_map]; exact Int.emod_nonneg _ (by omega)) (by dsimp only; rw [List.length_map]; exact Int.emod_lt_of_pos _ (by omega)) fun nm hnm => ?_
      (try conv => whnf); repeat (first | (refine And.intro (fun e => Bool.noConfusion (show (false : Bool) = true from e)) (fun _ => ?_); conv => whnf) | (refine And.intro (fun _ => ?_) (fun e => Bool.noConfusion (show (true : Bool) = false from e)); conv => whnf) | (refine And.intro (by first | exact True.intro | ((try dsimp only [CDiv, CMul, CDivN, CPow] at *) <;> omega) | ((try dsimp only [CDiv, CMul, CDivN, CPow] at *) <;> (simp only [List.length_map, List.length_append, List.length_cons, List.length_nil, List.length_reverse, strApp_len, len1, szl] at *) <;> omega) | rfl | exact of_decide_eq_true rfl) ?_; conv => whnf))
      have z := hk ⟨[.val (.int c0), .val (.lst (names.map .str)), .val (.int first), .val (.int step), .own (.lst (rows.map trD)), .own (.lst (wt.map .int)), .val (.int (mark' + step)), .val (.int turn), .val (.int number), .val (.int many), .val (.int ru), .val (.str s), .val (.int ((wt.length - s.cps.toList.count 110 : Nat) : Int)), .own (.lst (nodes.map .int)), .own (.lst ((parts ++ [(mark', some nm)]).map tpD)), .val (.int j)], gs⟩
        ⟨parts ++ [(mark', some nm)], nodes, mark' + step, _, by simp [hp], hnd, ?_, rfl⟩
      · rw [List.map_append] at z
        exact z
      · intro j' hj' h119
        by_cases hjj : j' < j
        · obtain ⟨q, t, e2⟩ := hok j' hjj h119
          exact ⟨q, t, by rw [List.getElem?_append_left (by omega)]; exact e2⟩
        · have : j' = j := by omega
          subst this
          exact ⟨mark', nm, by rw [List.getElem?_append_right (by omega), ← hp]; simp⟩
theorem rows_turn2 {gs : List D} {c0 first step mark turn number many : Int} {names : List Str} {rows : List TRow} {wt : List Int} {x11 x12 x13 x14 x15 : Sl} {E : EndsV} {ru : Nat} (hn0 : 0 < names.length) (hn : names.length ≤ 100) (hw : wt.length ≤ 10) (hrl : rows.length ≤ 10) (t0 : 0 ≤ turn)
    (hc : turn < many ∨ 1 < wt.length) (h8 : ru < 8) (h2 : many ≤ turn → ru = 2) (hn0' : 0 ≤ number)
    (h : ∀ (r : TRow) (wt' : List Int) (mark' number' : Int) (x10 x11 x12 x13 x14 x15 : Sl), rOk r → 2 * (many - (turn + 1)).toNat + wt'.length < 2 * (many - turn).toNat + wt.length →
      E.nx ⟨[.val (.int c0), .val (.lst (names.map .str)), .val (.int first), .val (.int step), .own (.lst ((rows ++ [r]).map trD)), .own (.lst (wt'.map .int)), .val (.int mark'), .val (.int (turn + 1)), .val (.int number'), .val (.int many), x10, x11, x12, x13, x14, x15], gs⟩) :
    fb__law_rows_6_b2 E ⟨[.val (.int c0), .val (.lst (names.map .str)), .val (.int first), .val (.int step), .own (.lst (rows.map trD)), .own (.lst (wt.map .int)), .val (.int mark), .val (.int turn), .val (.int number), .val (.int many), .val (.int ru), x11, x12, x13, x14, x15], gs⟩ := by
  have h88 : shpL.length = 8 := rfl
  have hs : shpL[ru]? = some shpL[ru] := List.getElem?_eq_getElem (by omega)
  have hcnt := shp_cnt _ (List.getElem_mem (show ru < shpL.length by omega))
  have hc2 : many ≤ turn → shpL[ru].cps.toList.count 110 = 2 := fun c => by
    have e := h2 c
    subst e
    rfl
  generalize shpL[ru] = s at *
  unfold fb__law_rows_6_b2
  (try conv => whnf); repeat (first | (refine And.intro (fun e => Bool.noConfusion (show (false : Bool) = true from e)) (fun _ => ?_); conv => whnf) | (refine And.intro (fun _ => ?_) (fun e => Bool.noConfusion (show (true : Bool) = false from e)); conv => whnf) | (refine And.intro (by first | exact True.intro | ((try dsimp only [CDiv, CMul, CDivN, CPow] at *) <;> omega) | ((try dsimp only [CDiv, CMul, CDivN, CPow] at *) <;> (simp only [List.length_map, List.length_append, List.length_cons, List.length_nil, List.length_reverse, strApp_len, len1, szl] at *) <;> omega) | rfl | exact of_decide_eq_true rfl) ?_; conv => whnf))
  refine bindO_atk (xs := shpL) D.str (n := ru) rfl hs ?_
  (try conv => whnf); repeat (first | (refine And.intro (fun e => Bool.noConfusion (show (false : Bool) = true from e)) (fun _ => ?_); conv => whnf) | (refine And.intro (fun _ => ?_) (fun e => Bool.noConfusion (show (true : Bool) = false from e)); conv => whnf) | (refine And.intro (by first | exact True.intro | ((try dsimp only [CDiv, CMul, CDivN, CPow] at *) <;> omega) | ((try dsimp only [CDiv, CMul, CDivN, CPow] at *) <;> (simp only [List.length_map, List.length_append, List.length_cons, List.length_nil, List.length_reverse, strApp_len, len1, szl] at *) <;> omega) | rfl | exact of_decide_eq_true rfl) ?_; conv => whnf))
  refine ⟨fun c1 => ?_, fun c1 => ?_⟩
  · have c1 : (wt.length : Int) < Txt.count s "n" := by simpa using c1
    (try conv => whnf); repeat (first | (refine And.intro (fun e => Bool.noConfusion (show (false : Bool) = true from e)) (fun _ => ?_); conv => whnf) | (refine And.intro (fun _ => ?_) (fun e => Bool.noConfusion (show (true : Bool) = false from e)); conv => whnf) | (refine And.intro (by first | exact True.intro | ((try dsimp only [CDiv, CMul, CDivN, CPow] at *) <;> omega) | ((try dsimp only [CDiv, CMul, CDivN, CPow] at *) <;> (simp only [List.length_map, List.length_append, List.length_cons, List.length_nil, List.length_reverse, strApp_len, len1, szl] at *) <;> omega) | rfl | exact of_decide_eq_true rfl) ?_; conv => whnf))
    have e : ∃ r2 : Nat, number / 24 % 2 = r2 ∧ shpL[r2]? = some (Str.ofString "w") := by
      have : number / 24 % 2 = 0 ∨ number / 24 % 2 = 1 := by omega
      rcases this with z | z
      · exact ⟨0, z, rfl⟩
      · exact ⟨1, z, rfl⟩
    obtain ⟨r2, e1, e2⟩ := e
    have hz : (Str.ofString "w").cps.toList.count 110 = 0 := rfl
    show fb__law_rows_6_b5 E ⟨[.val (.int c0), .val (.lst (names.map .str)), .val (.int first), .val (.int step), .own (.lst (rows.map trD)), .own (.lst (wt.map .int)), .val (.int mark), .val (.int (turn + 1)), .val (.int number), .val (.int many), .val (.int (number / 24 % 2)), .val (.str (Str.ofString "w")), x12, x13, x14, x15], gs⟩
    rw [e1]
    exact rows_turn5 hn0 hn hw hrl e2 (by omega) hn0' (by omega) h
  · have c1 : ¬ (wt.length : Int) < Txt.count s "n" := by simpa using c1
    (try conv => whnf); repeat (first | (refine And.intro (fun e => Bool.noConfusion (show (false : Bool) = true from e)) (fun _ => ?_); conv => whnf) | (refine And.intro (fun _ => ?_) (fun e => Bool.noConfusion (show (true : Bool) = false from e)); conv => whnf) | (refine And.intro (by first | exact True.intro | ((try dsimp only [CDiv, CMul, CDivN, CPow] at *) <;> omega) | ((try dsimp only [CDiv, CMul, CDivN, CPow] at *) <;> (simp only [List.length_map, List.length_append, List.length_cons, List.length_nil, List.length_reverse, strApp_len, len1, szl] at *) <;> omega) | rfl | exact of_decide_eq_true rfl) ?_; conv => whnf))
    exact rows_turn5 hn0 hn hw hrl hs (by omega) hn0' (by omega) h
theorem rows_turn {gs : List D} {c0 first step mark turn number many : Int} {names : List Str} {rows : List TRow} {wt : List Int} {x10 x11 x12 x13 x14 x15 : Sl} {E : EndsV} (hn0 : 0 < names.length) (hn : names.length ≤ 100) (t0 : 0 ≤ turn) (z1 : 0 ≤ many) (z2 : many < 6) (hw : wt.length ≤ 10) (hrl : rows.length ≤ 10)
    (hc : turn < many ∨ 1 < wt.length)
    (h : ∀ (r : TRow) (wt' : List Int) (mark' number' : Int) (x10 x11 x12 x13 x14 x15 : Sl), rOk r → 2 * (many - (turn + 1)).toNat + wt'.length < 2 * (many - turn).toNat + wt.length →
      E.nx ⟨[.val (.int c0), .val (.lst (names.map .str)), .val (.int first), .val (.int step), .own (.lst ((rows ++ [r]).map trD)), .own (.lst (wt'.map .int)), .val (.int mark'), .val (.int (turn + 1)), .val (.int number'), .val (.int many), x10, x11, x12, x13, x14, x15], gs⟩) :
    fb__law_rows_6_b0 E ⟨[.val (.int c0), .val (.lst (names.map .str)), .val (.int first), .val (.int step), .own (.lst (rows.map trD)), .own (.lst (wt.map .int)), .val (.int mark), .val (.int turn), .val (.int number), .val (.int many), x10, x11, x12, x13, x14, x15], gs⟩ := by
  unfold fb__law_rows_6_b0
  (try conv => whnf); repeat (first | (refine And.intro (fun e => Bool.noConfusion (show (false : Bool) = true from e)) (fun _ => ?_); conv => whnf) | (refine And.intro (fun _ => ?_) (fun e => Bool.noConfusion (show (true : Bool) = false from e)); conv => whnf) | (refine And.intro (by first | exact True.intro | ((try dsimp only [CDiv, CMul, CDivN, CPow] at *) <;> omega) | ((try dsimp only [CDiv, CMul, CDivN, CPow] at *) <;> (simp only [List.length_map, List.length_append, List.length_cons, List.length_nil, List.length_reverse, strApp_len, len1, szl] at *) <;> omega) | rfl | exact of_decide_eq_true rfl) ?_; conv => whnf))
  have hnum : 0 ≤ (number * 48271 + turn) % 2147483647 := by omega
  by_cases c : many ≤ turn
  · have hi : (if decide (many ≤ turn) = true then (1:Int) else 0) = 1 := by simp [c]
    refine bindO_of (a := D.int 2) (by show atI [_, D.int 2] (if decide (many ≤ turn) = true then (1:Int) else 0) = _; rw [hi]; rfl) ?_
    (try conv => whnf); repeat (first | (refine And.intro (fun e => Bool.noConfusion (show (false : Bool) = true from e)) (fun _ => ?_); conv => whnf) | (refine And.intro (fun _ => ?_) (fun e => Bool.noConfusion (show (true : Bool) = false from e)); conv => whnf) | (refine And.intro (by first | exact True.intro | ((try dsimp only [CDiv, CMul, CDivN, CPow] at *) <;> omega) | ((try dsimp only [CDiv, CMul, CDivN, CPow] at *) <;> (simp only [List.length_map, List.length_append, List.length_cons, List.length_nil, List.length_reverse, strApp_len, len1, szl] at *) <;> omega) | rfl | exact of_decide_eq_true rfl) ?_; conv => whnf))
    exact rows_turn2 (ru := 2) hn0 hn hw hrl t0 hc (by omega) (fun _ => rfl) hnum h
  · have hi : (if decide (many ≤ turn) = true then (1:Int) else 0) = 0 := by simp [c]
    refine bindO_of (a := D.int ((number * 48271 + turn) % 2147483647 / 3 % 8)) (by show atI [D.int ((number * 48271 + turn) % 2147483647 / 3 % 8), D.int 2] (if decide (many ≤ turn) = true then (1:Int) else 0) = _; rw [hi]; rfl) ?_
    obtain ⟨ru, hru⟩ : ∃ ru : Nat, (number * 48271 + turn) % 2147483647 / 3 % 8 = ru := ⟨((number * 48271 + turn) % 2147483647 / 3 % 8).toNat, by omega⟩
    (try conv => whnf); repeat (first | (refine And.intro (fun e => Bool.noConfusion (show (false : Bool) = true from e)) (fun _ => ?_); conv => whnf) | (refine And.intro (fun _ => ?_) (fun e => Bool.noConfusion (show (true : Bool) = false from e)); conv => whnf) | (refine And.intro (by first | exact True.intro | ((try dsimp only [CDiv, CMul, CDivN, CPow] at *) <;> omega) | ((try dsimp only [CDiv, CMul, CDivN, CPow] at *) <;> (simp only [List.length_map, List.length_append, List.length_cons, List.length_nil, List.length_reverse, strApp_len, len1, szl] at *) <;> omega) | rfl | exact of_decide_eq_true rfl) ?_; conv => whnf))
    show fb__law_rows_6_b2 E ⟨[.val (.int c0), .val (.lst (names.map .str)), .val (.int first), .val (.int step), .own (.lst (rows.map trD)), .own (.lst (wt.map .int)), .val (.int mark), .val (.int turn), .val (.int ((number * 48271 + turn) % 2147483647)), .val (.int many), .val (.int ((number * 48271 + turn) % 2147483647 / 3 % 8)), x11, x12, x13, x14, x15], gs⟩
    rw [hru]
    exact rows_turn2 hn0 hn hw hrl t0 hc (by omega) (fun z => absurd z c) hnum h
theorem bd__law_rows : ∀ ds gs Q Qe, sp__law_rows ds gs Q Qe → bodyV 16 fb__law_rows ds gs Q Qe := by
  rintro ds gs Q Qe ⟨c, names, first, step, rfl, hn0, hn, h⟩
  (try conv => whnf); repeat (first | (refine And.intro (fun e => Bool.noConfusion (show (false : Bool) = true from e)) (fun _ => ?_); conv => whnf) | (refine And.intro (fun _ => ?_) (fun e => Bool.noConfusion (show (true : Bool) = false from e)); conv => whnf) | (refine And.intro (by first | exact True.intro | ((try dsimp only [CDiv, CMul, CDivN, CPow] at *) <;> omega) | ((try dsimp only [CDiv, CMul, CDivN, CPow] at *) <;> (simp only [List.length_map, List.length_append, List.length_cons, List.length_nil, List.length_reverse, strApp_len, len1, szl] at *) <;> omega) | rfl | exact of_decide_eq_true rfl) ?_; conv => whnf))
  obtain ⟨z1, z2⟩ := rwMany_lt c
  refine while_ind (fun k m => ∃ (rows : List TRow) (wt : List Int) (mark turn number : Int) (x10 x11 x12 x13 x14 x15 : Sl), 0 ≤ turn ∧ k = 2 * (rwMany c - turn).toNat + wt.length ∧ rows.length + k ≤ 10 ∧ (∀ r ∈ rows, rOk r) ∧
    m = ⟨[.val (.int c), .val (.lst (names.map .str)), .val (.int first), .val (.int step), .own (.lst (rows.map trD)), .own (.lst (wt.map .int)), .val (.int mark), .val (.int turn), .val (.int number), .val (.int (rwMany c)), x10, x11, x12, x13, x14, x15], gs⟩) ?_ (n := 2 * (rwMany c).toNat) ⟨[], [], _, 0, _, .no, .no, .no, .no, .no, .no, by omega, by simp, by simp; omega, fun r hr => (by cases hr), rfl⟩
  rintro k m ⟨rows, wt, mark, turn, number, x10, x11, x12, x13, x14, x15, t0, hk, hl, hr, rfl⟩
  generalize rwMany c = many at *
  have nxt : ∀ (r : TRow) (wt' : List Int) (mark' number' : Int) (x10 x11 x12 x13 x14 x15 : Sl), rOk r → 2 * (many - (turn + 1)).toNat + wt'.length < 2 * (many - turn).toNat + wt.length → ∃ n', n' < k ∧ ∃ (rows2 : List TRow) (wt2 : List Int) (mark2 turn2 number2 : Int) (y10 y11 y12 y13 y14 y15 : Sl), 0 ≤ turn2 ∧ n' = 2 * (many - turn2).toNat + wt2.length ∧ rows2.length + n' ≤ 10 ∧ (∀ r ∈ rows2, rOk r) ∧
    (⟨[.val (.int c), .val (.lst (names.map .str)), .val (.int first), .val (.int step), .own (.lst ((rows ++ [r]).map trD)), .own (.lst (wt'.map .int)), .val (.int mark'), .val (.int (turn + 1)), .val (.int number'), .val (.int many), x10, x11, x12, x13, x14, x15], gs⟩ : M) =
      ⟨[.val (.int c), .val (.lst (names.map .str)), .val (.int first), .val (.int step), .own (.lst (rows2.map trD)), .own (.lst (wt2.map .int)), .val (.int mark2), .val (.int turn2), .val (.int number2), .val (.int many), y10, y11, y12, y13, y14, y15], gs⟩ := by
    intro r wt' mark' number' x10 x11 x12 x13 x14 x15 h1 h2
    refine ⟨_, ?_, rows ++ [r], wt', mark', turn + 1, number', x10, x11, x12, x13, x14, x15, by omega, rfl, ?_, ?_, rfl⟩
    · omega
    · rw [List.length_append, List.length_singleton]; omega
    · intro r' hr'
      rcases List.mem_append.mp hr' with z | z
      · exact hr r' z
      · simp at z; subst z; exact h1
  (try conv => whnf); repeat (first | (refine And.intro (fun e => Bool.noConfusion (show (false : Bool) = true from e)) (fun _ => ?_); conv => whnf) | (refine And.intro (fun _ => ?_) (fun e => Bool.noConfusion (show (true : Bool) = false from e)); conv => whnf) | (refine And.intro (by first | exact True.intro | ((try dsimp only [CDiv, CMul, CDivN, CPow] at *) <;> omega) | ((try dsimp only [CDiv, CMul, CDivN, CPow] at *) <;> (simp only [List.length_map, List.length_append, List.length_cons, List.length_nil, List.length_reverse, strApp_len, len1, szl] at *) <;> omega) | rfl | exact of_decide_eq_true rfl) ?_; conv => whnf))
  refine ⟨fun hx => ?_, fun c1 => ?_⟩
  · have hx : turn < many := by simpa using hx
    (try conv => whnf); repeat (first | (refine And.intro (fun e => Bool.noConfusion (show (false : Bool) = true from e)) (fun _ => ?_); conv => whnf) | (refine And.intro (fun _ => ?_) (fun e => Bool.noConfusion (show (true : Bool) = false from e)); conv => whnf) | (refine And.intro (by first | exact True.intro | ((try dsimp only [CDiv, CMul, CDivN, CPow] at *) <;> omega) | ((try dsimp only [CDiv, CMul, CDivN, CPow] at *) <;> (simp only [List.length_map, List.length_append, List.length_cons, List.length_nil, List.length_reverse, strApp_len, len1, szl] at *) <;> omega) | rfl | exact of_decide_eq_true rfl) ?_; conv => whnf))
    refine rows_turn (rows := rows) (wt := wt) hn0 hn t0 z1 z2 (by omega) (by omega) (.inl hx) ?_
    exact nxt
  (try conv => whnf); repeat (first | (refine And.intro (fun e => Bool.noConfusion (show (false : Bool) = true from e)) (fun _ => ?_); conv => whnf) | (refine And.intro (fun _ => ?_) (fun e => Bool.noConfusion (show (true : Bool) = false from e)); conv => whnf) | (refine And.intro (by first | exact True.intro | ((try dsimp only [CDiv, CMul, CDivN, CPow] at *) <;> omega) | ((try dsimp only [CDiv, CMul, CDivN, CPow] at *) <;> (simp only [List.length_map, List.length_append, List.length_cons, List.length_nil, List.length_reverse, strApp_len, len1, szl] at *) <;> omega) | rfl | exact of_decide_eq_true rfl) ?_; conv => whnf))
  refine ⟨fun hx => ?_, fun c2 => ?_⟩
  · have hx : (1 : Int) < wt.length := by simpa using hx
    have hx : 1 < wt.length := by omega
    (try conv => whnf); repeat (first | (refine And.intro (fun e => Bool.noConfusion (show (false : Bool) = true from e)) (fun _ => ?_); conv => whnf) | (refine And.intro (fun _ => ?_) (fun e => Bool.noConfusion (show (true : Bool) = false from e)); conv => whnf) | (refine And.intro (by first | exact True.intro | ((try dsimp only [CDiv, CMul, CDivN, CPow] at *) <;> omega) | ((try dsimp only [CDiv, CMul, CDivN, CPow] at *) <;> (simp only [List.length_map, List.length_append, List.length_cons, List.length_nil, List.length_reverse, strApp_len, len1, szl] at *) <;> omega) | rfl | exact of_decide_eq_true rfl) ?_; conv => whnf))
    refine rows_turn (rows := rows) (wt := wt) hn0 hn t0 z1 z2 (by omega) (by omega) (.inr hx) ?_
    exact nxt
  · (try conv => whnf); repeat (first | (refine And.intro (fun e => Bool.noConfusion (show (false : Bool) = true from e)) (fun _ => ?_); conv => whnf) | (refine And.intro (fun _ => ?_) (fun e => Bool.noConfusion (show (true : Bool) = false from e)); conv => whnf) | (refine And.intro (by first | exact True.intro | ((try dsimp only [CDiv, CMul, CDivN, CPow] at *) <;> omega) | ((try dsimp only [CDiv, CMul, CDivN, CPow] at *) <;> (simp only [List.length_map, List.length_append, List.length_cons, List.length_nil, List.length_reverse, strApp_len, len1, szl] at *) <;> omega) | rfl | exact of_decide_eq_true rfl) ?_; conv => whnf))
    exact fin0 rfl (h rows (by omega) hr)

def sp__law_bound_in : FV := fun ds gs Q _ => ∃ (rows : List TRow) (notes : List (Int × Int)) (name : Str), ds = [.lst (rows.map trD), .lst (notes.map ntD), .str name] ∧ (∀ r ∈ rows, bOk notes r) ∧ rows.length ≤ 1000 ∧ Q (.fz (.int (bIn notes name rows))) gs

def fb__law_bound_in : FS := sSeq (sFor (iRange1 (fUn gLen (fVar 0))) (gNm 3) (sSeq (sAsg 4 (fOp gSub (fOp gSub (fUn gLen (fVar 0)) (fC (.int 1))) (fVar 3)))
  (sSeq (sAsg 5 (fOp gIx (fOp gIx (fVar 1) (fOp gIx (fOp gIx (fVar 0) (fVar 4)) (fC (.int 1)))) (fC (.int 1))))
  (sIf (fAnd (fTest (fOp gGe (fVar 5) (fC (.int 0)))) (fTest (fOp (gEq false) (fOp gIx (fOp gIx (fOp gIx (fOp gIx (fVar 0) (fVar 4)) (fC (.int 2))) (fVar 5)) (fC (.int 1))) (fVar 2)))) (sRet (fVar 4)) (sNil)))))
  (sRet (fUn gNeg (fC (.int 1))))
theorem bd__law_bound_in : ∀ ds gs Q Qe, sp__law_bound_in ds gs Q Qe → bodyV 6 fb__law_bound_in ds gs Q Qe := by
  rintro ds gs Q Qe ⟨rows, notes, name, rfl, ok, hl, h⟩
  (try conv => whnf); repeat (first | (refine And.intro (fun e => Bool.noConfusion (show (false : Bool) = true from e)) (fun _ => ?_); conv => whnf) | (refine And.intro (fun _ => ?_) (fun e => Bool.noConfusion (show (true : Bool) = false from e)); conv => whnf) | (refine And.intro (by first | exact True.intro | ((try dsimp only [CDiv, CMul, CDivN, CPow] at *) <;> omega) | ((try dsimp only [CDiv, CMul, CDivN, CPow] at *) <;> (simp only [List.length_map, List.length_append, List.length_cons, List.length_nil, List.length_reverse, strApp_len, len1, szl] at *) <;> omega) | rfl | exact of_decide_eq_true rfl) ?_; conv => whnf))
  refine forR_range (fun i m => ∃ (x3 x4 x5 : Sl), i ≤ rows.length ∧ bIn notes name rows = bIn notes name (rows.take (rows.length - i)) ∧ m = ⟨[.val (.lst (rows.map trD)), .val (.lst (notes.map ntD)), .val (.str name), x3, x4, x5], gs⟩) ?_ ?_ ⟨.no, .no, .no, by omega, by rw [Nat.sub_zero, List.take_length], rfl⟩
  · rintro m ⟨x3, x4, x5, _, hb, rfl⟩
    refine ⟨trivial, ?_⟩
    have hN : rows.length - (((rows.map trD).length : Int)).toNat = 0 := by simp
    rw [hN] at hb
    have hb : bIn notes name rows = -1 := hb
    rw [hb] at h
    (try conv => whnf); repeat (first | (refine And.intro (fun e => Bool.noConfusion (show (false : Bool) = true from e)) (fun _ => ?_); conv => whnf) | (refine And.intro (fun _ => ?_) (fun e => Bool.noConfusion (show (true : Bool) = false from e)); conv => whnf) | (refine And.intro (by first | exact True.intro | ((try dsimp only [CDiv, CMul, CDivN, CPow] at *) <;> omega) | ((try dsimp only [CDiv, CMul, CDivN, CPow] at *) <;> (simp only [List.length_map, List.length_append, List.length_cons, List.length_nil, List.length_reverse, strApp_len, len1, szl] at *) <;> omega) | rfl | exact of_decide_eq_true rfl) ?_; conv => whnf))
    exact fin0 rfl h
  · rintro i m hi ⟨x3, x4, x5, _, hb, rfl⟩
    have hi : i < rows.length := by simpa using hi
    refine ⟨trivial, fun k hk => ?_⟩
    have hj : rows.length - 1 - i < rows.length := by omega
    have hr : rows[rows.length - 1 - i]? = some rows[rows.length - 1 - i] := List.getElem?_eq_getElem hj
    obtain ⟨p, hp, hq⟩ := ok _ (List.getElem_mem hj)
    have htk : rows.take (rows.length - i) = rows.take (rows.length - 1 - i) ++ [rows[rows.length - 1 - i]] := by
      rw [show rows.length - i = (rows.length - 1 - i) + 1 by omega, List.take_succ, hr]; rfl
    have hsn := bIn_snoc notes name (rows.take (rows.length - 1 - i)) rows[rows.length - 1 - i]
    rw [← htk, ← hb, List.length_take, Nat.min_eq_left (by omega)] at hsn
    have hnx : rows.length - (i + 1) = rows.length - 1 - i := by omega
    rw [hnx] at hk
    generalize rows[rows.length - 1 - i] = r at *
    (try conv => whnf); repeat (first | (refine And.intro (fun e => Bool.noConfusion (show (false : Bool) = true from e)) (fun _ => ?_); conv => whnf) | (refine And.intro (fun _ => ?_) (fun e => Bool.noConfusion (show (true : Bool) = false from e)); conv => whnf) | (refine And.intro (by first | exact True.intro | ((try dsimp only [CDiv, CMul, CDivN, CPow] at *) <;> omega) | ((try dsimp only [CDiv, CMul, CDivN, CPow] at *) <;> (simp only [List.length_map, List.length_append, List.length_cons, List.length_nil, List.length_reverse, strApp_len, len1, szl] at *) <;> omega) | rfl | exact of_decide_eq_true rfl) ?_; conv => whnf))
    refine bindO_atk trD (n := rows.length - 1 - i) (by (first | ((try dsimp only [CDiv, CMul, CDivN, CPow] at *) <;> omega) | ((try dsimp only [CDiv, CMul, CDivN, CPow] at *) <;> (simp only [List.length_map, List.length_append, List.length_cons, List.length_nil, List.length_reverse, strApp_len, len1, szl] at *) <;> omega))) hr ?_
    (try conv => whnf); repeat (first | (refine And.intro (fun e => Bool.noConfusion (show (false : Bool) = true from e)) (fun _ => ?_); conv => whnf) | (refine And.intro (fun _ => ?_) (fun e => Bool.noConfusion (show (true : Bool) = false from e)); conv => whnf) | (refine And.intro (by first | exact True.intro | ((try dsimp only [CDiv, CMul, CDivN, CPow] at *) <;> omega) | ((try dsimp only [CDiv, CMul, CDivN, CPow] at *) <;> (simp only [List.length_map, List.length_append, List.length_cons, List.length_nil, List.length_reverse, strApp_len, len1, szl] at *) <;> omega) | rfl | exact of_decide_eq_true rfl) ?_; conv => whnf))
    refine bindO_atk ntD rfl hp ?_
    (try conv => whnf); repeat (first | (refine And.intro (fun e => Bool.noConfusion (show (false : Bool) = true from e)) (fun _ => ?_); conv => whnf) | (refine And.intro (fun _ => ?_) (fun e => Bool.noConfusion (show (true : Bool) = false from e)); conv => whnf) | (refine And.intro (by first | exact True.intro | ((try dsimp only [CDiv, CMul, CDivN, CPow] at *) <;> omega) | ((try dsimp only [CDiv, CMul, CDivN, CPow] at *) <;> (simp only [List.length_map, List.length_append, List.length_cons, List.length_nil, List.length_reverse, strApp_len, len1, szl] at *) <;> omega) | rfl | exact of_decide_eq_true rfl) ?_; conv => whnf))
    by_cases c : 0 ≤ p.2
    · obtain ⟨q, t, ht⟩ := hq c
      have hbn : bName notes r = some t := by unfold bName; rw [hp]; show (if 0 ≤ p.2 then _ else _) = _; rw [if_pos c, ht]
      rw [hbn] at hsn
      refine yes_of (by simp [c]) ?_
      (try conv => whnf); repeat (first | (refine And.intro (fun e => Bool.noConfusion (show (false : Bool) = true from e)) (fun _ => ?_); conv => whnf) | (refine And.intro (fun _ => ?_) (fun e => Bool.noConfusion (show (true : Bool) = false from e)); conv => whnf) | (refine And.intro (by first | exact True.intro | ((try dsimp only [CDiv, CMul, CDivN, CPow] at *) <;> omega) | ((try dsimp only [CDiv, CMul, CDivN, CPow] at *) <;> (simp only [List.length_map, List.length_append, List.length_cons, List.length_nil, List.length_reverse, strApp_len, len1, szl] at *) <;> omega) | rfl | exact of_decide_eq_true rfl) ?_; conv => whnf))
      refine bindO_atk trD (n := rows.length - 1 - i) (by (first | ((try dsimp only [CDiv, CMul, CDivN, CPow] at *) <;> omega) | ((try dsimp only [CDiv, CMul, CDivN, CPow] at *) <;> (simp only [List.length_map, List.length_append, List.length_cons, List.length_nil, List.length_reverse, strApp_len, len1, szl] at *) <;> omega))) hr ?_
      (try conv => whnf); repeat (first | (refine And.intro (fun e => Bool.noConfusion (show (false : Bool) = true from e)) (fun _ => ?_); conv => whnf) | (refine And.intro (fun _ => ?_) (fun e => Bool.noConfusion (show (true : Bool) = false from e)); conv => whnf) | (refine And.intro (by first | exact True.intro | ((try dsimp only [CDiv, CMul, CDivN, CPow] at *) <;> omega) | ((try dsimp only [CDiv, CMul, CDivN, CPow] at *) <;> (simp only [List.length_map, List.length_append, List.length_cons, List.length_nil, List.length_reverse, strApp_len, len1, szl] at *) <;> omega) | rfl | exact of_decide_eq_true rfl) ?_; conv => whnf))
      refine bindO_atk tpD (n := p.2.toNat) (by omega) ht ?_
      (try conv => whnf); repeat (first | (refine And.intro (fun e => Bool.noConfusion (show (false : Bool) = true from e)) (fun _ => ?_); conv => whnf) | (refine And.intro (fun _ => ?_) (fun e => Bool.noConfusion (show (true : Bool) = false from e)); conv => whnf) | (refine And.intro (by first | exact True.intro | ((try dsimp only [CDiv, CMul, CDivN, CPow] at *) <;> omega) | ((try dsimp only [CDiv, CMul, CDivN, CPow] at *) <;> (simp only [List.length_map, List.length_append, List.length_cons, List.length_nil, List.length_reverse, strApp_len, len1, szl] at *) <;> omega) | rfl | exact of_decide_eq_true rfl) ?_; conv => whnf))
      by_cases e : t = name
      · refine yes_of (by simp [e]) ?_
        rw [if_pos (by rw [e])] at hsn
        (try conv => whnf); repeat (first | (refine And.intro (fun e => Bool.noConfusion (show (false : Bool) = true from e)) (fun _ => ?_); conv => whnf) | (refine And.intro (fun _ => ?_) (fun e => Bool.noConfusion (show (true : Bool) = false from e)); conv => whnf) | (refine And.intro (by first | exact True.intro | ((try dsimp only [CDiv, CMul, CDivN, CPow] at *) <;> omega) | ((try dsimp only [CDiv, CMul, CDivN, CPow] at *) <;> (simp only [List.length_map, List.length_append, List.length_cons, List.length_nil, List.length_reverse, strApp_len, len1, szl] at *) <;> omega) | rfl | exact of_decide_eq_true rfl) ?_; conv => whnf))
        rw [hsn] at h
        have e2 : ((rows.map trD).length : Int) - 1 - (0 + (i : Int)) = ((rows.length - 1 - i : Nat) : Int) := by rw [List.length_map]; omega
        rw [e2]
        exact fin0 rfl h
      · refine no_of (by simp [e]) ?_
        rw [if_neg (fun z => e (Option.some.inj z))] at hsn
        (try conv => whnf); repeat (first | (refine And.intro (fun e => Bool.noConfusion (show (false : Bool) = true from e)) (fun _ => ?_); conv => whnf) | (refine And.intro (fun _ => ?_) (fun e => Bool.noConfusion (show (true : Bool) = false from e)); conv => whnf) | (refine And.intro (by first | exact True.intro | ((try dsimp only [CDiv, CMul, CDivN, CPow] at *) <;> omega) | ((try dsimp only [CDiv, CMul, CDivN, CPow] at *) <;> (simp only [List.length_map, List.length_append, List.length_cons, List.length_nil, List.length_reverse, strApp_len, len1, szl] at *) <;> omega) | rfl | exact of_decide_eq_true rfl) ?_; conv => whnf))
        exact hk _ ⟨_, _, _, by omega, hsn, rfl⟩
    · have hbn : bName notes r = none := by unfold bName; rw [hp]; show (if 0 ≤ p.2 then _ else _) = _; rw [if_neg c]
      rw [hbn] at hsn
      refine no_of (by simp; omega) ?_
      rw [if_neg (by simp)] at hsn
      (try conv => whnf); repeat (first | (refine And.intro (fun e => Bool.noConfusion (show (false : Bool) = true from e)) (fun _ => ?_); conv => whnf) | (refine And.intro (fun _ => ?_) (fun e => Bool.noConfusion (show (true : Bool) = false from e)); conv => whnf) | (refine And.intro (by first | exact True.intro | ((try dsimp only [CDiv, CMul, CDivN, CPow] at *) <;> omega) | ((try dsimp only [CDiv, CMul, CDivN, CPow] at *) <;> (simp only [List.length_map, List.length_append, List.length_cons, List.length_nil, List.length_reverse, strApp_len, len1, szl] at *) <;> omega) | rfl | exact of_decide_eq_true rfl) ?_; conv => whnf))
      exact hk _ ⟨_, _, _, by omega, hsn, rfl⟩

def sp__law_sees : FV := fun ds gs Q _ => ∃ (sh : List SRow) (n o : Nat) (s : SRow), gs = [.lst (sh.map srD)] ∧ ds = [.gh 0, .int n, .int o] ∧ n < sh.length ∧ sh[o]? = some s ∧ sh.length ≤ 1000 ∧ hUp (sh.map (·.1)) ∧ Q (.fz (.bl (decide (s.1 ∈ hOf (sh.map (·.1)) n)))) gs

def fb__law_sees : FS := sSeq (sAsg 3 (fOp gIx (fOp gIx (fVar 0) (fVar 1)) (fC (.int 0))))
  (sSeq (sWhile (fTest (fOp gGe (fVar 3) (fC (.int 0)))) (sSeq (sIf (fTest (fOp (gEq false) (fOp gIx (fOp gIx (fVar 0) (fVar 2)) (fC (.int 0))) (fVar 3))) (sRet (fC (.bl true))) (sNil))
  (sAsg 3 (fOp gIx (fOp gIx (fVar 0) (fVar 3)) (fC (.int 0))))))
  (sRet (fOp (gEq false) (fOp gIx (fOp gIx (fVar 0) (fVar 2)) (fC (.int 0))) (fUn gNeg (fC (.int 1))))))
theorem bd__law_sees : ∀ ds gs Q Qe, sp__law_sees ds gs Q Qe → bodyV 4 fb__law_sees ds gs Q Qe := by
  rintro ds gs Q Qe ⟨sh, n, o, s, rfl, rfl, hn, ho, hl, up, h⟩
  have hat : sh[n]? = some sh[n] := List.getElem?_eq_getElem hn
  (try conv => whnf); repeat (first | (refine And.intro (fun e => Bool.noConfusion (show (false : Bool) = true from e)) (fun _ => ?_); conv => whnf) | (refine And.intro (fun _ => ?_) (fun e => Bool.noConfusion (show (true : Bool) = false from e)); conv => whnf) | (refine And.intro (by first | exact True.intro | ((try dsimp only [CDiv, CMul, CDivN, CPow] at *) <;> omega) | ((try dsimp only [CDiv, CMul, CDivN, CPow] at *) <;> (simp only [List.length_map, List.length_append, List.length_cons, List.length_nil, List.length_reverse, strApp_len, len1, szl] at *) <;> omega) | rfl | exact of_decide_eq_true rfl) ?_; conv => whnf))
  refine bindO_atk srD rfl hat ?_
  (try conv => whnf); repeat (first | (refine And.intro (fun e => Bool.noConfusion (show (false : Bool) = true from e)) (fun _ => ?_); conv => whnf) | (refine And.intro (fun _ => ?_) (fun e => Bool.noConfusion (show (true : Bool) = false from e)); conv => whnf) | (refine And.intro (by first | exact True.intro | ((try dsimp only [CDiv, CMul, CDivN, CPow] at *) <;> omega) | ((try dsimp only [CDiv, CMul, CDivN, CPow] at *) <;> (simp only [List.length_map, List.length_append, List.length_cons, List.length_nil, List.length_reverse, strApp_len, len1, szl] at *) <;> omega) | rfl | exact of_decide_eq_true rfl) ?_; conv => whnf))
  have hgd : (sh.map (·.1)).getD n (-1) = sh[n].1 := by rw [List.getD_eq_getElem?_getD, List.getElem?_map, hat]; rfl
  have hun := up n sh[n].1 (by rw [List.getElem?_map, hat]; rfl)
  refine while_ind (fun k m => ∃ (v : Int), k = (v + 1).toNat ∧ v < sh.length ∧ (s.1 ∈ hOf (sh.map (·.1)) n ↔ s.1 = -1 ∨ s.1 ∈ hCh (sh.map (·.1)) (sh.map (·.1)).length v) ∧ m = ⟨[.val (.gh 0), .val (.int n), .val (.int o), .val (.int v)], [.lst (sh.map srD)]⟩) ?_ (n := (sh[n].1 + 1).toNat) ⟨sh[n].1, rfl, by omega, by unfold hOf; rw [hgd, List.mem_cons], rfl⟩
  rintro k m ⟨v, rfl, hv, he, rfl⟩
  (try conv => whnf); repeat (first | (refine And.intro (fun e => Bool.noConfusion (show (false : Bool) = true from e)) (fun _ => ?_); conv => whnf) | (refine And.intro (fun _ => ?_) (fun e => Bool.noConfusion (show (true : Bool) = false from e)); conv => whnf) | (refine And.intro (by first | exact True.intro | ((try dsimp only [CDiv, CMul, CDivN, CPow] at *) <;> omega) | ((try dsimp only [CDiv, CMul, CDivN, CPow] at *) <;> (simp only [List.length_map, List.length_append, List.length_cons, List.length_nil, List.length_reverse, strApp_len, len1, szl] at *) <;> omega) | rfl | exact of_decide_eq_true rfl) ?_; conv => whnf))
  refine And.intro (fun c => ?_) (fun c => ?_)
  · have c : 0 ≤ v := by simpa using c
    obtain ⟨j, rfl⟩ := Int.eq_ofNat_of_zero_le c
    have hj : j < sh.length := by omega
    have haj : sh[j]? = some sh[j] := List.getElem?_eq_getElem hj
    have huj := up j sh[j].1 (by rw [List.getElem?_map, haj]; rfl)
    have hjg : (sh.map (·.1)).getD ((j : Int)).toNat (-1) = sh[j].1 := by rw [Int.toNat_natCast, List.getD_eq_getElem?_getD, List.getElem?_map, haj]; rfl
    have hst : hCh (sh.map (·.1)) (sh.map (·.1)).length (j : Int) = (j : Int) :: hCh (sh.map (·.1)) (sh.map (·.1)).length sh[j].1 := by
      rw [hCh_fuel up (sh.map (·.1)).length ((sh.map (·.1)).length + 1) (j : Int) (by simp; omega) (by simp; omega) (by simp; omega)]
      show (if 0 ≤ (j : Int) then (j : Int) :: hCh (sh.map (·.1)) (sh.map (·.1)).length ((sh.map (·.1)).getD ((j : Int)).toNat (-1)) else []) = _
      rw [if_pos c, hjg]
    rw [hst, List.mem_cons] at he
    (try conv => whnf); repeat (first | (refine And.intro (fun e => Bool.noConfusion (show (false : Bool) = true from e)) (fun _ => ?_); conv => whnf) | (refine And.intro (fun _ => ?_) (fun e => Bool.noConfusion (show (true : Bool) = false from e)); conv => whnf) | (refine And.intro (by first | exact True.intro | ((try dsimp only [CDiv, CMul, CDivN, CPow] at *) <;> omega) | ((try dsimp only [CDiv, CMul, CDivN, CPow] at *) <;> (simp only [List.length_map, List.length_append, List.length_cons, List.length_nil, List.length_reverse, strApp_len, len1, szl] at *) <;> omega) | rfl | exact of_decide_eq_true rfl) ?_; conv => whnf))
    refine bindO_atk srD rfl ho ?_
    (try conv => whnf); repeat (first | (refine And.intro (fun e => Bool.noConfusion (show (false : Bool) = true from e)) (fun _ => ?_); conv => whnf) | (refine And.intro (fun _ => ?_) (fun e => Bool.noConfusion (show (true : Bool) = false from e)); conv => whnf) | (refine And.intro (by first | exact True.intro | ((try dsimp only [CDiv, CMul, CDivN, CPow] at *) <;> omega) | ((try dsimp only [CDiv, CMul, CDivN, CPow] at *) <;> (simp only [List.length_map, List.length_append, List.length_cons, List.length_nil, List.length_reverse, strApp_len, len1, szl] at *) <;> omega) | rfl | exact of_decide_eq_true rfl) ?_; conv => whnf))
    by_cases e : s.1 = j
    · refine yes_of (by simp [e]) ?_
      (try conv => whnf); repeat (first | (refine And.intro (fun e => Bool.noConfusion (show (false : Bool) = true from e)) (fun _ => ?_); conv => whnf) | (refine And.intro (fun _ => ?_) (fun e => Bool.noConfusion (show (true : Bool) = false from e)); conv => whnf) | (refine And.intro (by first | exact True.intro | ((try dsimp only [CDiv, CMul, CDivN, CPow] at *) <;> omega) | ((try dsimp only [CDiv, CMul, CDivN, CPow] at *) <;> (simp only [List.length_map, List.length_append, List.length_cons, List.length_nil, List.length_reverse, strApp_len, len1, szl] at *) <;> omega) | rfl | exact of_decide_eq_true rfl) ?_; conv => whnf))
      rw [decide_eq_true (he.mpr (.inr (.inl e)))] at h
      exact fin0 rfl h
    · refine no_of (by simp [e]) ?_
      (try conv => whnf); repeat (first | (refine And.intro (fun e => Bool.noConfusion (show (false : Bool) = true from e)) (fun _ => ?_); conv => whnf) | (refine And.intro (fun _ => ?_) (fun e => Bool.noConfusion (show (true : Bool) = false from e)); conv => whnf) | (refine And.intro (by first | exact True.intro | ((try dsimp only [CDiv, CMul, CDivN, CPow] at *) <;> omega) | ((try dsimp only [CDiv, CMul, CDivN, CPow] at *) <;> (simp only [List.length_map, List.length_append, List.length_cons, List.length_nil, List.length_reverse, strApp_len, len1, szl] at *) <;> omega) | rfl | exact of_decide_eq_true rfl) ?_; conv => whnf))
      refine bindO_atk srD rfl haj ?_
      (try conv => whnf); repeat (first | (refine And.intro (fun e => Bool.noConfusion (show (false : Bool) = true from e)) (fun _ => ?_); conv => whnf) | (refine And.intro (fun _ => ?_) (fun e => Bool.noConfusion (show (true : Bool) = false from e)); conv => whnf) | (refine And.intro (by first | exact True.intro | ((try dsimp only [CDiv, CMul, CDivN, CPow] at *) <;> omega) | ((try dsimp only [CDiv, CMul, CDivN, CPow] at *) <;> (simp only [List.length_map, List.length_append, List.length_cons, List.length_nil, List.length_reverse, strApp_len, len1, szl] at *) <;> omega) | rfl | exact of_decide_eq_true rfl) ?_; conv => whnf))
      exact ⟨(sh[j].1 + 1).toNat, by omega, sh[j].1, rfl, by omega, by rw [he]; simp [e], rfl⟩
  · have c : ¬ 0 ≤ v := by simpa using c
    rw [hCh_neg _ c] at he
    (try conv => whnf); repeat (first | (refine And.intro (fun e => Bool.noConfusion (show (false : Bool) = true from e)) (fun _ => ?_); conv => whnf) | (refine And.intro (fun _ => ?_) (fun e => Bool.noConfusion (show (true : Bool) = false from e)); conv => whnf) | (refine And.intro (by first | exact True.intro | ((try dsimp only [CDiv, CMul, CDivN, CPow] at *) <;> omega) | ((try dsimp only [CDiv, CMul, CDivN, CPow] at *) <;> (simp only [List.length_map, List.length_append, List.length_cons, List.length_nil, List.length_reverse, strApp_len, len1, szl] at *) <;> omega) | rfl | exact of_decide_eq_true rfl) ?_; conv => whnf))
    refine bindO_atk srD rfl ho ?_
    (try conv => whnf); repeat (first | (refine And.intro (fun e => Bool.noConfusion (show (false : Bool) = true from e)) (fun _ => ?_); conv => whnf) | (refine And.intro (fun _ => ?_) (fun e => Bool.noConfusion (show (true : Bool) = false from e)); conv => whnf) | (refine And.intro (by first | exact True.intro | ((try dsimp only [CDiv, CMul, CDivN, CPow] at *) <;> omega) | ((try dsimp only [CDiv, CMul, CDivN, CPow] at *) <;> (simp only [List.length_map, List.length_append, List.length_cons, List.length_nil, List.length_reverse, strApp_len, len1, szl] at *) <;> omega) | rfl | exact of_decide_eq_true rfl) ?_; conv => whnf))
    refine fin0 rfl ?_
    have he : s.1 ∈ hOf (sh.map (·.1)) n ↔ s.1 = -1 := by rw [he]; simp
    rw [decide_eq_decide.mpr he] at h
    exact h

def sp__law_whole : FV := fun ds gs Q _ => ∃ i : Int, ds = [.int i] ∧ Q (.fz (.bl true)) gs

def fb__law_whole : FS := sRet (fAndV (fUn (gIsiT .int) (fVar 0)) (fNotV (fUn (gIsiT .bool) (fVar 0))))
theorem bd__law_whole : ∀ ds gs Q Qe, sp__law_whole ds gs Q Qe → bodyV 1 fb__law_whole ds gs Q Qe := by
  rintro ds gs Q Qe ⟨i, rfl, h⟩
  conv => whnf
  exact ⟨fun _ => fin0 rfl h, fun c => by cases c⟩

def sp__law_told_right : FV := fun ds gs Q _ => ∃ (sh : List SRow) (hl : List Int) (notes : List (Int × Int)) (n : Nat) (name : Str), gs = [.lst (sh.map srD)] ∧ ds = [bAns (bFind sh hl notes name n), .gh 0, .lst (notes.map ntD), .int n, .str name] ∧ hl = hOf (sh.map (·.1)) n ∧ n < sh.length ∧ sh.length ≤ 1000 ∧ hUp (sh.map (·.1)) ∧
  (∀ s ∈ sh, s.2.length ≤ 1000 ∧ ∀ r ∈ s.2, bOk notes r) ∧ Q (.fz (.bl true)) gs

def fb__law_told_right : FS := sSeq (sAsg 5 (fUn gNeg (fC (.int 1))))
  (sSeq (sFor (iRange1 (fVar 3)) (gNm 6) (sIf (fAnd (fTest (fCall 3 sp__law_sees (aCons (fShare 1) (aCons (fVar 3) (aCons (fVar 6) (aNil)))))) (fTest (fOp gGe (fCall 3 sp__law_bound_in (aCons (fOp gIx (fOp gIx (fVar 1) (fVar 6)) (fC (.int 1))) (aCons (fVar 2) (aCons (fVar 4) (aNil))))) (fC (.int 0))))) (sAsg 5 (fVar 6)) (sNil)))
  (sSeq (sIf (fTest (fOp gLt (fVar 5) (fC (.int 0)))) (sRet (fOp (gIs false) (fVar 0) (fC .non))) (sNil))
  (sSeq (sIf (fOr (fNot (fTest (fUn (gIsiT .tuple) (fVar 0)))) (fOr (fTest (fOp (gEq true) (fUn gLen (fVar 0)) (fC (.int 2)))) (fOr (fNot (fTest (fCall 1 sp__law_whole (aCons (fOp gIx (fVar 0) (fC (.int 0))) (aNil))))) (fNot (fTest (fCall 1 sp__law_whole (aCons (fOp gIx (fVar 0) (fC (.int 1))) (aNil)))))))) (sRet (fC (.bl false))) (sNil))
  (sRet (fAndV (fOp (gEq false) (fOp gIx (fVar 0) (fC (.int 0))) (fVar 5)) (fOp (gEq false) (fOp gIx (fVar 0) (fC (.int 1))) (fCall 3 sp__law_bound_in (aCons (fOp gIx (fOp gIx (fVar 1) (fVar 5)) (fC (.int 1))) (aCons (fVar 2) (aCons (fVar 4) (aNil)))))))))))
theorem bd__law_told_right : ∀ ds gs Q Qe, sp__law_told_right ds gs Q Qe → bodyV 7 fb__law_told_right ds gs Q Qe := by
  rintro ds gs Q Qe ⟨sh, hl, notes, n, name, rfl, rfl, hhl, hn, hl2, up, ok, h⟩
  have hcase := bFind_lastH (sh := sh) (hl := hl) (notes := notes) (name := name) n (by omega)
  generalize bFind sh hl notes name n = ans at *
  (try conv => whnf); repeat (first | (refine And.intro (fun e => Bool.noConfusion (show (false : Bool) = true from e)) (fun _ => ?_); conv => whnf) | (refine And.intro (fun _ => ?_) (fun e => Bool.noConfusion (show (true : Bool) = false from e)); conv => whnf) | (refine And.intro (by first | exact True.intro | ((try dsimp only [CDiv, CMul, CDivN, CPow] at *) <;> omega) | ((try dsimp only [CDiv, CMul, CDivN, CPow] at *) <;> (simp only [List.length_map, List.length_append, List.length_cons, List.length_nil, List.length_reverse, strApp_len, len1, szl] at *) <;> omega) | rfl | exact of_decide_eq_true rfl) ?_; conv => whnf))
  refine forR_range (fun i m => ∃ x6 : Sl, i ≤ n ∧ m = ⟨[.val (bAns ans), .val (.gh 0), .val (.lst (notes.map ntD)), .val (.int n), .val (.str name), .val (.int (bLastH sh hl notes name i)), x6], [.lst (sh.map srD)]⟩) ?_ ?_ ⟨.no, by omega, rfl⟩
  · rintro m ⟨x6, _, rfl⟩
    refine ⟨trivial, ?_⟩
    have hN : ((n : Int)).toNat = n := by omega
    rw [hN]
    rcases hcase with ⟨h1, h2⟩ | ⟨p, s, h1, h2, h3, h4⟩
    · subst h2
      (try conv => whnf); repeat (first | (refine And.intro (fun e => Bool.noConfusion (show (false : Bool) = true from e)) (fun _ => ?_); conv => whnf) | (refine And.intro (fun _ => ?_) (fun e => Bool.noConfusion (show (true : Bool) = false from e)); conv => whnf) | (refine And.intro (by first | exact True.intro | ((try dsimp only [CDiv, CMul, CDivN, CPow] at *) <;> omega) | ((try dsimp only [CDiv, CMul, CDivN, CPow] at *) <;> (simp only [List.length_map, List.length_append, List.length_cons, List.length_nil, List.length_reverse, strApp_len, len1, szl] at *) <;> omega) | rfl | exact of_decide_eq_true rfl) ?_; conv => whnf))
      refine yes_of (by simp [h1]) ?_
      (try conv => whnf); repeat (first | (refine And.intro (fun e => Bool.noConfusion (show (false : Bool) = true from e)) (fun _ => ?_); conv => whnf) | (refine And.intro (fun _ => ?_) (fun e => Bool.noConfusion (show (true : Bool) = false from e)); conv => whnf) | (refine And.intro (by first | exact True.intro | ((try dsimp only [CDiv, CMul, CDivN, CPow] at *) <;> omega) | ((try dsimp only [CDiv, CMul, CDivN, CPow] at *) <;> (simp only [List.length_map, List.length_append, List.length_cons, List.length_nil, List.length_reverse, strApp_len, len1, szl] at *) <;> omega) | rfl | exact of_decide_eq_true rfl) ?_; conv => whnf))
      exact fin0 rfl h
    · subst h4
      obtain ⟨o1, o2⟩ := ok s (List.mem_of_getElem? h2)
      rw [h3]
      (try conv => whnf); repeat (first | (refine And.intro (fun e => Bool.noConfusion (show (false : Bool) = true from e)) (fun _ => ?_); conv => whnf) | (refine And.intro (fun _ => ?_) (fun e => Bool.noConfusion (show (true : Bool) = false from e)); conv => whnf) | (refine And.intro (by first | exact True.intro | ((try dsimp only [CDiv, CMul, CDivN, CPow] at *) <;> omega) | ((try dsimp only [CDiv, CMul, CDivN, CPow] at *) <;> (simp only [List.length_map, List.length_append, List.length_cons, List.length_nil, List.length_reverse, strApp_len, len1, szl] at *) <;> omega) | rfl | exact of_decide_eq_true rfl) ?_; conv => whnf))
      refine ⟨_, rfl, ?_⟩
      (try conv => whnf); repeat (first | (refine And.intro (fun e => Bool.noConfusion (show (false : Bool) = true from e)) (fun _ => ?_); conv => whnf) | (refine And.intro (fun _ => ?_) (fun e => Bool.noConfusion (show (true : Bool) = false from e)); conv => whnf) | (refine And.intro (by first | exact True.intro | ((try dsimp only [CDiv, CMul, CDivN, CPow] at *) <;> omega) | ((try dsimp only [CDiv, CMul, CDivN, CPow] at *) <;> (simp only [List.length_map, List.length_append, List.length_cons, List.length_nil, List.length_reverse, strApp_len, len1, szl] at *) <;> omega) | rfl | exact of_decide_eq_true rfl) ?_; conv => whnf))
      refine ⟨_, rfl, ?_⟩
      (try conv => whnf); repeat (first | (refine And.intro (fun e => Bool.noConfusion (show (false : Bool) = true from e)) (fun _ => ?_); conv => whnf) | (refine And.intro (fun _ => ?_) (fun e => Bool.noConfusion (show (true : Bool) = false from e)); conv => whnf) | (refine And.intro (by first | exact True.intro | ((try dsimp only [CDiv, CMul, CDivN, CPow] at *) <;> omega) | ((try dsimp only [CDiv, CMul, CDivN, CPow] at *) <;> (simp only [List.length_map, List.length_append, List.length_cons, List.length_nil, List.length_reverse, strApp_len, len1, szl] at *) <;> omega) | rfl | exact of_decide_eq_true rfl) ?_; conv => whnf))
      refine yes_of (by simp) ?_
      (try conv => whnf); repeat (first | (refine And.intro (fun e => Bool.noConfusion (show (false : Bool) = true from e)) (fun _ => ?_); conv => whnf) | (refine And.intro (fun _ => ?_) (fun e => Bool.noConfusion (show (true : Bool) = false from e)); conv => whnf) | (refine And.intro (by first | exact True.intro | ((try dsimp only [CDiv, CMul, CDivN, CPow] at *) <;> omega) | ((try dsimp only [CDiv, CMul, CDivN, CPow] at *) <;> (simp only [List.length_map, List.length_append, List.length_cons, List.length_nil, List.length_reverse, strApp_len, len1, szl] at *) <;> omega) | rfl | exact of_decide_eq_true rfl) ?_; conv => whnf))
      refine bindO_atk srD (n := p) rfl h2 ?_
      (try conv => whnf); repeat (first | (refine And.intro (fun e => Bool.noConfusion (show (false : Bool) = true from e)) (fun _ => ?_); conv => whnf) | (refine And.intro (fun _ => ?_) (fun e => Bool.noConfusion (show (true : Bool) = false from e)); conv => whnf) | (refine And.intro (by first | exact True.intro | ((try dsimp only [CDiv, CMul, CDivN, CPow] at *) <;> omega) | ((try dsimp only [CDiv, CMul, CDivN, CPow] at *) <;> (simp only [List.length_map, List.length_append, List.length_cons, List.length_nil, List.length_reverse, strApp_len, len1, szl] at *) <;> omega) | rfl | exact of_decide_eq_true rfl) ?_; conv => whnf))
      refine ⟨s.2, notes, name, rfl, o2, o1, ?_⟩
      (try conv => whnf); repeat (first | (refine And.intro (fun e => Bool.noConfusion (show (false : Bool) = true from e)) (fun _ => ?_); conv => whnf) | (refine And.intro (fun _ => ?_) (fun e => Bool.noConfusion (show (true : Bool) = false from e)); conv => whnf) | (refine And.intro (by first | exact True.intro | ((try dsimp only [CDiv, CMul, CDivN, CPow] at *) <;> omega) | ((try dsimp only [CDiv, CMul, CDivN, CPow] at *) <;> (simp only [List.length_map, List.length_append, List.length_cons, List.length_nil, List.length_reverse, strApp_len, len1, szl] at *) <;> omega) | rfl | exact of_decide_eq_true rfl) ?_; conv => whnf))
      refine fin0 rfl ?_
      have e : decide (bIn notes name s.2 = bIn notes name s.2) = true := decide_eq_true rfl
      show Q (.fz (.bl (if false = true then !decide (bIn notes name s.2 = bIn notes name s.2) else decide (bIn notes name s.2 = bIn notes name s.2)))) [.lst (sh.map srD)]
      rw [e]
      exact h
  · rintro i m hi ⟨x6, _, rfl⟩
    have hi : i < n := by simpa using hi
    have hat : sh[i]? = some sh[i] := List.getElem?_eq_getElem (by omega)
    obtain ⟨o1, o2⟩ := ok _ (List.getElem_mem (show i < sh.length by omega))
    refine ⟨trivial, fun k hk => ?_⟩
    have e1 : bLastH sh hl notes name (i + 1) = if sh[i].1 ∈ hl ∧ 0 ≤ bIn notes name sh[i].2 then (i : Int) else bLastH sh hl notes name i := by
      show (match sh[i]? with | some s => _ | none => _) = _
      rw [hat]
    rw [e1] at hk
    generalize sh[i] = s at *
    rw [Int.zero_add]
    (try conv => whnf); repeat (first | (refine And.intro (fun e => Bool.noConfusion (show (false : Bool) = true from e)) (fun _ => ?_); conv => whnf) | (refine And.intro (fun _ => ?_) (fun e => Bool.noConfusion (show (true : Bool) = false from e)); conv => whnf) | (refine And.intro (by first | exact True.intro | ((try dsimp only [CDiv, CMul, CDivN, CPow] at *) <;> omega) | ((try dsimp only [CDiv, CMul, CDivN, CPow] at *) <;> (simp only [List.length_map, List.length_append, List.length_cons, List.length_nil, List.length_reverse, strApp_len, len1, szl] at *) <;> omega) | rfl | exact of_decide_eq_true rfl) ?_; conv => whnf))
    refine ⟨sh, n, i, s, rfl, rfl, hn, hat, hl2, up, ?_⟩
    rw [← hhl]
    (try conv => whnf); repeat (first | (refine And.intro (fun e => Bool.noConfusion (show (false : Bool) = true from e)) (fun _ => ?_); conv => whnf) | (refine And.intro (fun _ => ?_) (fun e => Bool.noConfusion (show (true : Bool) = false from e)); conv => whnf) | (refine And.intro (by first | exact True.intro | ((try dsimp only [CDiv, CMul, CDivN, CPow] at *) <;> omega) | ((try dsimp only [CDiv, CMul, CDivN, CPow] at *) <;> (simp only [List.length_map, List.length_append, List.length_cons, List.length_nil, List.length_reverse, strApp_len, len1, szl] at *) <;> omega) | rfl | exact of_decide_eq_true rfl) ?_; conv => whnf))
    by_cases m1 : s.1 ∈ hl
    · refine yes_of (by simp [m1]) ?_
      (try conv => whnf); repeat (first | (refine And.intro (fun e => Bool.noConfusion (show (false : Bool) = true from e)) (fun _ => ?_); conv => whnf) | (refine And.intro (fun _ => ?_) (fun e => Bool.noConfusion (show (true : Bool) = false from e)); conv => whnf) | (refine And.intro (by first | exact True.intro | ((try dsimp only [CDiv, CMul, CDivN, CPow] at *) <;> omega) | ((try dsimp only [CDiv, CMul, CDivN, CPow] at *) <;> (simp only [List.length_map, List.length_append, List.length_cons, List.length_nil, List.length_reverse, strApp_len, len1, szl] at *) <;> omega) | rfl | exact of_decide_eq_true rfl) ?_; conv => whnf))
      refine bindO_atk srD (n := i) (by (first | ((try dsimp only [CDiv, CMul, CDivN, CPow] at *) <;> omega) | ((try dsimp only [CDiv, CMul, CDivN, CPow] at *) <;> (simp only [List.length_map, List.length_append, List.length_cons, List.length_nil, List.length_reverse, strApp_len, len1, szl] at *) <;> omega))) hat ?_
      (try conv => whnf); repeat (first | (refine And.intro (fun e => Bool.noConfusion (show (false : Bool) = true from e)) (fun _ => ?_); conv => whnf) | (refine And.intro (fun _ => ?_) (fun e => Bool.noConfusion (show (true : Bool) = false from e)); conv => whnf) | (refine And.intro (by first | exact True.intro | ((try dsimp only [CDiv, CMul, CDivN, CPow] at *) <;> omega) | ((try dsimp only [CDiv, CMul, CDivN, CPow] at *) <;> (simp only [List.length_map, List.length_append, List.length_cons, List.length_nil, List.length_reverse, strApp_len, len1, szl] at *) <;> omega) | rfl | exact of_decide_eq_true rfl) ?_; conv => whnf))
      refine ⟨s.2, notes, name, rfl, o2, o1, ?_⟩
      (try conv => whnf); repeat (first | (refine And.intro (fun e => Bool.noConfusion (show (false : Bool) = true from e)) (fun _ => ?_); conv => whnf) | (refine And.intro (fun _ => ?_) (fun e => Bool.noConfusion (show (true : Bool) = false from e)); conv => whnf) | (refine And.intro (by first | exact True.intro | ((try dsimp only [CDiv, CMul, CDivN, CPow] at *) <;> omega) | ((try dsimp only [CDiv, CMul, CDivN, CPow] at *) <;> (simp only [List.length_map, List.length_append, List.length_cons, List.length_nil, List.length_reverse, strApp_len, len1, szl] at *) <;> omega) | rfl | exact of_decide_eq_true rfl) ?_; conv => whnf))
      by_cases m2 : 0 ≤ bIn notes name s.2
      · refine yes_of (by simp [m2]) ?_
        rw [if_pos ⟨m1, m2⟩] at hk
        (try conv => whnf); repeat (first | (refine And.intro (fun e => Bool.noConfusion (show (false : Bool) = true from e)) (fun _ => ?_); conv => whnf) | (refine And.intro (fun _ => ?_) (fun e => Bool.noConfusion (show (true : Bool) = false from e)); conv => whnf) | (refine And.intro (by first | exact True.intro | ((try dsimp only [CDiv, CMul, CDivN, CPow] at *) <;> omega) | ((try dsimp only [CDiv, CMul, CDivN, CPow] at *) <;> (simp only [List.length_map, List.length_append, List.length_cons, List.length_nil, List.length_reverse, strApp_len, len1, szl] at *) <;> omega) | rfl | exact of_decide_eq_true rfl) ?_; conv => whnf))
        exact hk _ ⟨.val (.int i), by omega, rfl⟩
      · refine no_of (by simp; omega) ?_
        rw [if_neg (fun z => m2 z.2)] at hk
        (try conv => whnf); repeat (first | (refine And.intro (fun e => Bool.noConfusion (show (false : Bool) = true from e)) (fun _ => ?_); conv => whnf) | (refine And.intro (fun _ => ?_) (fun e => Bool.noConfusion (show (true : Bool) = false from e)); conv => whnf) | (refine And.intro (by first | exact True.intro | ((try dsimp only [CDiv, CMul, CDivN, CPow] at *) <;> omega) | ((try dsimp only [CDiv, CMul, CDivN, CPow] at *) <;> (simp only [List.length_map, List.length_append, List.length_cons, List.length_nil, List.length_reverse, strApp_len, len1, szl] at *) <;> omega) | rfl | exact of_decide_eq_true rfl) ?_; conv => whnf))
        exact hk _ ⟨_, by omega, rfl⟩
    · refine no_of (by simp [m1]) ?_
      rw [if_neg (fun z => m1 z.1)] at hk
      (try conv => whnf); repeat (first | (refine And.intro (fun e => Bool.noConfusion (show (false : Bool) = true from e)) (fun _ => ?_); conv => whnf) | (refine And.intro (fun _ => ?_) (fun e => Bool.noConfusion (show (true : Bool) = false from e)); conv => whnf) | (refine And.intro (by first | exact True.intro | ((try dsimp only [CDiv, CMul, CDivN, CPow] at *) <;> omega) | ((try dsimp only [CDiv, CMul, CDivN, CPow] at *) <;> (simp only [List.length_map, List.length_append, List.length_cons, List.length_nil, List.length_reverse, strApp_len, len1, szl] at *) <;> omega) | rfl | exact of_decide_eq_true rfl) ?_; conv => whnf))
      exact hk _ ⟨_, by omega, rfl⟩

def sp_bound_in : FV := fun ds gs Q _ => ∃ (rows : List TRow) (notes : List (Int × Int)) (name : Str), ds = [.lst (rows.map trD), .lst (notes.map ntD), .str name] ∧ (∀ r ∈ rows, bOk notes r) ∧ rows.length ≤ 1000 ∧ Q (.fz (.int (bIn notes name rows))) gs

def fb_bound_in : FS := sSeq (sAsg 3 (fUn gNeg (fC (.int 1))))
  (sSeq (sFor (iEnumD (fVar 0)) (gTp 2 (gsCons (gNm 4) (gsCons (gNm 5) (gsNil)))) (sSeq (sAsg 6 (fOp gIx (fOp gIx (fVar 1) (fOp gIx (fVar 5) (fC (.int 1)))) (fC (.int 1))))
  (sIf (fAnd (fTest (fOp gGe (fVar 6) (fC (.int 0)))) (fTest (fOp (gEq false) (fOp gIx (fOp gIx (fOp gIx (fVar 5) (fC (.int 2))) (fVar 6)) (fC (.int 1))) (fVar 2)))) (sAsg 3 (fVar 4)) (sNil))))
  (sRet (fVar 3)))
theorem bd_bound_in : ∀ ds gs Q Qe, sp_bound_in ds gs Q Qe → bodyV 7 fb_bound_in ds gs Q Qe := by
  rintro ds gs Q Qe ⟨rows, notes, name, rfl, ok, hl, h⟩
  (try conv => whnf); repeat (first | (refine And.intro (fun e => Bool.noConfusion (show (false : Bool) = true from e)) (fun _ => ?_); conv => whnf) | (refine And.intro (fun _ => ?_) (fun e => Bool.noConfusion (show (true : Bool) = false from e)); conv => whnf) | (refine And.intro (by first | exact True.intro | ((try dsimp only [CDiv, CMul, CDivN, CPow] at *) <;> omega) | ((try dsimp only [CDiv, CMul, CDivN, CPow] at *) <;> (simp only [List.length_map, List.length_append, List.length_cons, List.length_nil, List.length_reverse, strApp_len, len1, szl] at *) <;> omega) | rfl | exact of_decide_eq_true rfl) ?_; conv => whnf))
  refine forR_enum (xs := rows) trD rfl (fun pre m => ∃ (x4 x5 x6 : Sl), m = ⟨[.val (.lst (rows.map trD)), .val (.lst (notes.map ntD)), .val (.str name), .val (.int (bIn notes name pre)), x4, x5, x6], gs⟩) ?_ ?_ ⟨.no, .no, .no, rfl⟩
  · rintro m ⟨x4, x5, x6, rfl⟩
    refine ⟨trivial, ?_⟩
    (try conv => whnf); repeat (first | (refine And.intro (fun e => Bool.noConfusion (show (false : Bool) = true from e)) (fun _ => ?_); conv => whnf) | (refine And.intro (fun _ => ?_) (fun e => Bool.noConfusion (show (true : Bool) = false from e)); conv => whnf) | (refine And.intro (by first | exact True.intro | ((try dsimp only [CDiv, CMul, CDivN, CPow] at *) <;> omega) | ((try dsimp only [CDiv, CMul, CDivN, CPow] at *) <;> (simp only [List.length_map, List.length_append, List.length_cons, List.length_nil, List.length_reverse, strApp_len, len1, szl] at *) <;> omega) | rfl | exact of_decide_eq_true rfl) ?_; conv => whnf))
    exact fin0 rfl h
  · rintro pre r rest m hd ⟨x4, x5, x6, rfl⟩
    refine ⟨trivial, fun k hk => ?_⟩
    obtain ⟨p, hp, hq⟩ := ok r (by rw [hd]; simp)
    rw [bIn_snoc] at hk
    (try conv => whnf); repeat (first | (refine And.intro (fun e => Bool.noConfusion (show (false : Bool) = true from e)) (fun _ => ?_); conv => whnf) | (refine And.intro (fun _ => ?_) (fun e => Bool.noConfusion (show (true : Bool) = false from e)); conv => whnf) | (refine And.intro (by first | exact True.intro | ((try dsimp only [CDiv, CMul, CDivN, CPow] at *) <;> omega) | ((try dsimp only [CDiv, CMul, CDivN, CPow] at *) <;> (simp only [List.length_map, List.length_append, List.length_cons, List.length_nil, List.length_reverse, strApp_len, len1, szl] at *) <;> omega) | rfl | exact of_decide_eq_true rfl) ?_; conv => whnf))
    refine bindO_atk ntD rfl hp ?_
    (try conv => whnf); repeat (first | (refine And.intro (fun e => Bool.noConfusion (show (false : Bool) = true from e)) (fun _ => ?_); conv => whnf) | (refine And.intro (fun _ => ?_) (fun e => Bool.noConfusion (show (true : Bool) = false from e)); conv => whnf) | (refine And.intro (by first | exact True.intro | ((try dsimp only [CDiv, CMul, CDivN, CPow] at *) <;> omega) | ((try dsimp only [CDiv, CMul, CDivN, CPow] at *) <;> (simp only [List.length_map, List.length_append, List.length_cons, List.length_nil, List.length_reverse, strApp_len, len1, szl] at *) <;> omega) | rfl | exact of_decide_eq_true rfl) ?_; conv => whnf))
    by_cases c : 0 ≤ p.2
    · obtain ⟨q, t, ht⟩ := hq c
      have hb : bName notes r = some t := by unfold bName; rw [hp]; show (if 0 ≤ p.2 then _ else _) = _; rw [if_pos c, ht]
      rw [hb] at hk
      refine yes_of (by simp [c]) ?_
      (try conv => whnf); repeat (first | (refine And.intro (fun e => Bool.noConfusion (show (false : Bool) = true from e)) (fun _ => ?_); conv => whnf) | (refine And.intro (fun _ => ?_) (fun e => Bool.noConfusion (show (true : Bool) = false from e)); conv => whnf) | (refine And.intro (by first | exact True.intro | ((try dsimp only [CDiv, CMul, CDivN, CPow] at *) <;> omega) | ((try dsimp only [CDiv, CMul, CDivN, CPow] at *) <;> (simp only [List.length_map, List.length_append, List.length_cons, List.length_nil, List.length_reverse, strApp_len, len1, szl] at *) <;> omega) | rfl | exact of_decide_eq_true rfl) ?_; conv => whnf))
      refine bindO_atk tpD (n := p.2.toNat) (by omega) ht ?_
      (try conv => whnf); repeat (first | (refine And.intro (fun e => Bool.noConfusion (show (false : Bool) = true from e)) (fun _ => ?_); conv => whnf) | (refine And.intro (fun _ => ?_) (fun e => Bool.noConfusion (show (true : Bool) = false from e)); conv => whnf) | (refine And.intro (by first | exact True.intro | ((try dsimp only [CDiv, CMul, CDivN, CPow] at *) <;> omega) | ((try dsimp only [CDiv, CMul, CDivN, CPow] at *) <;> (simp only [List.length_map, List.length_append, List.length_cons, List.length_nil, List.length_reverse, strApp_len, len1, szl] at *) <;> omega) | rfl | exact of_decide_eq_true rfl) ?_; conv => whnf))
      by_cases e : t = name
      · refine yes_of (by simp [e]) ?_
        (try conv => whnf); repeat (first | (refine And.intro (fun e => Bool.noConfusion (show (false : Bool) = true from e)) (fun _ => ?_); conv => whnf) | (refine And.intro (fun _ => ?_) (fun e => Bool.noConfusion (show (true : Bool) = false from e)); conv => whnf) | (refine And.intro (by first | exact True.intro | ((try dsimp only [CDiv, CMul, CDivN, CPow] at *) <;> omega) | ((try dsimp only [CDiv, CMul, CDivN, CPow] at *) <;> (simp only [List.length_map, List.length_append, List.length_cons, List.length_nil, List.length_reverse, strApp_len, len1, szl] at *) <;> omega) | rfl | exact of_decide_eq_true rfl) ?_; conv => whnf))
        rw [if_pos (by rw [e])] at hk
        exact hk _ ⟨_, _, _, rfl⟩
      · refine no_of (by simp [e]) ?_
        (try conv => whnf); repeat (first | (refine And.intro (fun e => Bool.noConfusion (show (false : Bool) = true from e)) (fun _ => ?_); conv => whnf) | (refine And.intro (fun _ => ?_) (fun e => Bool.noConfusion (show (true : Bool) = false from e)); conv => whnf) | (refine And.intro (by first | exact True.intro | ((try dsimp only [CDiv, CMul, CDivN, CPow] at *) <;> omega) | ((try dsimp only [CDiv, CMul, CDivN, CPow] at *) <;> (simp only [List.length_map, List.length_append, List.length_cons, List.length_nil, List.length_reverse, strApp_len, len1, szl] at *) <;> omega) | rfl | exact of_decide_eq_true rfl) ?_; conv => whnf))
        rw [if_neg (fun z => e (Option.some.inj z))] at hk
        exact hk _ ⟨_, _, _, rfl⟩
    · have hb : bName notes r = none := by unfold bName; rw [hp]; show (if 0 ≤ p.2 then _ else _) = _; rw [if_neg c]
      rw [hb] at hk
      refine no_of (by simp; omega) ?_
      (try conv => whnf); repeat (first | (refine And.intro (fun e => Bool.noConfusion (show (false : Bool) = true from e)) (fun _ => ?_); conv => whnf) | (refine And.intro (fun _ => ?_) (fun e => Bool.noConfusion (show (true : Bool) = false from e)); conv => whnf) | (refine And.intro (by first | exact True.intro | ((try dsimp only [CDiv, CMul, CDivN, CPow] at *) <;> omega) | ((try dsimp only [CDiv, CMul, CDivN, CPow] at *) <;> (simp only [List.length_map, List.length_append, List.length_cons, List.length_nil, List.length_reverse, strApp_len, len1, szl] at *) <;> omega) | rfl | exact of_decide_eq_true rfl) ?_; conv => whnf))
      exact hk _ ⟨_, _, _, rfl⟩

def sp_holders_of : FV := fun ds gs Q _ => ∃ (sh : List (Int × D)) (n : Nat), gs = [.lst (sh.map shD)] ∧ ds = [.gh 0, .int n] ∧ n < sh.length ∧ sh.length ≤ 1000 ∧ hUp (sh.map (·.1)) ∧ Q (.tmp (.lst ((hOf (sh.map (·.1)) n).map .int))) gs

def fb_holders_of : FS := sSeq (sAsg 2 (fLst (aCons (fUn gNeg (fC (.int 1))) (aNil))))
  (sSeq (sAsg 3 (fOp gIx (fOp gIx (fVar 0) (fVar 1)) (fC (.int 0))))
  (sSeq (sWhile (fTest (fOp gGe (fVar 3) (fC (.int 0)))) (sSeq (sExpr (fMm "list" gAppend (fVar 2) (aCons (fVar 3) (aNil))))
  (sAsg 3 (fOp gIx (fOp gIx (fVar 0) (fVar 3)) (fC (.int 0))))))
  (sRet (fVar 2))))
theorem bd_holders_of : ∀ ds gs Q Qe, sp_holders_of ds gs Q Qe → bodyV 4 fb_holders_of ds gs Q Qe := by
  rintro ds gs Q Qe ⟨sh, n, rfl, rfl, hn, hl, up, h⟩
  have hat : sh[n]? = some sh[n] := List.getElem?_eq_getElem hn
  (try conv => whnf); repeat (first | (refine And.intro (fun e => Bool.noConfusion (show (false : Bool) = true from e)) (fun _ => ?_); conv => whnf) | (refine And.intro (fun _ => ?_) (fun e => Bool.noConfusion (show (true : Bool) = false from e)); conv => whnf) | (refine And.intro (by first | exact True.intro | ((try dsimp only [CDiv, CMul, CDivN, CPow] at *) <;> omega) | ((try dsimp only [CDiv, CMul, CDivN, CPow] at *) <;> (simp only [List.length_map, List.length_append, List.length_cons, List.length_nil, List.length_reverse, strApp_len, len1, szl] at *) <;> omega) | rfl | exact of_decide_eq_true rfl) ?_; conv => whnf))
  refine bindO_of (at_map (f := shD) hat) ?_
  (try conv => whnf); repeat (first | (refine And.intro (fun e => Bool.noConfusion (show (false : Bool) = true from e)) (fun _ => ?_); conv => whnf) | (refine And.intro (fun _ => ?_) (fun e => Bool.noConfusion (show (true : Bool) = false from e)); conv => whnf) | (refine And.intro (by first | exact True.intro | ((try dsimp only [CDiv, CMul, CDivN, CPow] at *) <;> omega) | ((try dsimp only [CDiv, CMul, CDivN, CPow] at *) <;> (simp only [List.length_map, List.length_append, List.length_cons, List.length_nil, List.length_reverse, strApp_len, len1, szl] at *) <;> omega) | rfl | exact of_decide_eq_true rfl) ?_; conv => whnf))
  have hgd : (sh.map (·.1)).getD n (-1) = sh[n].1 := by rw [List.getD_eq_getElem?_getD, List.getElem?_map, hat]; rfl
  have hun := up n sh[n].1 (by rw [List.getElem?_map, hat]; rfl)
  refine while_ind (fun k m => ∃ (v : Int) (done : List Int), k = (v + 1).toNat ∧ v < sh.length ∧ done.length + k ≤ sh.length + 1 ∧ done ++ hCh (sh.map (·.1)) (sh.map (·.1)).length v = hOf (sh.map (·.1)) n ∧ m = ⟨[.val (.gh 0), .val (.int n), .own (.lst (done.map .int)), .val (.int v)], [.lst (sh.map shD)]⟩) ?_ (n := (sh[n].1 + 1).toNat) ⟨sh[n].1, [-1], rfl, by omega, by simp; omega, by unfold hOf; rw [hgd]; rfl, rfl⟩
  rintro k m ⟨v, done, rfl, hv, hd, he, rfl⟩
  (try conv => whnf); repeat (first | (refine And.intro (fun e => Bool.noConfusion (show (false : Bool) = true from e)) (fun _ => ?_); conv => whnf) | (refine And.intro (fun _ => ?_) (fun e => Bool.noConfusion (show (true : Bool) = false from e)); conv => whnf) | (refine And.intro (by first | exact True.intro | ((try dsimp only [CDiv, CMul, CDivN, CPow] at *) <;> omega) | ((try dsimp only [CDiv, CMul, CDivN, CPow] at *) <;> (simp only [List.length_map, List.length_append, List.length_cons, List.length_nil, List.length_reverse, strApp_len, len1, szl] at *) <;> omega) | rfl | exact of_decide_eq_true rfl) ?_; conv => whnf))
  refine And.intro (fun c => ?_) (fun c => ?_)
  · have c : 0 ≤ v := by simpa using c
    obtain ⟨j, rfl⟩ := Int.eq_ofNat_of_zero_le c
    have hj : j < sh.length := by omega
    have haj : sh[j]? = some sh[j] := List.getElem?_eq_getElem hj
    have huj := up j sh[j].1 (by rw [List.getElem?_map, haj]; rfl)
    (try conv => whnf); repeat (first | (refine And.intro (fun e => Bool.noConfusion (show (false : Bool) = true from e)) (fun _ => ?_); conv => whnf) | (refine And.intro (fun _ => ?_) (fun e => Bool.noConfusion (show (true : Bool) = false from e)); conv => whnf) | (refine And.intro (by first | exact True.intro | ((try dsimp only [CDiv, CMul, CDivN, CPow] at *) <;> omega) | ((try dsimp only [CDiv, CMul, CDivN, CPow] at *) <;> (simp only [List.length_map, List.length_append, List.length_cons, List.length_nil, List.length_reverse, strApp_len, len1, szl] at *) <;> omega) | rfl | exact of_decide_eq_true rfl) ?_; conv => whnf))
    refine bindO_of (at_map (f := shD) haj) ?_
    (try conv => whnf); repeat (first | (refine And.intro (fun e => Bool.noConfusion (show (false : Bool) = true from e)) (fun _ => ?_); conv => whnf) | (refine And.intro (fun _ => ?_) (fun e => Bool.noConfusion (show (true : Bool) = false from e)); conv => whnf) | (refine And.intro (by first | exact True.intro | ((try dsimp only [CDiv, CMul, CDivN, CPow] at *) <;> omega) | ((try dsimp only [CDiv, CMul, CDivN, CPow] at *) <;> (simp only [List.length_map, List.length_append, List.length_cons, List.length_nil, List.length_reverse, strApp_len, len1, szl] at *) <;> omega) | rfl | exact of_decide_eq_true rfl) ?_; conv => whnf))
    refine ⟨(sh[j].1 + 1).toNat, by omega, sh[j].1, done ++ [(j : Int)], rfl, by omega, by simp; omega, ?_, by rw [List.map_append]; rfl⟩
    rw [← he, List.append_assoc]
    congr 1
    have hjg : (sh.map (·.1)).getD ((j : Int)).toNat (-1) = sh[j].1 := by rw [Int.toNat_natCast, List.getD_eq_getElem?_getD, List.getElem?_map, haj]; rfl
    rw [hCh_fuel up (sh.map (·.1)).length ((sh.map (·.1)).length + 1) (j : Int) (by simp; omega) (by simp; omega) (by simp; omega)]
    show _ = (if 0 ≤ (j : Int) then (j : Int) :: hCh (sh.map (·.1)) (sh.map (·.1)).length ((sh.map (·.1)).getD ((j : Int)).toNat (-1)) else [])
    rw [if_pos c, hjg]
    rfl
  · have c : ¬ 0 ≤ v := by simpa using c
    rw [hCh_neg _ c, List.append_nil] at he
    (try conv => whnf); repeat (first | (refine And.intro (fun e => Bool.noConfusion (show (false : Bool) = true from e)) (fun _ => ?_); conv => whnf) | (refine And.intro (fun _ => ?_) (fun e => Bool.noConfusion (show (true : Bool) = false from e)); conv => whnf) | (refine And.intro (by first | exact True.intro | ((try dsimp only [CDiv, CMul, CDivN, CPow] at *) <;> omega) | ((try dsimp only [CDiv, CMul, CDivN, CPow] at *) <;> (simp only [List.length_map, List.length_append, List.length_cons, List.length_nil, List.length_reverse, strApp_len, len1, szl] at *) <;> omega) | rfl | exact of_decide_eq_true rfl) ?_; conv => whnf))
    rw [he]
    exact fin0 rfl h

def sp_binder : FV := fun ds gs Q _ => ∃ (sh : List SRow) (notes : List (Int × Int)) (n : Nat) (name : Str), gs = [.lst (sh.map srD)] ∧ ds = [.gh 0, .lst (notes.map ntD), .int n, .str name] ∧ n < sh.length ∧ sh.length ≤ 1000 ∧ hUp (sh.map (·.1)) ∧ (∀ s ∈ sh, s.2.length ≤ 1000 ∧ ∀ r ∈ s.2, bOk notes r) ∧
  Q (.fz (bAns (bFind sh (hOf (sh.map (·.1)) n) notes name n))) gs

def fb_binder : FS := sSeq (sAsg 4 (fCall 2 sp_holders_of (aCons (fShare 0) (aCons (fVar 2) (aNil)))))
  (sSeq (sAsg 5 (fOp gSub (fVar 2) (fC (.int 1))))
  (sSeq (sWhile (fTest (fOp gGe (fVar 5) (fC (.int 0)))) (sSeq (sIf (fTest (fOp (gIn false) (fOp gIx (fOp gIx (fVar 0) (fVar 5)) (fC (.int 0))) (fVar 4))) (sSeq (sAsg 6 (fCall 3 sp_bound_in (aCons (fOp gIx (fOp gIx (fVar 0) (fVar 5)) (fC (.int 1))) (aCons (fVar 1) (aCons (fVar 3) (aNil))))))
  (sIf (fTest (fOp gGe (fVar 6) (fC (.int 0)))) (sRet (fTup (aCons (fVar 5) (aCons (fVar 6) (aNil))))) (sNil))) (sNil))
  (sAug 5 gSub (fC (.int 1)))))
  (sRet (fC .non))))
theorem bd_binder : ∀ ds gs Q Qe, sp_binder ds gs Q Qe → bodyV 7 fb_binder ds gs Q Qe := by
  rintro ds gs Q Qe ⟨sh, notes, n, name, rfl, rfl, hn, hl, up, ok, h⟩
  (try conv => whnf); repeat (first | (refine And.intro (fun e => Bool.noConfusion (show (false : Bool) = true from e)) (fun _ => ?_); conv => whnf) | (refine And.intro (fun _ => ?_) (fun e => Bool.noConfusion (show (true : Bool) = false from e)); conv => whnf) | (refine And.intro (by first | exact True.intro | ((try dsimp only [CDiv, CMul, CDivN, CPow] at *) <;> omega) | ((try dsimp only [CDiv, CMul, CDivN, CPow] at *) <;> (simp only [List.length_map, List.length_append, List.length_cons, List.length_nil, List.length_reverse, strApp_len, len1, szl] at *) <;> omega) | rfl | exact of_decide_eq_true rfl) ?_; conv => whnf))
  refine ⟨sh.map fun s => (s.1, .lst (s.2.map trD)), n, ?_, rfl, by simpa using hn, by simpa using hl, by rw [List.map_map]; exact up, ?_⟩
  · rw [List.map_map]; rfl
  rw [List.map_map, show ((fun x : Int × D => x.1) ∘ fun s : SRow => ((s.1, D.lst (s.2.map trD)) : Int × D)) = fun s : SRow => s.1 from rfl]
  generalize hOf (sh.map fun s : SRow => s.1) n = hl0 at *
  (try conv => whnf); repeat (first | (refine And.intro (fun e => Bool.noConfusion (show (false : Bool) = true from e)) (fun _ => ?_); conv => whnf) | (refine And.intro (fun _ => ?_) (fun e => Bool.noConfusion (show (true : Bool) = false from e)); conv => whnf) | (refine And.intro (by first | exact True.intro | ((try dsimp only [CDiv, CMul, CDivN, CPow] at *) <;> omega) | ((try dsimp only [CDiv, CMul, CDivN, CPow] at *) <;> (simp only [List.length_map, List.length_append, List.length_cons, List.length_nil, List.length_reverse, strApp_len, len1, szl] at *) <;> omega) | rfl | exact of_decide_eq_true rfl) ?_; conv => whnf))
  refine while_ind (fun k m => ∃ x6 : Sl, k ≤ n ∧ bFind sh hl0 notes name n = bFind sh hl0 notes name k ∧ m = ⟨[.val (.gh 0), .val (.lst (notes.map ntD)), .val (.int n), .val (.str name), .own (.lst (hl0.map .int)), .val (.int ((k : Int) - 1)), x6], [.lst (sh.map srD)]⟩) ?_ (n := n) ⟨.no, Nat.le_refl _, rfl, rfl⟩
  rintro k m ⟨x6, hk, hb, rfl⟩
  (try conv => whnf); repeat (first | (refine And.intro (fun e => Bool.noConfusion (show (false : Bool) = true from e)) (fun _ => ?_); conv => whnf) | (refine And.intro (fun _ => ?_) (fun e => Bool.noConfusion (show (true : Bool) = false from e)); conv => whnf) | (refine And.intro (by first | exact True.intro | ((try dsimp only [CDiv, CMul, CDivN, CPow] at *) <;> omega) | ((try dsimp only [CDiv, CMul, CDivN, CPow] at *) <;> (simp only [List.length_map, List.length_append, List.length_cons, List.length_nil, List.length_reverse, strApp_len, len1, szl] at *) <;> omega) | rfl | exact of_decide_eq_true rfl) ?_; conv => whnf))
  refine And.intro (fun c => ?_) (fun c => ?_)
  · have c : 0 ≤ (k : Int) - 1 := by simpa using c
    obtain ⟨p, rfl⟩ : ∃ p, k = p + 1 := ⟨k - 1, by omega⟩
    have hp : p < sh.length := by omega
    have hat : sh[p]? = some sh[p] := List.getElem?_eq_getElem hp
    obtain ⟨o1, o2⟩ := ok _ (List.getElem_mem hp)
    have hst : bFind sh hl0 notes name (p + 1) = if sh[p].1 ∈ hl0 ∧ 0 ≤ bIn notes name sh[p].2 then some (p, bIn notes name sh[p].2) else bFind sh hl0 notes name p := by
      show (match sh[p]? with | some s => _ | none => none) = _
      rw [hat]
    rw [hst] at hb
    have e1 : (((p + 1 : Nat) : Int) - 1) = (p : Int) := by omega
    generalize sh[p] = s at *
    (try conv => whnf); repeat (first | (refine And.intro (fun e => Bool.noConfusion (show (false : Bool) = true from e)) (fun _ => ?_); conv => whnf) | (refine And.intro (fun _ => ?_) (fun e => Bool.noConfusion (show (true : Bool) = false from e)); conv => whnf) | (refine And.intro (by first | exact True.intro | ((try dsimp only [CDiv, CMul, CDivN, CPow] at *) <;> omega) | ((try dsimp only [CDiv, CMul, CDivN, CPow] at *) <;> (simp only [List.length_map, List.length_append, List.length_cons, List.length_nil, List.length_reverse, strApp_len, len1, szl] at *) <;> omega) | rfl | exact of_decide_eq_true rfl) ?_; conv => whnf))
    refine bindO_atk srD (n := p) e1 hat ?_
    (try conv => whnf); repeat (first | (refine And.intro (fun e => Bool.noConfusion (show (false : Bool) = true from e)) (fun _ => ?_); conv => whnf) | (refine And.intro (fun _ => ?_) (fun e => Bool.noConfusion (show (true : Bool) = false from e)); conv => whnf) | (refine And.intro (by first | exact True.intro | ((try dsimp only [CDiv, CMul, CDivN, CPow] at *) <;> omega) | ((try dsimp only [CDiv, CMul, CDivN, CPow] at *) <;> (simp only [List.length_map, List.length_append, List.length_cons, List.length_nil, List.length_reverse, strApp_len, len1, szl] at *) <;> omega) | rfl | exact of_decide_eq_true rfl) ?_; conv => whnf))
    refine bindO_of (inO_e hl0 s.1 (by decide)) ?_
    (try conv => whnf); repeat (first | (refine And.intro (fun e => Bool.noConfusion (show (false : Bool) = true from e)) (fun _ => ?_); conv => whnf) | (refine And.intro (fun _ => ?_) (fun e => Bool.noConfusion (show (true : Bool) = false from e)); conv => whnf) | (refine And.intro (by first | exact True.intro | ((try dsimp only [CDiv, CMul, CDivN, CPow] at *) <;> omega) | ((try dsimp only [CDiv, CMul, CDivN, CPow] at *) <;> (simp only [List.length_map, List.length_append, List.length_cons, List.length_nil, List.length_reverse, strApp_len, len1, szl] at *) <;> omega) | rfl | exact of_decide_eq_true rfl) ?_; conv => whnf))
    by_cases m1 : s.1 ∈ hl0
    · refine yes_of (by simp [m1]) ?_
      (try conv => whnf); repeat (first | (refine And.intro (fun e => Bool.noConfusion (show (false : Bool) = true from e)) (fun _ => ?_); conv => whnf) | (refine And.intro (fun _ => ?_) (fun e => Bool.noConfusion (show (true : Bool) = false from e)); conv => whnf) | (refine And.intro (by first | exact True.intro | ((try dsimp only [CDiv, CMul, CDivN, CPow] at *) <;> omega) | ((try dsimp only [CDiv, CMul, CDivN, CPow] at *) <;> (simp only [List.length_map, List.length_append, List.length_cons, List.length_nil, List.length_reverse, strApp_len, len1, szl] at *) <;> omega) | rfl | exact of_decide_eq_true rfl) ?_; conv => whnf))
      refine bindO_atk srD (n := p) e1 hat ?_
      (try conv => whnf); repeat (first | (refine And.intro (fun e => Bool.noConfusion (show (false : Bool) = true from e)) (fun _ => ?_); conv => whnf) | (refine And.intro (fun _ => ?_) (fun e => Bool.noConfusion (show (true : Bool) = false from e)); conv => whnf) | (refine And.intro (by first | exact True.intro | ((try dsimp only [CDiv, CMul, CDivN, CPow] at *) <;> omega) | ((try dsimp only [CDiv, CMul, CDivN, CPow] at *) <;> (simp only [List.length_map, List.length_append, List.length_cons, List.length_nil, List.length_reverse, strApp_len, len1, szl] at *) <;> omega) | rfl | exact of_decide_eq_true rfl) ?_; conv => whnf))
      refine ⟨s.2, notes, name, rfl, o2, o1, ?_⟩
      (try conv => whnf); repeat (first | (refine And.intro (fun e => Bool.noConfusion (show (false : Bool) = true from e)) (fun _ => ?_); conv => whnf) | (refine And.intro (fun _ => ?_) (fun e => Bool.noConfusion (show (true : Bool) = false from e)); conv => whnf) | (refine And.intro (by first | exact True.intro | ((try dsimp only [CDiv, CMul, CDivN, CPow] at *) <;> omega) | ((try dsimp only [CDiv, CMul, CDivN, CPow] at *) <;> (simp only [List.length_map, List.length_append, List.length_cons, List.length_nil, List.length_reverse, strApp_len, len1, szl] at *) <;> omega) | rfl | exact of_decide_eq_true rfl) ?_; conv => whnf))
      by_cases m2 : 0 ≤ bIn notes name s.2
      · refine yes_of (by simp [m2]) ?_
        (try conv => whnf); repeat (first | (refine And.intro (fun e => Bool.noConfusion (show (false : Bool) = true from e)) (fun _ => ?_); conv => whnf) | (refine And.intro (fun _ => ?_) (fun e => Bool.noConfusion (show (true : Bool) = false from e)); conv => whnf) | (refine And.intro (by first | exact True.intro | ((try dsimp only [CDiv, CMul, CDivN, CPow] at *) <;> omega) | ((try dsimp only [CDiv, CMul, CDivN, CPow] at *) <;> (simp only [List.length_map, List.length_append, List.length_cons, List.length_nil, List.length_reverse, strApp_len, len1, szl] at *) <;> omega) | rfl | exact of_decide_eq_true rfl) ?_; conv => whnf))
        rw [hb, if_pos ⟨m1, m2⟩] at h
        rw [e1]
        exact fin0 rfl h
      · refine no_of (by simp; omega) ?_
        (try conv => whnf); repeat (first | (refine And.intro (fun e => Bool.noConfusion (show (false : Bool) = true from e)) (fun _ => ?_); conv => whnf) | (refine And.intro (fun _ => ?_) (fun e => Bool.noConfusion (show (true : Bool) = false from e)); conv => whnf) | (refine And.intro (by first | exact True.intro | ((try dsimp only [CDiv, CMul, CDivN, CPow] at *) <;> omega) | ((try dsimp only [CDiv, CMul, CDivN, CPow] at *) <;> (simp only [List.length_map, List.length_append, List.length_cons, List.length_nil, List.length_reverse, strApp_len, len1, szl] at *) <;> omega) | rfl | exact of_decide_eq_true rfl) ?_; conv => whnf))
        rw [if_neg (fun z => m2 z.2)] at hb
        rw [e1]
        exact ⟨p, by omega, _, by omega, hb, rfl⟩
    · refine no_of (by simp [m1]) ?_
      (try conv => whnf); repeat (first | (refine And.intro (fun e => Bool.noConfusion (show (false : Bool) = true from e)) (fun _ => ?_); conv => whnf) | (refine And.intro (fun _ => ?_) (fun e => Bool.noConfusion (show (true : Bool) = false from e)); conv => whnf) | (refine And.intro (by first | exact True.intro | ((try dsimp only [CDiv, CMul, CDivN, CPow] at *) <;> omega) | ((try dsimp only [CDiv, CMul, CDivN, CPow] at *) <;> (simp only [List.length_map, List.length_append, List.length_cons, List.length_nil, List.length_reverse, strApp_len, len1, szl] at *) <;> omega) | rfl | exact of_decide_eq_true rfl) ?_; conv => whnf))
      rw [if_neg (fun z => m1 z.1)] at hb
      rw [e1]
      exact ⟨p, by omega, _, by omega, hb, rfl⟩
  · have c : ¬ 0 ≤ (k : Int) - 1 := by simpa using c
    have hk0 : k = 0 := by omega
    subst hk0
    rw [hb] at h
    (try conv => whnf); repeat (first | (refine And.intro (fun e => Bool.noConfusion (show (false : Bool) = true from e)) (fun _ => ?_); conv => whnf) | (refine And.intro (fun _ => ?_) (fun e => Bool.noConfusion (show (true : Bool) = false from e)); conv => whnf) | (refine And.intro (by first | exact True.intro | ((try dsimp only [CDiv, CMul, CDivN, CPow] at *) <;> omega) | ((try dsimp only [CDiv, CMul, CDivN, CPow] at *) <;> (simp only [List.length_map, List.length_append, List.length_cons, List.length_nil, List.length_reverse, strApp_len, len1, szl] at *) <;> omega) | rfl | exact of_decide_eq_true rfl) ?_; conv => whnf))
    exact fin0 rfl h

def sp_law : FV := fun ds gs Q _ => ∃ ns : List Int, ns.length ≤ 63 ∧ gs = [] ∧ ds = [.kl (ns.map .int)] ∧ Q (.fz (.bl true)) gs
def akD (z : Nat × Str) : D := .tup [.int z.1, .str z.2]

@[irreducible] def fb_law_9 : FS := sSeq (sAsg 10 (fLst (aNil)))
  (sSeq (sFor (iLst (fVar 8)) (gTp 2 (gsCons (gNm 9) (gsCons (gNm 11) (gsNil)))) (sSeq (sAsg 12 (fCall 4 sp_binder (aCons (fShare 5) (aCons (fVar 2) (aCons (fVar 9) (aCons (fVar 11) (aNil)))))))
  (sSeq (sIf (fNot (fTest (fCall 5 sp__law_told_right (aCons (fVar 12) (aCons (fShare 5) (aCons (fVar 2) (aCons (fVar 9) (aCons (fVar 11) (aNil))))))))) (sRet (fC (.bl false))) (sNil))
  (sExpr (fMm "list" gAppend (fVar 10) (aCons (fVar 12) (aNil)))))))
  (sSeq (sExpr (fMm0 "list" gReverse (fVar 10)))
  (sRet (fOp (gEq false) (fLc (iLst (fUn gRevL (fVar 8))) (gTp 2 (gsCons (gNm 9) (gsCons (gNm 11) (gsNil)))) (tYesV) (fCall 4 sp_binder (aCons (fShare 5) (aCons (fVar 2) (aCons (fVar 9) (aCons (fVar 11) (aNil)))))) [9, 11]) (fVar 10)))))
theorem eq_law_9 : fb_law_9 = sSeq (sAsg 10 (fLst (aNil)))
  (sSeq (sFor (iLst (fVar 8)) (gTp 2 (gsCons (gNm 9) (gsCons (gNm 11) (gsNil)))) (sSeq (sAsg 12 (fCall 4 sp_binder (aCons (fShare 5) (aCons (fVar 2) (aCons (fVar 9) (aCons (fVar 11) (aNil)))))))
  (sSeq (sIf (fNot (fTest (fCall 5 sp__law_told_right (aCons (fVar 12) (aCons (fShare 5) (aCons (fVar 2) (aCons (fVar 9) (aCons (fVar 11) (aNil))))))))) (sRet (fC (.bl false))) (sNil))
  (sExpr (fMm "list" gAppend (fVar 10) (aCons (fVar 12) (aNil)))))))
  (sSeq (sExpr (fMm0 "list" gReverse (fVar 10)))
  (sRet (fOp (gEq false) (fLc (iLst (fUn gRevL (fVar 8))) (gTp 2 (gsCons (gNm 9) (gsCons (gNm 11) (gsNil)))) (tYesV) (fCall 4 sp_binder (aCons (fShare 5) (aCons (fVar 2) (aCons (fVar 9) (aCons (fVar 11) (aNil)))))) [9, 11]) (fVar 10))))) := by unfold fb_law_9; rfl
def fb_law : FS := sSeq (sAsg 1 (fKeep (fCall 2 sp__law_names (aCons (fCall 2 sp__law_cell_at (aCons (fVar 0) (aCons (fC (.int 0)) (aNil)))) (aCons (fC (.int 3)) (aNil))))))
  (sSeq (sAsg 2 (fKeep (fCall 1 sp__law_notes (aCons (fCall 2 sp__law_cell_at (aCons (fVar 0) (aCons (fC (.int 1)) (aNil)))) (aNil)))))
  (sSeq (sAsg 3 (fOp gAdd (fC (.int 1)) (fOp gMod (fCall 2 sp__law_cell_at (aCons (fVar 0) (aCons (fC (.int 2)) (aNil)))) (fOp gPow (fC (.int 10)) (fC (.int 59))))))
  (sSeq (sAsg 4 (fOp gAdd (fC (.int 1)) (fOp gMod (fCall 2 sp__law_cell_at (aCons (fVar 0) (aCons (fC (.int 3)) (aNil)))) (fC (.int 1000)))))
  (sSeq (sAsg 5 (fLst (aNil)))
  (sSeq (sFor (iLst (fSl (fVar 0) (oSome (fC (.int 4))) (oSome (fC (.int 20))))) (gNm 6) (sSeq (sAsg 7 (fCall 4 sp__law_rows (aCons (fVar 6) (aCons (fVar 1) (aCons (fOp gAdd (fVar 3) (fOp gMul (fOp gMul (fC (.int 100)) (fUn gLen (fVar 5))) (fVar 4))) (aCons (fVar 4) (aNil)))))))
  (sExpr (fMm "list" gAppend (fVar 5) (aCons (fTup (aCons (fCall 2 sp__law_holder (aCons (fShare 5) (aCons (fOp gMod (fOp gMul (fOp gMod (fVar 6) (fC (.int 2147483647))) (fC (.int 16807))) (fC (.int 999983))) (aNil)))) (aCons (fVar 7) (aNil)))) (aNil))))))
  (sSeq (sAsg 8 (fLst (aNil)))
  (sSeq (sFor (iRange1 (fUn gLen (fVar 5))) (gNm 9) (sExpr (fMm "list" gAppend (fVar 8) (aCons (fTup (aCons (fVar 9) (aCons (fOp gIx (fVar 1) (fOp gMod (fOp gDiv (fOp gIx (fVar 0) (fOp gAdd (fC (.int 4)) (fVar 9))) (fC (.int 3))) (fC (.int 3)))) (aNil)))) (aNil)))))
  (sSeq (sIf (fTest (fOp (gEq true) (fVar 5) (fLst (aNil)))) (sAsg 8 (fOp gAdd (fVar 8) (fLc (iLst (fVar 1)) (gNm 11) (tYesV) (fTup (aCons (fOp gSub (fUn gLen (fVar 5)) (fC (.int 1))) (aCons (fVar 11) (aNil)))) [11]))) (sNil))
  (fb_law_9)))))))))
theorem law_asked {ns : List Int} {names : List Str} {zs : List (Nat × Str)} {nts : List (Int × Int)} {sh : List SRow} {x3 x4 x5 x6 x7 x9 x10 x11 x12 : Sl} {gs : List D} {Q : Ret → List D → Prop} {Qe : Xc → List D → Prop} (hx5 : zs = [] ∨ (x5 = .val (.gh 0) ∧ gs = [.lst (sh.map srD)])) (hz : ∀ z ∈ zs, z.1 < sh.length) (hzl : zs.length ≤ 100) (hl : sh.length ≤ 63) (hup : hUp (sh.map (·.1))) (hok : ∀ s ∈ sh, s.2.length ≤ 1000 ∧ ∀ r ∈ s.2, bOk nts r)
    (h : Q (.fz (.bl true)) []) :
    fb_law_9 (endsB [] Q Qe) ⟨[.val (.kl (ns.map .int)), .val (.lst (names.map .str)), .val (.lst (nts.map ntD)), x3, x4, x5, x6, x7, .own (.lst (zs.map akD)), x9, x10, x11, x12], gs⟩ := by
  let F : Nat × Str → D := fun z => bAns (bFind sh (hOf (sh.map (·.1)) z.1) nts z.2 z.1)
  unfold fb_law_9
  (try conv => whnf); repeat (first | (refine And.intro (fun e => Bool.noConfusion (show (false : Bool) = true from e)) (fun _ => ?_); conv => whnf) | (refine And.intro (fun _ => ?_) (fun e => Bool.noConfusion (show (true : Bool) = false from e)); conv => whnf) | (refine And.intro (by first | exact True.intro | ((try dsimp only [CDiv, CMul, CDivN, CPow] at *) <;> omega) | ((try dsimp only [CDiv, CMul, CDivN, CPow] at *) <;> (simp only [List.length_map, List.length_append, List.length_cons, List.length_nil, List.length_reverse, strApp_len, len1, szl] at *) <;> omega) | rfl | exact of_decide_eq_true rfl) ?_; conv => whnf))
  refine forR_map akD (fun rest m => ∃ (done : List (Nat × Str)) (x9 x11 x12 : Sl), done ++ rest = zs ∧ m = (⟨[.val (.kl (ns.map .int)), .val (.lst (names.map .str)), .val (.lst (nts.map ntD)), x3, x4, x5, x6, x7, .val (.lst (zs.map akD)), x9, .own (.lst (done.map F)), x11, x12], gs⟩ : M)) ?_ ?_ zs _ ⟨[], _, _, _, rfl, rfl⟩
  · rintro m ⟨done, x9, x11, x12, hd, rfl⟩
    rw [List.append_nil] at hd
    subst hd
    refine ⟨trivial, ?_⟩
    (try conv => whnf); repeat (first | (refine And.intro (fun e => Bool.noConfusion (show (false : Bool) = true from e)) (fun _ => ?_); conv => whnf) | (refine And.intro (fun _ => ?_) (fun e => Bool.noConfusion (show (true : Bool) = false from e)); conv => whnf) | (refine And.intro (by first | exact True.intro | ((try dsimp only [CDiv, CMul, CDivN, CPow] at *) <;> omega) | ((try dsimp only [CDiv, CMul, CDivN, CPow] at *) <;> (simp only [List.length_map, List.length_append, List.length_cons, List.length_nil, List.length_reverse, strApp_len, len1, szl] at *) <;> omega) | rfl | exact of_decide_eq_true rfl) ?_; conv => whnf))
    rw [← List.map_reverse, ← List.map_reverse]
    refine lcR_map akD F (fun rest acc m => acc ++ rest = done.reverse ∧ m = (⟨[.val (.kl (ns.map .int)), .val (.lst (names.map .str)), .val (.lst (nts.map ntD)), x3, x4, x5, x6, x7, .val (.lst (done.map akD)), .no, .own (.lst (done.reverse.map F)), .no, x12], gs⟩ : M)) ?_ ?_ done.reverse [] _ ⟨rfl, rfl⟩
    · rintro acc m ⟨ha, rfl⟩
      refine ⟨trivial, ?_⟩
      rw [List.append_nil] at ha
      subst ha
      (try conv => whnf); repeat (first | (refine And.intro (fun e => Bool.noConfusion (show (false : Bool) = true from e)) (fun _ => ?_); conv => whnf) | (refine And.intro (fun _ => ?_) (fun e => Bool.noConfusion (show (true : Bool) = false from e)); conv => whnf) | (refine And.intro (by first | exact True.intro | ((try dsimp only [CDiv, CMul, CDivN, CPow] at *) <;> omega) | ((try dsimp only [CDiv, CMul, CDivN, CPow] at *) <;> (simp only [List.length_map, List.length_append, List.length_cons, List.length_nil, List.length_reverse, strApp_len, len1, szl] at *) <;> omega) | rfl | exact of_decide_eq_true rfl) ?_; conv => whnf))
      refine bindO_of (Pl.refl (Pl.mono (.lst (.map (fun z => bAns_pl _) _)) (by decide))) ?_
      (try conv => whnf); repeat (first | (refine And.intro (fun e => Bool.noConfusion (show (false : Bool) = true from e)) (fun _ => ?_); conv => whnf) | (refine And.intro (fun _ => ?_) (fun e => Bool.noConfusion (show (true : Bool) = false from e)); conv => whnf) | (refine And.intro (by first | exact True.intro | ((try dsimp only [CDiv, CMul, CDivN, CPow] at *) <;> omega) | ((try dsimp only [CDiv, CMul, CDivN, CPow] at *) <;> (simp only [List.length_map, List.length_append, List.length_cons, List.length_nil, List.length_reverse, strApp_len, len1, szl] at *) <;> omega) | rfl | exact of_decide_eq_true rfl) ?_; conv => whnf))
      exact ⟨.inr ⟨rfl, rfl⟩, h⟩
    · rintro z rest acc m ⟨ha, rfl⟩
      have hal := congrArg List.length ha
      simp only [List.length_append, List.length_cons, List.length_reverse] at hal
      have hzz := hz z (by rw [← List.mem_reverse, ← ha]; simp)
      refine ⟨trivial, fun k hk => ?_⟩
      rcases hx5 with e | ⟨rfl, rfl⟩
      · rw [e] at hal; simp at hal
      (try conv => whnf); repeat (first | (refine And.intro (fun e => Bool.noConfusion (show (false : Bool) = true from e)) (fun _ => ?_); conv => whnf) | (refine And.intro (fun _ => ?_) (fun e => Bool.noConfusion (show (true : Bool) = false from e)); conv => whnf) | (refine And.intro (by first | exact True.intro | ((try dsimp only [CDiv, CMul, CDivN, CPow] at *) <;> omega) | ((try dsimp only [CDiv, CMul, CDivN, CPow] at *) <;> (simp only [List.length_map, List.length_append, List.length_cons, List.length_nil, List.length_reverse, strApp_len, len1, szl] at *) <;> omega) | rfl | exact of_decide_eq_true rfl) ?_; conv => whnf))
      refine ⟨sh, nts, z.1, z.2, rfl, rfl, hzz, by omega, hup, hok, ?_⟩
      (try conv => whnf); repeat (first | (refine And.intro (fun e => Bool.noConfusion (show (false : Bool) = true from e)) (fun _ => ?_); conv => whnf) | (refine And.intro (fun _ => ?_) (fun e => Bool.noConfusion (show (true : Bool) = false from e)); conv => whnf) | (refine And.intro (by first | exact True.intro | ((try dsimp only [CDiv, CMul, CDivN, CPow] at *) <;> omega) | ((try dsimp only [CDiv, CMul, CDivN, CPow] at *) <;> (simp only [List.length_map, List.length_append, List.length_cons, List.length_nil, List.length_reverse, strApp_len, len1, szl] at *) <;> omega) | rfl | exact of_decide_eq_true rfl) ?_; conv => whnf))
      have y := hk (acc ++ [z]) _ ⟨by rw [List.append_assoc]; exact ha, rfl⟩
      rw [List.map_append] at y
      exact y
  · rintro z rest m ⟨done, x9, x11, x12, hd, rfl⟩
    have hal := congrArg List.length hd
    simp only [List.length_append, List.length_cons] at hal
    have hzz := hz z (by rw [← hd]; simp)
    refine ⟨trivial, fun k hk => ?_⟩
    rcases hx5 with e | ⟨rfl, rfl⟩
    · rw [e] at hal; simp at hal
    (try conv => whnf); repeat (first | (refine And.intro (fun e => Bool.noConfusion (show (false : Bool) = true from e)) (fun _ => ?_); conv => whnf) | (refine And.intro (fun _ => ?_) (fun e => Bool.noConfusion (show (true : Bool) = false from e)); conv => whnf) | (refine And.intro (by first | exact True.intro | ((try dsimp only [CDiv, CMul, CDivN, CPow] at *) <;> omega) | ((try dsimp only [CDiv, CMul, CDivN, CPow] at *) <;> (simp only [List.length_map, List.length_append, List.length_cons, List.length_nil, List.length_reverse, strApp_len, len1, szl] at *) <;> omega) | rfl | exact of_decide_eq_true rfl) ?_; conv => whnf))
    refine ⟨sh, nts, z.1, z.2, rfl, rfl, hzz, by omega, hup, hok, ?_⟩
    (try conv => whnf); repeat (first | (refine And.intro (fun e => Bool.noConfusion (show (false : Bool) = true from e)) (fun _ => ?_); conv => whnf) | (refine And.intro (fun _ => ?_) (fun e => Bool.noConfusion (show (true : Bool) = false from e)); conv => whnf) | (refine And.intro (by first | exact True.intro | ((try dsimp only [CDiv, CMul, CDivN, CPow] at *) <;> omega) | ((try dsimp only [CDiv, CMul, CDivN, CPow] at *) <;> (simp only [List.length_map, List.length_append, List.length_cons, List.length_nil, List.length_reverse, strApp_len, len1, szl] at *) <;> omega) | rfl | exact of_decide_eq_true rfl) ?_; conv => whnf))
    refine ⟨sh, _, nts, z.1, z.2, rfl, rfl, rfl, hzz, by omega, hup, hok, ?_⟩
    (try conv => whnf); repeat (first | (refine And.intro (fun e => Bool.noConfusion (show (false : Bool) = true from e)) (fun _ => ?_); conv => whnf) | (refine And.intro (fun _ => ?_) (fun e => Bool.noConfusion (show (true : Bool) = false from e)); conv => whnf) | (refine And.intro (by first | exact True.intro | ((try dsimp only [CDiv, CMul, CDivN, CPow] at *) <;> omega) | ((try dsimp only [CDiv, CMul, CDivN, CPow] at *) <;> (simp only [List.length_map, List.length_append, List.length_cons, List.length_nil, List.length_reverse, strApp_len, len1, szl] at *) <;> omega) | rfl | exact of_decide_eq_true rfl) ?_; conv => whnf))
    exact hk _ ⟨done ++ [z], _, _, _, by rw [List.append_assoc]; exact hd, by rw [List.map_append] <;> rfl⟩
theorem bd_law : ∀ ds gs Q Qe, sp_law ds gs Q Qe → bodyV 13 fb_law ds gs Q Qe := by
  rintro ds gs Q Qe ⟨ns, hns, rfl, rfl, h⟩
  (try conv => whnf); repeat (first | (refine And.intro (fun e => Bool.noConfusion (show (false : Bool) = true from e)) (fun _ => ?_); conv => whnf) | (refine And.intro (fun _ => ?_) (fun e => Bool.noConfusion (show (true : Bool) = false from e)); conv => whnf) | (refine And.intro (by first | exact True.intro | ((try dsimp only [CDiv, CMul, CDivN, CPow] at *) <;> omega) | ((try dsimp only [CDiv, CMul, CDivN, CPow] at *) <;> (simp only [List.length_map, List.length_append, List.length_cons, List.length_nil, List.length_reverse, strApp_len, len1, szl] at *) <;> omega) | rfl | exact of_decide_eq_true rfl) ?_; conv => whnf))
  refine ⟨ns, 0, rfl, ?_⟩
  (try conv => whnf); repeat (first | (refine And.intro (fun e => Bool.noConfusion (show (false : Bool) = true from e)) (fun _ => ?_); conv => whnf) | (refine And.intro (fun _ => ?_) (fun e => Bool.noConfusion (show (true : Bool) = false from e)); conv => whnf) | (refine And.intro (by first | exact True.intro | ((try dsimp only [CDiv, CMul, CDivN, CPow] at *) <;> omega) | ((try dsimp only [CDiv, CMul, CDivN, CPow] at *) <;> (simp only [List.length_map, List.length_append, List.length_cons, List.length_nil, List.length_reverse, strApp_len, len1, szl] at *) <;> omega) | rfl | exact of_decide_eq_true rfl) ?_; conv => whnf))
  refine ⟨_, 3, rfl, by decide, ?_⟩
  generalize ns.getD 0 0 = c0
  have hnl := lwNames_len c0 3
  generalize lwNames c0 3 = names at *
  (try conv => whnf); repeat (first | (refine And.intro (fun e => Bool.noConfusion (show (false : Bool) = true from e)) (fun _ => ?_); conv => whnf) | (refine And.intro (fun _ => ?_) (fun e => Bool.noConfusion (show (true : Bool) = false from e)); conv => whnf) | (refine And.intro (by first | exact True.intro | ((try dsimp only [CDiv, CMul, CDivN, CPow] at *) <;> omega) | ((try dsimp only [CDiv, CMul, CDivN, CPow] at *) <;> (simp only [List.length_map, List.length_append, List.length_cons, List.length_nil, List.length_reverse, strApp_len, len1, szl] at *) <;> omega) | rfl | exact of_decide_eq_true rfl) ?_; conv => whnf))
  refine ⟨ns, 1, rfl, ?_⟩
  (try conv => whnf); repeat (first | (refine And.intro (fun e => Bool.noConfusion (show (false : Bool) = true from e)) (fun _ => ?_); conv => whnf) | (refine And.intro (fun _ => ?_) (fun e => Bool.noConfusion (show (true : Bool) = false from e)); conv => whnf) | (refine And.intro (by first | exact True.intro | ((try dsimp only [CDiv, CMul, CDivN, CPow] at *) <;> omega) | ((try dsimp only [CDiv, CMul, CDivN, CPow] at *) <;> (simp only [List.length_map, List.length_append, List.length_cons, List.length_nil, List.length_reverse, strApp_len, len1, szl] at *) <;> omega) | rfl | exact of_decide_eq_true rfl) ?_; conv => whnf))
  refine ⟨_, rfl, fun nts hn8 hnt => ?_⟩
  (try conv => whnf); repeat (first | (refine And.intro (fun e => Bool.noConfusion (show (false : Bool) = true from e)) (fun _ => ?_); conv => whnf) | (refine And.intro (fun _ => ?_) (fun e => Bool.noConfusion (show (true : Bool) = false from e)); conv => whnf) | (refine And.intro (by first | exact True.intro | ((try dsimp only [CDiv, CMul, CDivN, CPow] at *) <;> omega) | ((try dsimp only [CDiv, CMul, CDivN, CPow] at *) <;> (simp only [List.length_map, List.length_append, List.length_cons, List.length_nil, List.length_reverse, strApp_len, len1, szl] at *) <;> omega) | rfl | exact of_decide_eq_true rfl) ?_; conv => whnf))
  refine ⟨ns, 2, rfl, ?_⟩
  (try conv => whnf); repeat (first | (refine And.intro (fun e => Bool.noConfusion (show (false : Bool) = true from e)) (fun _ => ?_); conv => whnf) | (refine And.intro (fun _ => ?_) (fun e => Bool.noConfusion (show (true : Bool) = false from e)); conv => whnf) | (refine And.intro (by first | exact True.intro | ((try dsimp only [CDiv, CMul, CDivN, CPow] at *) <;> omega) | ((try dsimp only [CDiv, CMul, CDivN, CPow] at *) <;> (simp only [List.length_map, List.length_append, List.length_cons, List.length_nil, List.length_reverse, strApp_len, len1, szl] at *) <;> omega) | rfl | exact of_decide_eq_true rfl) ?_; conv => whnf))
  refine ⟨ns, 3, rfl, ?_⟩
  (try conv => whnf); repeat (first | (refine And.intro (fun e => Bool.noConfusion (show (false : Bool) = true from e)) (fun _ => ?_); conv => whnf) | (refine And.intro (fun _ => ?_) (fun e => Bool.noConfusion (show (true : Bool) = false from e)); conv => whnf) | (refine And.intro (by first | exact True.intro | ((try dsimp only [CDiv, CMul, CDivN, CPow] at *) <;> omega) | ((try dsimp only [CDiv, CMul, CDivN, CPow] at *) <;> (simp only [List.length_map, List.length_append, List.length_cons, List.length_nil, List.length_reverse, strApp_len, len1, szl] at *) <;> omega) | rfl | exact of_decide_eq_true rfl) ?_; conv => whnf))
  rw [cutD_map]
  have hcl := cutD_len ns (some 4) (some 20)
  have hc2 : ∀ i, i < (VL.cutD ns (some 4) (some 20)).length → 4 + i < ns.length := fun i hi => (cut_len2 ns 4 20 i hi).1
  generalize VL.cutD ns (some 4) (some 20) = cs at *
  refine forR_map D.int (fun rest m => ∃ (sh : List SRow) (x5 x6 x7 : Sl) (gs : List D), sh.length + rest.length = cs.length ∧ hUp (sh.map (·.1)) ∧ (∀ s ∈ sh, s.2.length ≤ 20 ∧ ∀ r ∈ s.2, rOk r) ∧
    ((sh = [] ∧ x5 = .own (.lst []) ∧ gs = []) ∨ (x5 = .val (.gh 0) ∧ gs = [.lst (sh.map srD)])) ∧
    m = ⟨[.val (.kl (ns.map .int)), .val (.lst (names.map .str)), .val (.lst (nts.map ntD)), .val (.int (1 + ns.getD 2 0 % 10 ^ 59)), .val (.int (1 + ns.getD 3 0 % 1000)), x5, x6, x7, .no, .no, .no, .no, .no], gs⟩) ?_ ?_ cs _ ⟨[], _, .no, .no, _, by simp, fun i v hv => (by simp at hv), fun s hs => (by cases hs), .inl ⟨rfl, rfl, rfl⟩, rfl⟩
  · rintro m ⟨sh, x5, x6, x7, gs, hsl, hup, hsh, hx5, rfl⟩
    have hsl : sh.length = cs.length := by simpa using hsl
    refine ⟨trivial, ?_⟩
    have hok : ∀ s ∈ sh, s.2.length ≤ 1000 ∧ ∀ r ∈ s.2, bOk nts r := fun s hs => ⟨by have := (hsh s hs).1; omega, fun r hr => bOk_of hn8 hnt ((hsh s hs).2 r hr)⟩
    rcases hx5 with ⟨rfl, rfl, rfl⟩ | ⟨rfl, rfl⟩
    · (try conv => whnf); repeat (first | (refine And.intro (fun e => Bool.noConfusion (show (false : Bool) = true from e)) (fun _ => ?_); conv => whnf) | (refine And.intro (fun _ => ?_) (fun e => Bool.noConfusion (show (true : Bool) = false from e)); conv => whnf) | (refine And.intro (by first | exact True.intro | ((try dsimp only [CDiv, CMul, CDivN, CPow] at *) <;> omega) | ((try dsimp only [CDiv, CMul, CDivN, CPow] at *) <;> (simp only [List.length_map, List.length_append, List.length_cons, List.length_nil, List.length_reverse, strApp_len, len1, szl] at *) <;> omega) | rfl | exact of_decide_eq_true rfl) ?_; conv => whnf))
      refine forR_range (fun i m => ∃ (x9 : Sl), m = ⟨[.val (.kl (ns.map .int)), .val (.lst (names.map .str)), .val (.lst (nts.map ntD)), .val (.int (1 + ns.getD 2 0 % 10 ^ 59)), .val (.int (1 + ns.getD 3 0 % 1000)), .own (.lst []), x6, x7, .own (.lst []), x9, .no, .no, .no], []⟩) ?_ ?_ ⟨.no, rfl⟩
      · rintro m ⟨x9, rfl⟩
        refine ⟨trivial, ?_⟩
        (try conv => whnf); repeat (first | (refine And.intro (fun e => Bool.noConfusion (show (false : Bool) = true from e)) (fun _ => ?_); conv => whnf) | (refine And.intro (fun _ => ?_) (fun e => Bool.noConfusion (show (true : Bool) = false from e)); conv => whnf) | (refine And.intro (by first | exact True.intro | ((try dsimp only [CDiv, CMul, CDivN, CPow] at *) <;> omega) | ((try dsimp only [CDiv, CMul, CDivN, CPow] at *) <;> (simp only [List.length_map, List.length_append, List.length_cons, List.length_nil, List.length_reverse, strApp_len, len1, szl] at *) <;> omega) | rfl | exact of_decide_eq_true rfl) ?_; conv => whnf))
        refine bindO_of (eqO_nil (ds := []) (n := 1) .nil (by decide)) ?_
        (try conv => whnf); repeat (first | (refine And.intro (fun e => Bool.noConfusion (show (false : Bool) = true from e)) (fun _ => ?_); conv => whnf) | (refine And.intro (fun _ => ?_) (fun e => Bool.noConfusion (show (true : Bool) = false from e)); conv => whnf) | (refine And.intro (by first | exact True.intro | ((try dsimp only [CDiv, CMul, CDivN, CPow] at *) <;> omega) | ((try dsimp only [CDiv, CMul, CDivN, CPow] at *) <;> (simp only [List.length_map, List.length_append, List.length_cons, List.length_nil, List.length_reverse, strApp_len, len1, szl] at *) <;> omega) | rfl | exact of_decide_eq_true rfl) ?_; conv => whnf))
        exact law_asked (zs := []) (sh := []) (.inl rfl) (fun z hz => (by cases hz)) (by simp) (by simp) hup hok h
      · rintro i m hi
        have hi : i < 0 := by simpa using hi
        omega
    · (try conv => whnf); repeat (first | (refine And.intro (fun e => Bool.noConfusion (show (false : Bool) = true from e)) (fun _ => ?_); conv => whnf) | (refine And.intro (fun _ => ?_) (fun e => Bool.noConfusion (show (true : Bool) = false from e)); conv => whnf) | (refine And.intro (by first | exact True.intro | ((try dsimp only [CDiv, CMul, CDivN, CPow] at *) <;> omega) | ((try dsimp only [CDiv, CMul, CDivN, CPow] at *) <;> (simp only [List.length_map, List.length_append, List.length_cons, List.length_nil, List.length_reverse, strApp_len, len1, szl] at *) <;> omega) | rfl | exact of_decide_eq_true rfl) ?_; conv => whnf))
      refine forR_range (fun i m => ∃ (zs : List (Nat × Str)) (x9 : Sl), zs.length = i ∧ (∀ z ∈ zs, z.1 < sh.length) ∧ m = ⟨[.val (.kl (ns.map .int)), .val (.lst (names.map .str)), .val (.lst (nts.map ntD)), .val (.int (1 + ns.getD 2 0 % 10 ^ 59)), .val (.int (1 + ns.getD 3 0 % 1000)), .val (.gh 0), x6, x7, .own (.lst (zs.map akD)), x9, .no, .no, .no], [.lst (sh.map srD)]⟩) ?_ ?_ ⟨[], .no, rfl, fun z hz => (by cases hz), rfl⟩
      · rintro m ⟨zs, x9, hzl, hz, rfl⟩
        have hzl : zs.length = sh.length := by simpa using hzl
        refine ⟨trivial, ?_⟩
        (try conv => whnf); repeat (first | (refine And.intro (fun e => Bool.noConfusion (show (false : Bool) = true from e)) (fun _ => ?_); conv => whnf) | (refine And.intro (fun _ => ?_) (fun e => Bool.noConfusion (show (true : Bool) = false from e)); conv => whnf) | (refine And.intro (by first | exact True.intro | ((try dsimp only [CDiv, CMul, CDivN, CPow] at *) <;> omega) | ((try dsimp only [CDiv, CMul, CDivN, CPow] at *) <;> (simp only [List.length_map, List.length_append, List.length_cons, List.length_nil, List.length_reverse, strApp_len, len1, szl] at *) <;> omega) | rfl | exact of_decide_eq_true rfl) ?_; conv => whnf))
        refine bindO_of (eqO_nil (.map srD_pl sh) (by decide)) ?_
        (try conv => whnf); repeat (first | (refine And.intro (fun e => Bool.noConfusion (show (false : Bool) = true from e)) (fun _ => ?_); conv => whnf) | (refine And.intro (fun _ => ?_) (fun e => Bool.noConfusion (show (true : Bool) = false from e)); conv => whnf) | (refine And.intro (by first | exact True.intro | ((try dsimp only [CDiv, CMul, CDivN, CPow] at *) <;> omega) | ((try dsimp only [CDiv, CMul, CDivN, CPow] at *) <;> (simp only [List.length_map, List.length_append, List.length_cons, List.length_nil, List.length_reverse, strApp_len, len1, szl] at *) <;> omega) | rfl | exact of_decide_eq_true rfl) ?_; conv => whnf))
        by_cases e : sh = []
        · refine no_of (by simp [e]) ?_
          (try conv => whnf); repeat (first | (refine And.intro (fun e => Bool.noConfusion (show (false : Bool) = true from e)) (fun _ => ?_); conv => whnf) | (refine And.intro (fun _ => ?_) (fun e => Bool.noConfusion (show (true : Bool) = false from e)); conv => whnf) | (refine And.intro (by first | exact True.intro | ((try dsimp only [CDiv, CMul, CDivN, CPow] at *) <;> omega) | ((try dsimp only [CDiv, CMul, CDivN, CPow] at *) <;> (simp only [List.length_map, List.length_append, List.length_cons, List.length_nil, List.length_reverse, strApp_len, len1, szl] at *) <;> omega) | rfl | exact of_decide_eq_true rfl) ?_; conv => whnf))
          exact law_asked (.inr ⟨rfl, rfl⟩) hz (by omega) (by omega) hup hok h
        · refine yes_of (by simp [e]) ?_
          have hne : 0 < sh.length := List.length_pos_iff.mpr e
          (try conv => whnf); repeat (first | (refine And.intro (fun e => Bool.noConfusion (show (false : Bool) = true from e)) (fun _ => ?_); conv => whnf) | (refine And.intro (fun _ => ?_) (fun e => Bool.noConfusion (show (true : Bool) = false from e)); conv => whnf) | (refine And.intro (by first | exact True.intro | ((try dsimp only [CDiv, CMul, CDivN, CPow] at *) <;> omega) | ((try dsimp only [CDiv, CMul, CDivN, CPow] at *) <;> (simp only [List.length_map, List.length_append, List.length_cons, List.length_nil, List.length_reverse, strApp_len, len1, szl] at *) <;> omega) | rfl | exact of_decide_eq_true rfl) ?_; conv => whnf))
          have hlen : ((sh.map srD).length : Int) - 1 = ((sh.length - 1 : Nat) : Int) := by rw [List.length_map]; omega
          refine lcR_map D.str akD (fun rest acc m => acc ++ rest.map (fun nm => (sh.length - 1, nm)) = names.map (fun nm => (sh.length - 1, nm)) ∧ m = (⟨[.val (.kl (ns.map .int)), .val (.lst (names.map .str)), .val (.lst (nts.map ntD)), .val (.int (1 + ns.getD 2 0 % 10 ^ 59)), .val (.int (1 + ns.getD 3 0 % 1000)), .val (.gh 0), x6, x7, .own (.lst (zs.map akD)), x9, .no, .no, .no], [.lst (sh.map srD)]⟩ : M)) ?_ ?_ names [] _ ⟨rfl, rfl⟩
          · rintro acc m ⟨ha, rfl⟩
            rw [List.map_nil, List.append_nil] at ha
            subst ha
            refine ⟨trivial, ?_⟩
            (try conv => whnf); repeat (first | (refine And.intro (fun e => Bool.noConfusion (show (false : Bool) = true from e)) (fun _ => ?_); conv => whnf) | (refine And.intro (fun _ => ?_) (fun e => Bool.noConfusion (show (true : Bool) = false from e)); conv => whnf) | (refine And.intro (by first | exact True.intro | ((try dsimp only [CDiv, CMul, CDivN, CPow] at *) <;> omega) | ((try dsimp only [CDiv, CMul, CDivN, CPow] at *) <;> (simp only [List.length_map, List.length_append, List.length_cons, List.length_nil, List.length_reverse, strApp_len, len1, szl] at *) <;> omega) | rfl | exact of_decide_eq_true rfl) ?_; conv => whnf))
            rw [← List.map_append]
            refine law_asked (.inr ⟨rfl, rfl⟩) ?_ (by rw [List.length_append, List.length_map]; omega) (by omega) hup hok h
            intro z hz2
            rcases List.mem_append.mp hz2 with q | q
            · exact hz z q
            · obtain ⟨nm, _, rfl⟩ := List.mem_map.mp q
              show sh.length - 1 < sh.length
              omega
          · rintro nm rest acc m ⟨ha, rfl⟩
            have hal := congrArg List.length ha
            simp only [List.length_append, List.length_cons, List.length_map] at hal
            refine ⟨trivial, fun k hk => ?_⟩
            (try conv => whnf); repeat (first | (refine And.intro (fun e => Bool.noConfusion (show (false : Bool) = true from e)) (fun _ => ?_); conv => whnf) | (refine And.intro (fun _ => ?_) (fun e => Bool.noConfusion (show (true : Bool) = false from e)); conv => whnf) | (refine And.intro (by first | exact True.intro | ((try dsimp only [CDiv, CMul, CDivN, CPow] at *) <;> omega) | ((try dsimp only [CDiv, CMul, CDivN, CPow] at *) <;> (simp only [List.length_map, List.length_append, List.length_cons, List.length_nil, List.length_reverse, strApp_len, len1, szl] at *) <;> omega) | rfl | exact of_decide_eq_true rfl) ?_; conv => whnf))
            have y := hk (acc ++ [(sh.length - 1, nm)]) _ ⟨by rw [List.append_assoc]; exact ha, rfl⟩
            rw [List.map_append] at y
            rw [hlen]
            exact y
      · rintro i m hi ⟨zs, x9, hzl, hz, rfl⟩
        have hi : i < sh.length := by simpa using hi
        refine ⟨trivial, fun k hk => ?_⟩
        rw [Int.zero_add]
        have h4 := hc2 i (by omega)
        (try conv => whnf); repeat (first | (refine And.intro (fun e => Bool.noConfusion (show (false : Bool) = true from e)) (fun _ => ?_); conv => whnf) | (refine And.intro (fun _ => ?_) (fun e => Bool.noConfusion (show (true : Bool) = false from e)); conv => whnf) | (refine And.intro (by first | exact True.intro | ((try dsimp only [CDiv, CMul, CDivN, CPow] at *) <;> omega) | ((try dsimp only [CDiv, CMul, CDivN, CPow] at *) <;> (simp only [List.length_map, List.length_append, List.length_cons, List.length_nil, List.length_reverse, strApp_len, len1, szl] at *) <;> omega) | rfl | exact of_decide_eq_true rfl) ?_; conv => whnf))
        refine bindO_atk D.int (n := 4 + i) (by (first | ((try dsimp only [CDiv, CMul, CDivN, CPow] at *) <;> omega) | ((try dsimp only [CDiv, CMul, CDivN, CPow] at *) <;> (simp only [List.length_map, List.length_append, List.length_cons, List.length_nil, List.length_reverse, strApp_len, len1, szl] at *) <;> omega))) (List.getElem?_eq_getElem h4) ?_
        (try conv => whnf); repeat (first | (refine And.intro (fun e => Bool.noConfusion (show (false : Bool) = true from e)) (fun _ => ?_); conv => whnf) | (refine And.intro (fun _ => ?_) (fun e => Bool.noConfusion (show (true : Bool) = false from e)); conv => whnf) | (refine And.intro (by first | exact True.intro | ((try dsimp only [CDiv, CMul, CDivN, CPow] at *) <;> omega) | ((try dsimp only [CDiv, CMul, CDivN, CPow] at *) <;> (simp only [List.length_map, List.length_append, List.length_cons, List.length_nil, List.length_reverse, strApp_len, len1, szl] at *) <;> omega) | rfl | exact of_decide_eq_true rfl) ?_; conv => whnf))
        refine bindO_atm (xs := names) D.str (by dsimp only; omega) (by dsimp only; omega) fun nm hnm => ?_
        (try conv => whnf); repeat (first | (refine And.intro (fun e => Bool.noConfusion (show (false : Bool) = true from e)) (fun _ => ?_); conv => whnf) | (refine And.intro (fun _ => ?_) (fun e => Bool.noConfusion (show (true : Bool) = false from e)); conv => whnf) | (refine And.intro (by first | exact True.intro | ((try dsimp only [CDiv, CMul, CDivN, CPow] at *) <;> omega) | ((try dsimp only [CDiv, CMul, CDivN, CPow] at *) <;> (simp only [List.length_map, List.length_append, List.length_cons, List.length_nil, List.length_reverse, strApp_len, len1, szl] at *) <;> omega) | rfl | exact of_decide_eq_true rfl) ?_; conv => whnf))
        refine hk _ ⟨zs ++ [(i, nm)], _, by simp [hzl], fun z hz2 => ?_, by rw [List.map_append] <;> rfl⟩
        rcases List.mem_append.mp hz2 with q | q
        · exact hz z q
        · simp at q; subst q; exact hi
  · rintro c rest m ⟨sh, x5, x6, x7, gs, hsl, hup, hsh, hx5, rfl⟩
    have hsl : sh.length + (rest.length + 1) = cs.length := by simpa using hsl
    refine ⟨trivial, fun k hk => ?_⟩
    rcases hx5 with ⟨rfl, rfl, rfl⟩ | ⟨rfl, rfl⟩
    · (try conv => whnf); repeat (first | (refine And.intro (fun e => Bool.noConfusion (show (false : Bool) = true from e)) (fun _ => ?_); conv => whnf) | (refine And.intro (fun _ => ?_) (fun e => Bool.noConfusion (show (true : Bool) = false from e)); conv => whnf) | (refine And.intro (by first | exact True.intro | ((try dsimp only [CDiv, CMul, CDivN, CPow] at *) <;> omega) | ((try dsimp only [CDiv, CMul, CDivN, CPow] at *) <;> (simp only [List.length_map, List.length_append, List.length_cons, List.length_nil, List.length_reverse, strApp_len, len1, szl] at *) <;> omega) | rfl | exact of_decide_eq_true rfl) ?_; conv => whnf))
      refine ⟨c, names, _, _, rfl, by omega, by omega, fun rows hr1 hr2 => ?_⟩
      (try conv => whnf); repeat (first | (refine And.intro (fun e => Bool.noConfusion (show (false : Bool) = true from e)) (fun _ => ?_); conv => whnf) | (refine And.intro (fun _ => ?_) (fun e => Bool.noConfusion (show (true : Bool) = false from e)); conv => whnf) | (refine And.intro (by first | exact True.intro | ((try dsimp only [CDiv, CMul, CDivN, CPow] at *) <;> omega) | ((try dsimp only [CDiv, CMul, CDivN, CPow] at *) <;> (simp only [List.length_map, List.length_append, List.length_cons, List.length_nil, List.length_reverse, strApp_len, len1, szl] at *) <;> omega) | rfl | exact of_decide_eq_true rfl) ?_; conv => whnf))
      refine ⟨[], (c % 2147483647 * 16807 % 999983).toNat, rfl, by show [D.gh 0, D.int (c % 2147483647 * 16807 % 999983)] = _; rw [Int.toNat_of_nonneg (by omega)], hup, by simp, fun h0 hh0 => ?_⟩
      (try conv => whnf); repeat (first | (refine And.intro (fun e => Bool.noConfusion (show (false : Bool) = true from e)) (fun _ => ?_); conv => whnf) | (refine And.intro (fun _ => ?_) (fun e => Bool.noConfusion (show (true : Bool) = false from e)); conv => whnf) | (refine And.intro (by first | exact True.intro | ((try dsimp only [CDiv, CMul, CDivN, CPow] at *) <;> omega) | ((try dsimp only [CDiv, CMul, CDivN, CPow] at *) <;> (simp only [List.length_map, List.length_append, List.length_cons, List.length_nil, List.length_reverse, strApp_len, len1, szl] at *) <;> omega) | rfl | exact of_decide_eq_true rfl) ?_; conv => whnf))
      refine hk _ ⟨[(h0, rows)], _, _, _, _, by simp at hsl ⊢; omega, ?_, ?_, .inr ⟨rfl, rfl⟩, rfl⟩
      · intro i v hv
        have hk2 := (List.getElem?_eq_some_iff.mp hv).1
        simp at hk2
        subst hk2
        simp at hv hh0
        omega
      · intro s hs
        simp at hs; subst hs; exact ⟨hr1, hr2⟩
    · (try conv => whnf); repeat (first | (refine And.intro (fun e => Bool.noConfusion (show (false : Bool) = true from e)) (fun _ => ?_); conv => whnf) | (refine And.intro (fun _ => ?_) (fun e => Bool.noConfusion (show (true : Bool) = false from e)); conv => whnf) | (refine And.intro (by first | exact True.intro | ((try dsimp only [CDiv, CMul, CDivN, CPow] at *) <;> omega) | ((try dsimp only [CDiv, CMul, CDivN, CPow] at *) <;> (simp only [List.length_map, List.length_append, List.length_cons, List.length_nil, List.length_reverse, strApp_len, len1, szl] at *) <;> omega) | rfl | exact of_decide_eq_true rfl) ?_; conv => whnf))
      refine ⟨c, names, _, _, rfl, by omega, by omega, fun rows hr1 hr2 => ?_⟩
      (try conv => whnf); repeat (first | (refine And.intro (fun e => Bool.noConfusion (show (false : Bool) = true from e)) (fun _ => ?_); conv => whnf) | (refine And.intro (fun _ => ?_) (fun e => Bool.noConfusion (show (true : Bool) = false from e)); conv => whnf) | (refine And.intro (by first | exact True.intro | ((try dsimp only [CDiv, CMul, CDivN, CPow] at *) <;> omega) | ((try dsimp only [CDiv, CMul, CDivN, CPow] at *) <;> (simp only [List.length_map, List.length_append, List.length_cons, List.length_nil, List.length_reverse, strApp_len, len1, szl] at *) <;> omega) | rfl | exact of_decide_eq_true rfl) ?_; conv => whnf))
      refine ⟨sh, (c % 2147483647 * 16807 % 999983).toNat, rfl, by rw [Int.toNat_of_nonneg (by omega)], hup, by omega, fun h0 hh0 => ?_⟩
      (try conv => whnf); repeat (first | (refine And.intro (fun e => Bool.noConfusion (show (false : Bool) = true from e)) (fun _ => ?_); conv => whnf) | (refine And.intro (fun _ => ?_) (fun e => Bool.noConfusion (show (true : Bool) = false from e)); conv => whnf) | (refine And.intro (by first | exact True.intro | ((try dsimp only [CDiv, CMul, CDivN, CPow] at *) <;> omega) | ((try dsimp only [CDiv, CMul, CDivN, CPow] at *) <;> (simp only [List.length_map, List.length_append, List.length_cons, List.length_nil, List.length_reverse, strApp_len, len1, szl] at *) <;> omega) | rfl | exact of_decide_eq_true rfl) ?_; conv => whnf))
      refine hk _ ⟨sh ++ [(h0, rows)], _, _, _, _, by simp; omega, ?_, ?_, .inr ⟨rfl, by rw [List.map_append] <;> rfl⟩, rfl⟩
      · intro i v hv
        rw [List.map_append] at hv
        by_cases hi : i < (sh.map (·.1)).length
        · rw [List.getElem?_append_left hi] at hv
          exact hup i v hv
        · have hk2 := (List.getElem?_eq_some_iff.mp hv).1
          simp at hk2 hi
          have : i = sh.length := by omega
          subst this
          simp at hv
          omega
      · intro s hs
        rcases List.mem_append.mp hs with z | z
        · exact hsh s z
        · simp at z; subst z; exact ⟨hr1, hr2⟩

end LW
set_option maxHeartbeats 8000000
namespace LW
open PySem PySem.Spec PyProof.Rows L2 VL
def topS (i : Nat) : Stmt := PySem.Challenge.pw_regrowth_k71_binders_seen.main.body.getD i (.Pass ⟨0, 0, 0, 0⟩)
theorem bt_bool : bootBuiltins "bool" = some (.type "bool") := by decide +kernel
theorem bt_int : bootBuiltins "int" = some (.type "int") := by decide +kernel
theorem bt_isinstance : bootBuiltins "isinstance" = some (.builtin "isinstance") := by decide +kernel
theorem bt_len : bootBuiltins "len" = some (.builtin "len") := by decide +kernel
theorem bt_tuple : bootBuiltins "tuple" = some (.type "tuple") := by decide +kernel
abbrev s__law_cell_at : Stmt := topS 5
theorem sc__law_cell_at : FnScope ["_law_script", "_law_k"] ["_law_script", "_law_k"] (defScope s__law_cell_at) := ⟨rfl, rfl, rfl, by decide +kernel, rfl, by decide +kernel, by decide +kernel⟩
abbrev s__law_holder : Stmt := topS 12
theorem sc__law_holder : FnScope ["_law_sheet", "_law_number"] ["_law_sheet", "_law_number"] (defScope s__law_holder) := ⟨rfl, rfl, rfl, by decide +kernel, rfl, by decide +kernel, by decide +kernel⟩
abbrev s__law_names : Stmt := topS 7
theorem sc__law_names : FnScope ["_law_cell", "_law_many", "_law_letters", "_law_at", "_law_names_here", "_law_k", "_law_name", "_law_j", "_law_step"] ["_law_cell", "_law_many"] (defScope s__law_names) := ⟨rfl, rfl, rfl, by decide +kernel, rfl, by decide +kernel, by decide +kernel⟩
abbrev s__law_notes : Stmt := topS 8
theorem sc__law_notes : FnScope ["_law_cell", "_law_notes_here", "_law_k", "_law_shape", "_law_spots", "_law_number", "_law_asked", "_law_bound", "_law_j"] ["_law_cell"] (defScope s__law_notes) := ⟨rfl, rfl, rfl, by decide +kernel, rfl, by decide +kernel, by decide +kernel⟩
abbrev s__law_rows : Stmt := topS 9
theorem sc__law_rows : FnScope ["_law_cell", "_law_names_here", "_law_first", "_law_step", "_law_rows_here", "_law_waiting", "_law_mark", "_law_turn", "_law_number", "_law_many", "_law_rule", "_law_shape", "_law_cut", "_law_nodes", "_law_parts", "_law_j"] ["_law_cell", "_law_names_here", "_law_first", "_law_step"] (defScope s__law_rows) := ⟨rfl, rfl, rfl, by decide +kernel, rfl, by decide +kernel, by decide +kernel⟩
abbrev s__law_bound_in : Stmt := topS 10
theorem sc__law_bound_in : FnScope ["_law_rows_here", "_law_notes_here", "_law_name", "_law_k", "_law_number", "_law_part"] ["_law_rows_here", "_law_notes_here", "_law_name"] (defScope s__law_bound_in) := ⟨rfl, rfl, rfl, by decide +kernel, rfl, by decide +kernel, by decide +kernel⟩
abbrev s__law_sees : Stmt := topS 11
theorem sc__law_sees : FnScope ["_law_sheet", "_law_number", "_law_other", "_law_holder_here"] ["_law_sheet", "_law_number", "_law_other"] (defScope s__law_sees) := ⟨rfl, rfl, rfl, by decide +kernel, rfl, by decide +kernel, by decide +kernel⟩
abbrev s__law_whole : Stmt := topS 6
theorem sc__law_whole : FnScope ["_law_found"] ["_law_found"] (defScope s__law_whole) := ⟨rfl, rfl, rfl, by decide +kernel, rfl, by decide +kernel, by decide +kernel⟩
abbrev s__law_told_right : Stmt := topS 13
theorem sc__law_told_right : FnScope ["_law_found", "_law_sheet", "_law_notes_here", "_law_number", "_law_name", "_law_last", "_law_other"] ["_law_found", "_law_sheet", "_law_notes_here", "_law_number", "_law_name"] (defScope s__law_told_right) := ⟨rfl, rfl, rfl, by decide +kernel, rfl, by decide +kernel, by decide +kernel⟩
abbrev s_bound_in : Stmt := topS 2
theorem sc_bound_in : FnScope ["rows", "notes", "name", "found", "number", "row", "part"] ["rows", "notes", "name"] (defScope s_bound_in) := ⟨rfl, rfl, rfl, by decide +kernel, rfl, by decide +kernel, by decide +kernel⟩
abbrev s_holders_of : Stmt := topS 1
theorem sc_holders_of : FnScope ["sheet", "number", "found", "holder"] ["sheet", "number"] (defScope s_holders_of) := ⟨rfl, rfl, rfl, by decide +kernel, rfl, by decide +kernel, by decide +kernel⟩
abbrev s_binder : Stmt := topS 3
theorem sc_binder : FnScope ["sheet", "notes", "number", "name", "holders", "piece", "row"] ["sheet", "notes", "number", "name"] (defScope s_binder) := ⟨rfl, rfl, rfl, by decide +kernel, rfl, by decide +kernel, by decide +kernel⟩
abbrev s_law : Stmt := topS 14
theorem sc_law : FnScope ["_law_script", "_law_names_here", "_law_notes_here", "_law_first", "_law_step", "_law_sheet", "_law_cell", "_law_rows_here", "_law_asked", "_law_number", "_law_told", "_law_name", "_law_found"] ["_law_script"] (defScope s_law) := ⟨rfl, rfl, rfl, by decide +kernel, rfl, by decide +kernel, by decide +kernel⟩
section
variable {P : Program} {w : World} {K : PySem.W.Frag} {mg : Str → Option Value} {base : Heap}
structure T__law_cell_at (P : Program) (w : World) (K : PySem.W.Frag) (mg : Str → Option Value) (base : Heap) where
  n_len : mg "len" = none
theorem ok__law_cell_at {f : Addr} {fd : FuncData} (F : L2.Fun K "_law_cell_at" "_law_cell_at" s__law_cell_at f fd) (T : T__law_cell_at P w K mg base) : FnOk P w K mg base (L2.CX P w) 1 f fd ["_law_script", "_law_k"] (spV K 2 sp__law_cell_at) :=
  fn_nice (fn_ok (fb := fb__law_cell_at) F sc__law_cell_at fun cdv A outer s H E hr =>
    vss_cons (vs_if (vt_cmp op_lt ltV (ve_var 1) (ve_cb1 call_lenAll lenV rfl T.n_len bt_len (ve_var 0))) (vss_one (vs_ret (ve_ix (ve_var 0) (ve_var 1)))) (vss_nil))
    (vss_one (vs_ret (ve_int)))) bd__law_cell_at
structure T__law_holder (P : Program) (w : World) (K : PySem.W.Frag) (mg : Str → Option Value) (base : Heap) where
  n_len : mg "len" = none
theorem ok__law_holder {f : Addr} {fd : FuncData} (F : L2.Fun K "_law_holder" "_law_holder" s__law_holder f fd) (T : T__law_holder P w K mg base) : FnOk P w K mg base (L2.CX P w) 1 f fd ["_law_sheet", "_law_number"] (spV K 2 sp__law_holder) :=
  fn_nice (fn_ok (fb := fb__law_holder) F sc__law_holder fun cdv A outer s H E hr =>
    vss_cons (vs_if (VW.vt (vw_or (vt_cmp (op_eqP hr.units) eqV' (ve_op op_mod modV (ve_var 1) (ve_int)) (ve_int)) (vw_or1 (vt_cmp (op_eqP hr.units) eqV' (ve_var 0) (ve_lst (va_nil)))))) (vss_one (vs_ret (ve_un un_neg negV (ve_int)))) (vss_nil))
    (vss_cons (vs_if (vt_cmp (op_eqP hr.units) eqV' (ve_op op_mod modV (ve_var 1) (ve_int)) (ve_int)) (vss_one (vs_ret (ve_op op_sub subV (ve_cb1 call_lenAll lenV rfl T.n_len bt_len (ve_var 0)) (ve_int)))) (vss_nil))
    (vss_cons (vs_if (vt_cmp (op_eqP hr.units) eqV' (ve_op op_mod modV (ve_var 1) (ve_int)) (ve_int)) (vss_one (vs_ret (ve_ix (ve_ix (ve_var 0) (ve_un un_neg negV (ve_int))) (ve_int)))) (vss_nil))
    (vss_one (vs_ret (ve_op op_mod modV (ve_op op_fdiv divV (ve_var 1) (ve_int)) (ve_cb1 call_lenAll lenV rfl T.n_len bt_len (ve_var 0)))))))) bd__law_holder
structure T__law_names (P : Program) (w : World) (K : PySem.W.Frag) (mg : Str → Option Value) (base : Heap) where
  n_range : mg "range" = none
theorem ok__law_names {f : Addr} {fd : FuncData} (F : L2.Fun K "_law_names" "_law_names" s__law_names f fd) (T : T__law_names P w K mg base) : FnOk P w K mg base (L2.CX P w) 1 f fd ["_law_cell", "_law_many"] (spV K 2 sp__law_names) :=
  fn_nice (fn_ok (fb := fb__law_names) F sc__law_names fun cdv A outer s H E hr =>
    vss_cons (vs_asg 2 (ve_str) sc__law_names.nd)
    (vss_cons (vs_asg 3 (ve_op op_mod modV (ve_op op_fdiv divV (ve_var 0) (ve_int)) (ve_op op_addAll addV (ve_int) (ve_op op_mod modV (ve_var 0) (ve_int)))) sc__law_names.nd)
    (vss_cons (vs_asg 4 (ve_lst (va_nil)) sc__law_names.nd)
    (vss_cons (vs_for (passes_of rfl) rfl (vi_range1 rfl T.n_range (ve_var 1)) (vg_name 5 sc__law_names.nd) (vss_cons (vs_asg 6 (ve_str) sc__law_names.nd)
    (vss_cons (vs_for (passes_of rfl) rfl (vi_range1 rfl T.n_range (ve_op op_addAll addV (ve_int) (ve_op op_mod modV (ve_var 0) (ve_int)))) (vg_name 7 sc__law_names.nd) (vss_cons (vs_asg 8 (ve_op op_mulAll mulV (ve_var 7) (ve_op op_mod modV (ve_op op_fdiv divV (ve_var 0) (ve_int)) (ve_int))) sc__law_names.nd)
    (vss_cons (vs_if (vt_cmp (op_eqP hr.units) eqV' (ve_var 7) (ve_var 3)) (vss_one (vs_asg 8 (ve_var 5) sc__law_names.nd)) (vss_nil))
    (vss_one (vs_asg 6 (ve_op op_addAll addV (ve_var 6) (ve_ix (ve_var 2) (ve_op op_mod modV (ve_op op_addAll addV (ve_op op_fdiv divV (ve_var 0) (ve_int)) (ve_var 8)) (ve_int)))) sc__law_names.nd)))))
    (vss_one (vs_expr (ve_mm PySem.F.plainAttrs_list PySem.F.slot_list_append PySem.F.type_list_append mt_append appendV (ve_var 4) (va_cons (ve_var 6) (va_nil))))))))
    (vss_one (vs_ret (ve_var 4))))))) bd__law_names
structure T__law_notes (P : Program) (w : World) (K : PySem.W.Frag) (mg : Str → Option Value) (base : Heap) where
  n_len : mg "len" = none
  n_range : mg "range" = none
theorem ok__law_notes {f : Addr} {fd : FuncData} (F : L2.Fun K "_law_notes" "_law_notes" s__law_notes f fd) (T : T__law_notes P w K mg base) : FnOk P w K mg base (L2.CX P w) 1 f fd ["_law_cell"] (spV K 1 sp__law_notes) :=
  fn_nice (fn_ok (fb := fb__law_notes) F sc__law_notes fun cdv A outer s H E hr =>
    vss_cons (vs_asg 1 (ve_lst (va_nil)) sc__law_notes.nd)
    (vss_cons (vs_for (passes_of rfl) rfl (vi_range1 rfl T.n_range (ve_int)) (vg_name 2 sc__law_notes.nd) (vss_cons (vs_asg 3 (ve_ix (ve_lst (va_cons (ve_str) (va_cons (ve_str) (va_cons (ve_str) (va_cons (ve_str) (va_cons (ve_str) (va_cons (ve_str) (va_cons (ve_str) (va_cons (ve_str) (va_nil)))))))))) (ve_var 2)) sc__law_notes.nd)
    (vss_cons (vs_setLc 4 (own := [("_law_j", 8)]) rfl sc__law_notes.nd (vi_range1 rfl T.n_range (ve_cb1 call_lenAll lenV rfl T.n_len bt_len (ve_var 3))) (blkOk_by (N := ["_law_cell", "_law_notes_here", "_law_k", "_law_shape", "_law_spots", "_law_number", "_law_asked", "_law_bound", "_law_j"]) (sc := (defScope s__law_notes)) (by decide +kernel)) (fun _ _ _ _ _ => vg_name 8 sc__law_notes.nd) (fun _ _ _ _ _ => vts_one (vt_cmp (op_eqP hr.units) eqV' (ve_ix (ve_var 3) (ve_var 8)) (ve_str))) (fun _ _ _ _ _ => ve_var 8))
    (vss_cons (vs_asg 5 (ve_op op_mod modV (ve_op op_mulAll mulV (ve_op op_mod modV (ve_var 0) (ve_int)) (ve_op op_addAll addV (ve_op op_mulAll mulV (ve_var 2) (ve_var 2)) (ve_int))) (ve_int)) sc__law_notes.nd)
    (vss_cons (vs_asg 6 (ve_un un_neg negV (ve_int)) sc__law_notes.nd)
    (vss_cons (vs_asg 7 (ve_un un_neg negV (ve_int)) sc__law_notes.nd)
    (vss_cons (vs_if (VW.vt (vw_and (vt_cmp (op_neP hr.units) eqV' (ve_var 4) (ve_lst (va_nil))) (vw_and1 (vt_cmp op_gt gtV (ve_op op_mod modV (ve_var 5) (ve_int)) (ve_int))))) (vss_one (vs_asg 6 (ve_ix (ve_var 4) (ve_op op_mod modV (ve_op op_fdiv divV (ve_var 5) (ve_int)) (ve_cb1 call_lenAll lenV rfl T.n_len bt_len (ve_var 4)))) sc__law_notes.nd)) (vss_nil))
    (vss_cons (vs_if (VW.vt (vw_and (vt_cmp (op_neP hr.units) eqV' (ve_var 4) (ve_lst (va_nil))) (vw_and1 (vt_cmp op_gt gtV (ve_op op_mod modV (ve_op op_fdiv divV (ve_var 5) (ve_int)) (ve_int)) (ve_int))))) (vss_one (vs_asg 7 (ve_ix (ve_var 4) (ve_op op_mod modV (ve_op op_fdiv divV (ve_var 5) (ve_int)) (ve_cb1 call_lenAll lenV rfl T.n_len bt_len (ve_var 4)))) sc__law_notes.nd)) (vss_nil))
    (vss_one (vs_expr (ve_mm PySem.F.plainAttrs_list PySem.F.slot_list_append PySem.F.type_list_append mt_append appendV (ve_var 1) (va_cons (ve_tup (va_cons (ve_var 6) (va_cons (ve_var 7) (va_nil)))) (va_nil)))))))))))))
    (vss_one (vs_ret (ve_var 1))))) bd__law_notes
structure T__law_rows (P : Program) (w : World) (K : PySem.W.Frag) (mg : Str → Option Value) (base : Heap) where
  n_int : mg "int" = none
  n_len : mg "len" = none
  n_range : mg "range" = none
theorem ok__law_rows {f : Addr} {fd : FuncData} (F : L2.Fun K "_law_rows" "_law_rows" s__law_rows f fd) (T : T__law_rows P w K mg base) : FnOk P w K mg base (L2.CX P w) 1 f fd ["_law_cell", "_law_names_here", "_law_first", "_law_step"] (spV K 4 sp__law_rows) :=
  fn_nice (fn_ok (fb := fb__law_rows) F sc__law_rows fun cdv A outer s H E hr =>
    vss_cons (vs_asg 4 (ve_lst (va_nil)) sc__law_rows.nd)
    (vss_cons (vs_asg 5 (ve_lst (va_nil)) sc__law_rows.nd)
    (vss_cons (vs_asg 6 (ve_var 2) sc__law_rows.nd)
    (vss_cons (vs_asg 7 (ve_int) sc__law_rows.nd)
    (vss_cons (vs_asg 8 (ve_op op_mod modV (ve_op op_mulAll mulV (ve_op op_mod modV (ve_var 0) (ve_int)) (ve_int)) (ve_int)) sc__law_rows.nd)
    (vss_cons (vs_asg 9 (ve_op op_mod modV (ve_var 8) (ve_int)) sc__law_rows.nd)
    (vss_cons (vs_while (passes_of rfl) (VW.vt (vw_or (vt_cmp op_lt ltV (ve_var 7) (ve_var 9)) (vw_or1 (vt_cmp op_gt gtV (ve_cb1 call_lenAll lenV rfl T.n_len bt_len (ve_var 5)) (ve_int))))) (vss_eq eq__law_rows_6_b0 (vss_cons (vs_asg 8 (ve_op op_mod modV (ve_op op_addAll addV (ve_op op_mulAll mulV (ve_var 8) (ve_int)) (ve_var 7)) (ve_int)) sc__law_rows.nd)
    (vss_cons (vs_asg 10 (ve_ix (ve_lst (va_cons (ve_op op_mod modV (ve_op op_fdiv divV (ve_var 8) (ve_int)) (ve_int)) (va_cons (ve_int) (va_nil)))) (ve_ct1 call_int1 toIntV rfl T.n_int bt_int (ve_cmp op_ge geV (ve_var 7) (ve_var 9)))) sc__law_rows.nd)
    (vss_eq eq__law_rows_6_b2 (vss_cons (vs_asg 7 (ve_op op_addAll addV (ve_var 7) (ve_int)) sc__law_rows.nd)
    (vss_cons (vs_asg 11 (ve_ix (ve_lst (va_cons (ve_str) (va_cons (ve_str) (va_cons (ve_str) (va_cons (ve_str) (va_cons (ve_str) (va_cons (ve_str) (va_cons (ve_str) (va_cons (ve_str) (va_nil)))))))))) (ve_var 10)) sc__law_rows.nd)
    (vss_cons (vs_if (vt_cmp op_gt gtV (ve_s1 PySem.F.slot_str_count PySem.F.type_str_count mt_count countV (ve_var 11) (ve_str)) (ve_cb1 call_lenAll lenV rfl T.n_len bt_len (ve_var 5))) (vss_cons (vs_asg 10 (ve_op op_mod modV (ve_op op_fdiv divV (ve_var 8) (ve_int)) (ve_int)) sc__law_rows.nd)
    (vss_one (vs_asg 11 (ve_str) sc__law_rows.nd))) (vss_nil))
    (vss_eq eq__law_rows_6_b5 (vss_cons (vs_asg 12 (ve_op op_sub subV (ve_cb1 call_lenAll lenV rfl T.n_len bt_len (ve_var 5)) (ve_s1 PySem.F.slot_str_count PySem.F.type_str_count mt_count countV (ve_var 11) (ve_str))) sc__law_rows.nd)
    (vss_cons (vs_asg 13 (ve_slice (ve_var 5) (vo_some (ve_var 12)) (vo_none)) sc__law_rows.nd)
    (vss_cons (vs_asg 14 (ve_lst (va_nil)) sc__law_rows.nd)
    (vss_cons (vs_for (passes_of rfl) rfl (vi_range1 rfl T.n_range (ve_cb1 call_lenAll lenV rfl T.n_len bt_len (ve_var 11))) (vg_name 15 sc__law_rows.nd) (vss_one (vs_if (vt_cmp (op_eqP hr.units) eqV' (ve_ix (ve_var 11) (ve_var 15)) (ve_str)) (vss_one (vs_expr (ve_mm PySem.F.plainAttrs_list PySem.F.slot_list_append PySem.F.type_list_append mt_append appendV (ve_var 14) (va_cons (ve_tup (va_cons (ve_mm PySem.F.plainAttrs_list PySem.F.slot_list_pop PySem.F.type_list_pop mt_popAt popAtV (ve_var 13) (va_cons (ve_int) (va_nil))) (va_cons (ve_non) (va_nil)))) (va_nil))))) (vss_cons (vs_expr (ve_mm PySem.F.plainAttrs_list PySem.F.slot_list_append PySem.F.type_list_append mt_append appendV (ve_var 14) (va_cons (ve_tup (va_cons (ve_var 6) (va_cons (ve_ix (ve_var 1) (ve_op op_mod modV (ve_op op_fdiv divV (ve_var 8) (ve_op op_addAll addV (ve_int) (ve_op op_mulAll mulV (ve_int) (ve_var 15)))) (ve_cb1 call_lenAll lenV rfl T.n_len bt_len (ve_var 1)))) (va_nil)))) (va_nil))))
    (vss_one (vs_asg 6 (ve_op op_addAll addV (ve_var 6) (ve_var 3)) sc__law_rows.nd))))))
    (vss_cons (vs_expr (ve_mm PySem.F.plainAttrs_list PySem.F.slot_list_append PySem.F.type_list_append mt_append appendV (ve_var 4) (va_cons (ve_tup (va_cons (ve_var 6) (va_cons (ve_var 10) (va_cons (ve_var 14) (va_nil))))) (va_nil))))
    (vss_cons (vs_asg 5 (ve_op op_addAll addV (ve_slice (ve_var 5) (vo_none) (vo_some (ve_var 12))) (ve_lst (va_cons (ve_var 6) (va_nil)))) sc__law_rows.nd)
    (vss_one (vs_asg 6 (ve_op op_addAll addV (ve_var 6) (ve_var 3)) sc__law_rows.nd)))))))))))))))))
    (vss_one (vs_ret (ve_var 4)))))))))) bd__law_rows
structure T__law_bound_in (P : Program) (w : World) (K : PySem.W.Frag) (mg : Str → Option Value) (base : Heap) where
  n_len : mg "len" = none
  n_range : mg "range" = none
theorem ok__law_bound_in {f : Addr} {fd : FuncData} (F : L2.Fun K "_law_bound_in" "_law_bound_in" s__law_bound_in f fd) (T : T__law_bound_in P w K mg base) : FnOk P w K mg base (L2.CX P w) 1 f fd ["_law_rows_here", "_law_notes_here", "_law_name"] (spV K 3 sp__law_bound_in) :=
  fn_nice (fn_ok (fb := fb__law_bound_in) F sc__law_bound_in fun cdv A outer s H E hr =>
    vss_cons (vs_for (passes_of rfl) rfl (vi_range1 rfl T.n_range (ve_cb1 call_lenAll lenV rfl T.n_len bt_len (ve_var 0))) (vg_name 3 sc__law_bound_in.nd) (vss_cons (vs_asg 4 (ve_op op_sub subV (ve_op op_sub subV (ve_cb1 call_lenAll lenV rfl T.n_len bt_len (ve_var 0)) (ve_int)) (ve_var 3)) sc__law_bound_in.nd)
    (vss_cons (vs_asg 5 (ve_ix (ve_ix (ve_var 1) (ve_ix (ve_ix (ve_var 0) (ve_var 4)) (ve_int))) (ve_int)) sc__law_bound_in.nd)
    (vss_one (vs_if (VW.vt (vw_and (vt_cmp op_ge geV (ve_var 5) (ve_int)) (vw_and1 (vt_cmp (op_eqP hr.units) eqV' (ve_ix (ve_ix (ve_ix (ve_ix (ve_var 0) (ve_var 4)) (ve_int)) (ve_var 5)) (ve_int)) (ve_var 2))))) (vss_one (vs_ret (ve_var 4))) (vss_nil))))))
    (vss_one (vs_ret (ve_un un_neg negV (ve_int))))) bd__law_bound_in
structure T__law_sees (P : Program) (w : World) (K : PySem.W.Frag) (mg : Str → Option Value) (base : Heap) : Type where
  dummy : Unit
theorem ok__law_sees {f : Addr} {fd : FuncData} (F : L2.Fun K "_law_sees" "_law_sees" s__law_sees f fd) (T : T__law_sees P w K mg base) : FnOk P w K mg base (L2.CX P w) 1 f fd ["_law_sheet", "_law_number", "_law_other"] (spV K 3 sp__law_sees) :=
  fn_nice (fn_ok (fb := fb__law_sees) F sc__law_sees fun cdv A outer s H E hr =>
    vss_cons (vs_asg 3 (ve_ix (ve_ix (ve_var 0) (ve_var 1)) (ve_int)) sc__law_sees.nd)
    (vss_cons (vs_while (passes_of rfl) (vt_cmp op_ge geV (ve_var 3) (ve_int)) (vss_cons (vs_if (vt_cmp (op_eqP hr.units) eqV' (ve_ix (ve_ix (ve_var 0) (ve_var 2)) (ve_int)) (ve_var 3)) (vss_one (vs_ret (ve_bl))) (vss_nil))
    (vss_one (vs_asg 3 (ve_ix (ve_ix (ve_var 0) (ve_var 3)) (ve_int)) sc__law_sees.nd))))
    (vss_one (vs_ret (ve_cmp (op_eqP hr.units) eqV' (ve_ix (ve_ix (ve_var 0) (ve_var 2)) (ve_int)) (ve_un un_neg negV (ve_int))))))) bd__law_sees
structure T__law_whole (P : Program) (w : World) (K : PySem.W.Frag) (mg : Str → Option Value) (base : Heap) where
  n_bool : mg "bool" = none
  n_int : mg "int" = none
  n_isinstance : mg "isinstance" = none
theorem ok__law_whole {f : Addr} {fd : FuncData} (F : L2.Fun K "_law_whole" "_law_whole" s__law_whole f fd) (T : T__law_whole P w K mg base) : FnOk P w K mg base (L2.CX P w) 1 f fd ["_law_found"] (spV K 1 sp__law_whole) :=
  fn_nice (fn_ok (fb := fb__law_whole) F sc__law_whole fun cdv A outer s H E hr =>
    vss_one (vs_ret (ve_and (ve_isi .int rfl T.n_isinstance rfl T.n_int bt_int (ve_var 0)) (ve_one (ve_not (ve_isi .bool rfl T.n_isinstance rfl T.n_bool bt_bool (ve_var 0))))))) bd__law_whole
structure T__law_told_right (P : Program) (w : World) (K : PySem.W.Frag) (mg : Str → Option Value) (base : Heap) where
  n_isinstance : mg "isinstance" = none
  n_len : mg "len" = none
  n_range : mg "range" = none
  n_tuple : mg "tuple" = none
  {f__law_bound_in : Addr} {d__law_bound_in : FuncData}
  g__law_bound_in : mg "_law_bound_in" = some (.ref f__law_bound_in)
  F__law_bound_in : L2.Fun K "_law_bound_in" "_law_bound_in" s__law_bound_in f__law_bound_in d__law_bound_in
  b__law_bound_in : Binds K d__law_bound_in ["_law_rows_here", "_law_notes_here", "_law_name"] []
  ok__law_bound_in : FnOk P w K mg base (L2.CX P w) 1 f__law_bound_in d__law_bound_in ["_law_rows_here", "_law_notes_here", "_law_name"] (spV K 3 sp__law_bound_in)
  {f__law_sees : Addr} {d__law_sees : FuncData}
  g__law_sees : mg "_law_sees" = some (.ref f__law_sees)
  F__law_sees : L2.Fun K "_law_sees" "_law_sees" s__law_sees f__law_sees d__law_sees
  b__law_sees : Binds K d__law_sees ["_law_sheet", "_law_number", "_law_other"] []
  ok__law_sees : FnOk P w K mg base (L2.CX P w) 1 f__law_sees d__law_sees ["_law_sheet", "_law_number", "_law_other"] (spV K 3 sp__law_sees)
  {f__law_whole : Addr} {d__law_whole : FuncData}
  g__law_whole : mg "_law_whole" = some (.ref f__law_whole)
  F__law_whole : L2.Fun K "_law_whole" "_law_whole" s__law_whole f__law_whole d__law_whole
  b__law_whole : Binds K d__law_whole ["_law_found"] []
  ok__law_whole : FnOk P w K mg base (L2.CX P w) 1 f__law_whole d__law_whole ["_law_found"] (spV K 1 sp__law_whole)
theorem ok__law_told_right {f : Addr} {fd : FuncData} (F : L2.Fun K "_law_told_right" "_law_told_right" s__law_told_right f fd) (T : T__law_told_right P w K mg base) : FnOk P w K mg base (L2.CX P w) 2 f fd ["_law_found", "_law_sheet", "_law_notes_here", "_law_number", "_law_name"] (spV K 5 sp__law_told_right) :=
  fn_nice (fn_ok (fb := fb__law_told_right) F sc__law_told_right fun cdv A outer s H E hr =>
    vss_cons (vs_asg 5 (ve_un un_neg negV (ve_int)) sc__law_told_right.nd)
    (vss_cons (vs_for (passes_of rfl) rfl (vi_range1 rfl T.n_range (ve_var 3)) (vg_name 6 sc__law_told_right.nd) (vss_one (vs_if (VW.vt (vw_and (vt_val (ve_call (T.ok__law_sees) (hr.mono (by decide)) rfl T.g__law_sees T.F__law_sees.kp T.b__law_sees (takes_of rfl rfl rfl rfl) (va_cons (ve_share 1) (va_cons (ve_var 3) (va_cons (ve_var 6) (va_nil)))))) (vw_and1 (vt_cmp op_ge geV (ve_call (T.ok__law_bound_in) (hr.mono (by decide)) rfl T.g__law_bound_in T.F__law_bound_in.kp T.b__law_bound_in (takes_of rfl rfl rfl rfl) (va_cons (ve_ix (ve_ix (ve_var 1) (ve_var 6)) (ve_int)) (va_cons (ve_var 2) (va_cons (ve_var 4) (va_nil))))) (ve_int))))) (vss_one (vs_asg 5 (ve_var 6) sc__law_told_right.nd)) (vss_nil))))
    (vss_cons (vs_if (vt_cmp op_lt ltV (ve_var 5) (ve_int)) (vss_one (vs_ret (ve_cmp op_isN isV (ve_var 0) (ve_non)))) (vss_nil))
    (vss_cons (vs_if (VW.vt (vw_or (vt_not (vt_val (ve_isi .tuple rfl T.n_isinstance rfl T.n_tuple bt_tuple (ve_var 0)))) (vw_or (vt_cmp (op_neP hr.units) eqV' (ve_cb1 call_lenAll lenV rfl T.n_len bt_len (ve_var 0)) (ve_int)) (vw_or (vt_not (vt_val (ve_call (T.ok__law_whole) (hr.mono (by decide)) rfl T.g__law_whole T.F__law_whole.kp T.b__law_whole (takes_of rfl rfl rfl rfl) (va_cons (ve_ix (ve_var 0) (ve_int)) (va_nil))))) (vw_or1 (vt_not (vt_val (ve_call (T.ok__law_whole) (hr.mono (by decide)) rfl T.g__law_whole T.F__law_whole.kp T.b__law_whole (takes_of rfl rfl rfl rfl) (va_cons (ve_ix (ve_var 0) (ve_int)) (va_nil)))))))))) (vss_one (vs_ret (ve_bl))) (vss_nil))
    (vss_one (vs_ret (ve_and (ve_cmp (op_eqP hr.units) eqV' (ve_ix (ve_var 0) (ve_int)) (ve_var 5)) (ve_one (ve_cmp (op_eqP hr.units) eqV' (ve_ix (ve_var 0) (ve_int)) (ve_call (T.ok__law_bound_in) (hr.mono (by decide)) rfl T.g__law_bound_in T.F__law_bound_in.kp T.b__law_bound_in (takes_of rfl rfl rfl rfl) (va_cons (ve_ix (ve_ix (ve_var 1) (ve_var 5)) (ve_int)) (va_cons (ve_var 2) (va_cons (ve_var 4) (va_nil)))))))))))))) bd__law_told_right
structure T_bound_in (P : Program) (w : World) (K : PySem.W.Frag) (mg : Str → Option Value) (base : Heap) where
  n_enumerate : mg "enumerate" = none
theorem ok_bound_in {f : Addr} {fd : FuncData} (F : L2.Fun K "bound_in" "bound_in" s_bound_in f fd) (T : T_bound_in P w K mg base) : FnOk P w K mg base (L2.CX P w) 1 f fd ["rows", "notes", "name"] (spV K 3 sp_bound_in) :=
  fn_nice (fn_ok (fb := fb_bound_in) F sc_bound_in fun cdv A outer s H E hr =>
    vss_cons (vs_asg 3 (ve_un un_neg negV (ve_int)) sc_bound_in.nd)
    (vss_cons (vs_for (passes_of rfl) rfl (vi_enum rfl T.n_enumerate (ve_var 0)) (vg_tup rfl (vgs_cons (vg_name 4 sc_bound_in.nd) (vgs_cons (vg_name 5 sc_bound_in.nd) (vgs_nil)))) (vss_cons (vs_asg 6 (ve_ix (ve_ix (ve_var 1) (ve_ix (ve_var 5) (ve_int))) (ve_int)) sc_bound_in.nd)
    (vss_one (vs_if (VW.vt (vw_and (vt_cmp op_ge geV (ve_var 6) (ve_int)) (vw_and1 (vt_cmp (op_eqP hr.units) eqV' (ve_ix (ve_ix (ve_ix (ve_var 5) (ve_int)) (ve_var 6)) (ve_int)) (ve_var 2))))) (vss_one (vs_asg 3 (ve_var 4) sc_bound_in.nd)) (vss_nil)))))
    (vss_one (vs_ret (ve_var 3))))) bd_bound_in
structure T_holders_of (P : Program) (w : World) (K : PySem.W.Frag) (mg : Str → Option Value) (base : Heap) : Type where
  dummy : Unit
theorem ok_holders_of {f : Addr} {fd : FuncData} (F : L2.Fun K "holders_of" "holders_of" s_holders_of f fd) (T : T_holders_of P w K mg base) : FnOk P w K mg base (L2.CX P w) 1 f fd ["sheet", "number"] (spV K 2 sp_holders_of) :=
  fn_nice (fn_ok (fb := fb_holders_of) F sc_holders_of fun cdv A outer s H E hr =>
    vss_cons (vs_asg 2 (ve_lst (va_cons (ve_un un_neg negV (ve_int)) (va_nil))) sc_holders_of.nd)
    (vss_cons (vs_asg 3 (ve_ix (ve_ix (ve_var 0) (ve_var 1)) (ve_int)) sc_holders_of.nd)
    (vss_cons (vs_while (passes_of rfl) (vt_cmp op_ge geV (ve_var 3) (ve_int)) (vss_cons (vs_expr (ve_mm PySem.F.plainAttrs_list PySem.F.slot_list_append PySem.F.type_list_append mt_append appendV (ve_var 2) (va_cons (ve_var 3) (va_nil))))
    (vss_one (vs_asg 3 (ve_ix (ve_ix (ve_var 0) (ve_var 3)) (ve_int)) sc_holders_of.nd))))
    (vss_one (vs_ret (ve_var 2)))))) bd_holders_of
structure T_binder (P : Program) (w : World) (K : PySem.W.Frag) (mg : Str → Option Value) (base : Heap) where
  {f_bound_in : Addr} {d_bound_in : FuncData}
  g_bound_in : mg "bound_in" = some (.ref f_bound_in)
  F_bound_in : L2.Fun K "bound_in" "bound_in" s_bound_in f_bound_in d_bound_in
  b_bound_in : Binds K d_bound_in ["rows", "notes", "name"] []
  ok_bound_in : FnOk P w K mg base (L2.CX P w) 1 f_bound_in d_bound_in ["rows", "notes", "name"] (spV K 3 sp_bound_in)
  {f_holders_of : Addr} {d_holders_of : FuncData}
  g_holders_of : mg "holders_of" = some (.ref f_holders_of)
  F_holders_of : L2.Fun K "holders_of" "holders_of" s_holders_of f_holders_of d_holders_of
  b_holders_of : Binds K d_holders_of ["sheet", "number"] []
  ok_holders_of : FnOk P w K mg base (L2.CX P w) 1 f_holders_of d_holders_of ["sheet", "number"] (spV K 2 sp_holders_of)
theorem ok_binder {f : Addr} {fd : FuncData} (F : L2.Fun K "binder" "binder" s_binder f fd) (T : T_binder P w K mg base) : FnOk P w K mg base (L2.CX P w) 2 f fd ["sheet", "notes", "number", "name"] (spV K 4 sp_binder) :=
  fn_nice (fn_ok (fb := fb_binder) F sc_binder fun cdv A outer s H E hr =>
    vss_cons (vs_asg 4 (ve_call (T.ok_holders_of) (hr.mono (by decide)) rfl T.g_holders_of T.F_holders_of.kp T.b_holders_of (takes_of rfl rfl rfl rfl) (va_cons (ve_share 0) (va_cons (ve_var 2) (va_nil)))) sc_binder.nd)
    (vss_cons (vs_asg 5 (ve_op op_sub subV (ve_var 2) (ve_int)) sc_binder.nd)
    (vss_cons (vs_while (passes_of rfl) (vt_cmp op_ge geV (ve_var 5) (ve_int)) (vss_cons (vs_if (vt_cmp (op_inP hr.units) inV' (ve_ix (ve_ix (ve_var 0) (ve_var 5)) (ve_int)) (ve_var 4)) (vss_cons (vs_asg 6 (ve_call (T.ok_bound_in) (hr.mono (by decide)) rfl T.g_bound_in T.F_bound_in.kp T.b_bound_in (takes_of rfl rfl rfl rfl) (va_cons (ve_ix (ve_ix (ve_var 0) (ve_var 5)) (ve_int)) (va_cons (ve_var 1) (va_cons (ve_var 3) (va_nil))))) sc_binder.nd)
    (vss_one (vs_if (vt_cmp op_ge geV (ve_var 6) (ve_int)) (vss_one (vs_ret (ve_tup (va_cons (ve_var 5) (va_cons (ve_var 6) (va_nil)))))) (vss_nil)))) (vss_nil))
    (vss_one (vs_aug 5 (ve_int) ip_sub subIV sc_binder.nd))))
    (vss_one (vs_ret (ve_non)))))) bd_binder
structure T_law (P : Program) (w : World) (K : PySem.W.Frag) (mg : Str → Option Value) (base : Heap) where
  n_len : mg "len" = none
  n_range : mg "range" = none
  {f__law_cell_at : Addr} {d__law_cell_at : FuncData}
  g__law_cell_at : mg "_law_cell_at" = some (.ref f__law_cell_at)
  F__law_cell_at : L2.Fun K "_law_cell_at" "_law_cell_at" s__law_cell_at f__law_cell_at d__law_cell_at
  b__law_cell_at : Binds K d__law_cell_at ["_law_script", "_law_k"] []
  ok__law_cell_at : FnOk P w K mg base (L2.CX P w) 1 f__law_cell_at d__law_cell_at ["_law_script", "_law_k"] (spV K 2 sp__law_cell_at)
  {f__law_holder : Addr} {d__law_holder : FuncData}
  g__law_holder : mg "_law_holder" = some (.ref f__law_holder)
  F__law_holder : L2.Fun K "_law_holder" "_law_holder" s__law_holder f__law_holder d__law_holder
  b__law_holder : Binds K d__law_holder ["_law_sheet", "_law_number"] []
  ok__law_holder : FnOk P w K mg base (L2.CX P w) 1 f__law_holder d__law_holder ["_law_sheet", "_law_number"] (spV K 2 sp__law_holder)
  {f__law_names : Addr} {d__law_names : FuncData}
  g__law_names : mg "_law_names" = some (.ref f__law_names)
  F__law_names : L2.Fun K "_law_names" "_law_names" s__law_names f__law_names d__law_names
  b__law_names : Binds K d__law_names ["_law_cell", "_law_many"] []
  ok__law_names : FnOk P w K mg base (L2.CX P w) 1 f__law_names d__law_names ["_law_cell", "_law_many"] (spV K 2 sp__law_names)
  {f__law_notes : Addr} {d__law_notes : FuncData}
  g__law_notes : mg "_law_notes" = some (.ref f__law_notes)
  F__law_notes : L2.Fun K "_law_notes" "_law_notes" s__law_notes f__law_notes d__law_notes
  b__law_notes : Binds K d__law_notes ["_law_cell"] []
  ok__law_notes : FnOk P w K mg base (L2.CX P w) 1 f__law_notes d__law_notes ["_law_cell"] (spV K 1 sp__law_notes)
  {f__law_rows : Addr} {d__law_rows : FuncData}
  g__law_rows : mg "_law_rows" = some (.ref f__law_rows)
  F__law_rows : L2.Fun K "_law_rows" "_law_rows" s__law_rows f__law_rows d__law_rows
  b__law_rows : Binds K d__law_rows ["_law_cell", "_law_names_here", "_law_first", "_law_step"] []
  ok__law_rows : FnOk P w K mg base (L2.CX P w) 1 f__law_rows d__law_rows ["_law_cell", "_law_names_here", "_law_first", "_law_step"] (spV K 4 sp__law_rows)
  {f__law_told_right : Addr} {d__law_told_right : FuncData}
  g__law_told_right : mg "_law_told_right" = some (.ref f__law_told_right)
  F__law_told_right : L2.Fun K "_law_told_right" "_law_told_right" s__law_told_right f__law_told_right d__law_told_right
  b__law_told_right : Binds K d__law_told_right ["_law_found", "_law_sheet", "_law_notes_here", "_law_number", "_law_name"] []
  ok__law_told_right : FnOk P w K mg base (L2.CX P w) 2 f__law_told_right d__law_told_right ["_law_found", "_law_sheet", "_law_notes_here", "_law_number", "_law_name"] (spV K 5 sp__law_told_right)
  {f_binder : Addr} {d_binder : FuncData}
  g_binder : mg "binder" = some (.ref f_binder)
  F_binder : L2.Fun K "binder" "binder" s_binder f_binder d_binder
  b_binder : Binds K d_binder ["sheet", "notes", "number", "name"] []
  ok_binder : FnOk P w K mg base (L2.CX P w) 2 f_binder d_binder ["sheet", "notes", "number", "name"] (spV K 4 sp_binder)
theorem ok_law {f : Addr} {fd : FuncData} (F : L2.Fun K "law" "law" s_law f fd) (T : T_law P w K mg base) : FnOk P w K mg base (L2.CX P w) 3 f fd ["_law_script"] (spV K 1 sp_law) :=
  fn_nice (fn_ok (fb := fb_law) F sc_law fun cdv A outer s H E hr =>
    vss_cons (vs_asg 1 (ve_keep (ve_call (T.ok__law_names) (hr.mono (by decide)) rfl T.g__law_names T.F__law_names.kp T.b__law_names (takes_of rfl rfl rfl rfl) (va_cons (ve_call (T.ok__law_cell_at) (hr.mono (by decide)) rfl T.g__law_cell_at T.F__law_cell_at.kp T.b__law_cell_at (takes_of rfl rfl rfl rfl) (va_cons (ve_var 0) (va_cons (ve_int) (va_nil)))) (va_cons (ve_int) (va_nil))))) sc_law.nd)
    (vss_cons (vs_asg 2 (ve_keep (ve_call (T.ok__law_notes) (hr.mono (by decide)) rfl T.g__law_notes T.F__law_notes.kp T.b__law_notes (takes_of rfl rfl rfl rfl) (va_cons (ve_call (T.ok__law_cell_at) (hr.mono (by decide)) rfl T.g__law_cell_at T.F__law_cell_at.kp T.b__law_cell_at (takes_of rfl rfl rfl rfl) (va_cons (ve_var 0) (va_cons (ve_int) (va_nil)))) (va_nil)))) sc_law.nd)
    (vss_cons (vs_asg 3 (ve_op op_addAll addV (ve_int) (ve_op op_mod modV (ve_call (T.ok__law_cell_at) (hr.mono (by decide)) rfl T.g__law_cell_at T.F__law_cell_at.kp T.b__law_cell_at (takes_of rfl rfl rfl rfl) (va_cons (ve_var 0) (va_cons (ve_int) (va_nil)))) (ve_op op_pow powV (ve_int) (ve_int)))) sc_law.nd)
    (vss_cons (vs_asg 4 (ve_op op_addAll addV (ve_int) (ve_op op_mod modV (ve_call (T.ok__law_cell_at) (hr.mono (by decide)) rfl T.g__law_cell_at T.F__law_cell_at.kp T.b__law_cell_at (takes_of rfl rfl rfl rfl) (va_cons (ve_var 0) (va_cons (ve_int) (va_nil)))) (ve_int))) sc_law.nd)
    (vss_cons (vs_asg 5 (ve_lst (va_nil)) sc_law.nd)
    (vss_cons (vs_for (passes_of rfl) rfl (vi_list (ve_slice (ve_var 0) (vo_some (ve_int)) (vo_some (ve_int)))) (vg_name 6 sc_law.nd) (vss_cons (vs_asg 7 (ve_call (T.ok__law_rows) (hr.mono (by decide)) rfl T.g__law_rows T.F__law_rows.kp T.b__law_rows (takes_of rfl rfl rfl rfl) (va_cons (ve_var 6) (va_cons (ve_var 1) (va_cons (ve_op op_addAll addV (ve_var 3) (ve_op op_mulAll mulV (ve_op op_mulAll mulV (ve_int) (ve_cb1 call_lenAll lenV rfl T.n_len bt_len (ve_var 5))) (ve_var 4))) (va_cons (ve_var 4) (va_nil)))))) sc_law.nd)
    (vss_one (vs_expr (ve_mm PySem.F.plainAttrs_list PySem.F.slot_list_append PySem.F.type_list_append mt_append appendV (ve_var 5) (va_cons (ve_tup (va_cons (ve_call (T.ok__law_holder) (hr.mono (by decide)) rfl T.g__law_holder T.F__law_holder.kp T.b__law_holder (takes_of rfl rfl rfl rfl) (va_cons (ve_share 5) (va_cons (ve_op op_mod modV (ve_op op_mulAll mulV (ve_op op_mod modV (ve_var 6) (ve_int)) (ve_int)) (ve_int)) (va_nil)))) (va_cons (ve_var 7) (va_nil)))) (va_nil)))))))
    (vss_cons (vs_asg 8 (ve_lst (va_nil)) sc_law.nd)
    (vss_cons (vs_for (passes_of rfl) rfl (vi_range1 rfl T.n_range (ve_cb1 call_lenAll lenV rfl T.n_len bt_len (ve_var 5))) (vg_name 9 sc_law.nd) (vss_one (vs_expr (ve_mm PySem.F.plainAttrs_list PySem.F.slot_list_append PySem.F.type_list_append mt_append appendV (ve_var 8) (va_cons (ve_tup (va_cons (ve_var 9) (va_cons (ve_ix (ve_var 1) (ve_op op_mod modV (ve_op op_fdiv divV (ve_ix (ve_var 0) (ve_op op_addAll addV (ve_int) (ve_var 9))) (ve_int)) (ve_int))) (va_nil)))) (va_nil))))))
    (vss_cons (vs_if (vt_cmp (op_neP hr.units) eqV' (ve_var 5) (ve_lst (va_nil))) (vss_one (vs_asg 8 (ve_op op_addAll addV (ve_var 8) (ve_lc (own := [("_law_name", 11)]) rfl sc_law.nd (vi_list (ve_var 1)) (blkOk_by (N := ["_law_script", "_law_names_here", "_law_notes_here", "_law_first", "_law_step", "_law_sheet", "_law_cell", "_law_rows_here", "_law_asked", "_law_number", "_law_told", "_law_name", "_law_found"]) (sc := (defScope s_law)) (by decide +kernel)) (fun _ _ _ _ _ => vg_name 11 sc_law.nd) (fun _ _ _ _ _ => vts_nil) (fun _ _ _ _ _ => ve_tup (va_cons (ve_op op_sub subV (ve_cb1 call_lenAll lenV rfl T.n_len bt_len (ve_var 5)) (ve_int)) (va_cons (ve_var 11) (va_nil)))))) sc_law.nd)) (vss_nil))
    (vss_eq eq_law_9 (vss_cons (vs_asg 10 (ve_lst (va_nil)) sc_law.nd)
    (vss_cons (vs_for (passes_of rfl) rfl (vi_list (ve_var 8)) (vg_tup rfl (vgs_cons (vg_name 9 sc_law.nd) (vgs_cons (vg_name 11 sc_law.nd) (vgs_nil)))) (vss_cons (vs_asg 12 (ve_call (T.ok_binder) (hr.mono (by decide)) rfl T.g_binder T.F_binder.kp T.b_binder (takes_of rfl rfl rfl rfl) (va_cons (ve_share 5) (va_cons (ve_var 2) (va_cons (ve_var 9) (va_cons (ve_var 11) (va_nil)))))) sc_law.nd)
    (vss_cons (vs_if (vt_not (vt_val (ve_call (T.ok__law_told_right) (hr.mono (by decide)) rfl T.g__law_told_right T.F__law_told_right.kp T.b__law_told_right (takes_of rfl rfl rfl rfl) (va_cons (ve_var 12) (va_cons (ve_share 5) (va_cons (ve_var 2) (va_cons (ve_var 9) (va_cons (ve_var 11) (va_nil))))))))) (vss_one (vs_ret (ve_bl))) (vss_nil))
    (vss_one (vs_expr (ve_mm PySem.F.plainAttrs_list PySem.F.slot_list_append PySem.F.type_list_append mt_append appendV (ve_var 10) (va_cons (ve_var 12) (va_nil))))))))
    (vss_cons (vs_expr (ve_mm0 PySem.F.plainAttrs_list PySem.F.slot_list_reverse PySem.F.type_list_reverse mt_reverse reverseV (ve_var 10)))
    (vss_one (vs_ret (ve_cmp (op_eqP hr.units) eqV' (ve_lc (own := [("_law_number", 9), ("_law_name", 11)]) rfl sc_law.nd (vi_list (ve_revL (ve_var 8))) (blkOk_by (N := ["_law_script", "_law_names_here", "_law_notes_here", "_law_first", "_law_step", "_law_sheet", "_law_cell", "_law_rows_here", "_law_asked", "_law_number", "_law_told", "_law_name", "_law_found"]) (sc := (defScope s_law)) (by decide +kernel)) (fun _ _ _ _ _ => vg_tup rfl (vgs_cons (vg_name 9 sc_law.nd) (vgs_cons (vg_name 11 sc_law.nd) (vgs_nil)))) (fun _ _ _ _ _ => vts_nil) (fun _ _ _ _ _ => ve_call (T.ok_binder) (hr.mono (by decide)) rfl T.g_binder T.F_binder.kp T.b_binder takes0 (va_cons (ve_share 5) (va_cons (ve_var 2) (va_cons (ve_var 9) (va_cons (ve_var 11) (va_nil))))))) (ve_var 10))))))))))))))))) bd_law
end
theorem all_mk {P : Program} {w : World} {K : PySem.W.Frag} {h : Heap} {mg : Str → Option Value} {fa f1 f2 f3 f4 f5 f6 f7 f8 f9 f10 f11 f12 f13 : Addr} (X : K.In h) (G : h.Ns mainGlobals mg) (hfa : mg "law" = some (.ref fa))
    {od1 od2 od3 od4 od5 od6 od7 od8 od9 od10 od11 od12 od13 an1 an2 an3 an4 an5 an6 an7 an8 an9 an10 an11 an12 an13 : Option Addr} {sl1 sl2 sl3 sl4 sl5 sl6 sl7 sl8 sl9 sl10 sl11 sl12 sl13 : Array (Option Value)} {oc1 oc2 oc3 oc4 oc5 oc6 oc7 oc8 oc9 oc10 oc11 oc12 oc13 kV1 kV2 kV3 kV4 kV5 kV6 kV7 kV8 kV9 kV10 kV11 kV12 kV13 dc1 dc2 dc3 dc4 dc5 dc6 dc7 dc8 dc9 dc10 dc11 dc12 dc13 pm1 pm2 pm3 pm4 pm5 pm6 pm7 pm8 pm9 pm10 pm11 pm12 pm13 cd1 cd2 cd3 cd4 cd5 cd6 cd7 cd8 cd9 cd10 cd11 cd12 cd13 ct1 ct2 ct3 ct4 ct5 ct6 ct7 ct8 ct9 ct10 ct11 ct12 ct13 : Value}
    (a1 : PySem.W.nsIn K mainGlobals "_law_cell_at" = some (some (.ref f1))) (l1 : K.lookup f1 = some ⟨oc1, od1, .func (PySem.W.fnOf "_law_cell_at" "_law_cell_at" (defArgs s__law_cell_at) (defBody s__law_cell_at) (defScope s__law_cell_at) .none kV1 dc1 pm1 an1 cd1 ct1), sl1⟩) (c1 : PySem.W.codeIn K cd1 "_law_cell_at" = true) (k1 : PySem.W.keepIn K (.ref f1) = true)
    (a2 : PySem.W.nsIn K mainGlobals "_law_holder" = some (some (.ref f2))) (l2 : K.lookup f2 = some ⟨oc2, od2, .func (PySem.W.fnOf "_law_holder" "_law_holder" (defArgs s__law_holder) (defBody s__law_holder) (defScope s__law_holder) .none kV2 dc2 pm2 an2 cd2 ct2), sl2⟩) (c2 : PySem.W.codeIn K cd2 "_law_holder" = true) (k2 : PySem.W.keepIn K (.ref f2) = true)
    (a3 : PySem.W.nsIn K mainGlobals "_law_names" = some (some (.ref f3))) (l3 : K.lookup f3 = some ⟨oc3, od3, .func (PySem.W.fnOf "_law_names" "_law_names" (defArgs s__law_names) (defBody s__law_names) (defScope s__law_names) .none kV3 dc3 pm3 an3 cd3 ct3), sl3⟩) (c3 : PySem.W.codeIn K cd3 "_law_names" = true) (k3 : PySem.W.keepIn K (.ref f3) = true)
    (a4 : PySem.W.nsIn K mainGlobals "_law_notes" = some (some (.ref f4))) (l4 : K.lookup f4 = some ⟨oc4, od4, .func (PySem.W.fnOf "_law_notes" "_law_notes" (defArgs s__law_notes) (defBody s__law_notes) (defScope s__law_notes) .none kV4 dc4 pm4 an4 cd4 ct4), sl4⟩) (c4 : PySem.W.codeIn K cd4 "_law_notes" = true) (k4 : PySem.W.keepIn K (.ref f4) = true)
    (a5 : PySem.W.nsIn K mainGlobals "_law_rows" = some (some (.ref f5))) (l5 : K.lookup f5 = some ⟨oc5, od5, .func (PySem.W.fnOf "_law_rows" "_law_rows" (defArgs s__law_rows) (defBody s__law_rows) (defScope s__law_rows) .none kV5 dc5 pm5 an5 cd5 ct5), sl5⟩) (c5 : PySem.W.codeIn K cd5 "_law_rows" = true) (k5 : PySem.W.keepIn K (.ref f5) = true)
    (a6 : PySem.W.nsIn K mainGlobals "_law_bound_in" = some (some (.ref f6))) (l6 : K.lookup f6 = some ⟨oc6, od6, .func (PySem.W.fnOf "_law_bound_in" "_law_bound_in" (defArgs s__law_bound_in) (defBody s__law_bound_in) (defScope s__law_bound_in) .none kV6 dc6 pm6 an6 cd6 ct6), sl6⟩) (c6 : PySem.W.codeIn K cd6 "_law_bound_in" = true) (k6 : PySem.W.keepIn K (.ref f6) = true)
    (a7 : PySem.W.nsIn K mainGlobals "_law_sees" = some (some (.ref f7))) (l7 : K.lookup f7 = some ⟨oc7, od7, .func (PySem.W.fnOf "_law_sees" "_law_sees" (defArgs s__law_sees) (defBody s__law_sees) (defScope s__law_sees) .none kV7 dc7 pm7 an7 cd7 ct7), sl7⟩) (c7 : PySem.W.codeIn K cd7 "_law_sees" = true) (k7 : PySem.W.keepIn K (.ref f7) = true)
    (a8 : PySem.W.nsIn K mainGlobals "_law_whole" = some (some (.ref f8))) (l8 : K.lookup f8 = some ⟨oc8, od8, .func (PySem.W.fnOf "_law_whole" "_law_whole" (defArgs s__law_whole) (defBody s__law_whole) (defScope s__law_whole) .none kV8 dc8 pm8 an8 cd8 ct8), sl8⟩) (c8 : PySem.W.codeIn K cd8 "_law_whole" = true) (k8 : PySem.W.keepIn K (.ref f8) = true)
    (a9 : PySem.W.nsIn K mainGlobals "_law_told_right" = some (some (.ref f9))) (l9 : K.lookup f9 = some ⟨oc9, od9, .func (PySem.W.fnOf "_law_told_right" "_law_told_right" (defArgs s__law_told_right) (defBody s__law_told_right) (defScope s__law_told_right) .none kV9 dc9 pm9 an9 cd9 ct9), sl9⟩) (c9 : PySem.W.codeIn K cd9 "_law_told_right" = true) (k9 : PySem.W.keepIn K (.ref f9) = true)
    (a10 : PySem.W.nsIn K mainGlobals "bound_in" = some (some (.ref f10))) (l10 : K.lookup f10 = some ⟨oc10, od10, .func (PySem.W.fnOf "bound_in" "bound_in" (defArgs s_bound_in) (defBody s_bound_in) (defScope s_bound_in) .none kV10 dc10 pm10 an10 cd10 ct10), sl10⟩) (c10 : PySem.W.codeIn K cd10 "bound_in" = true) (k10 : PySem.W.keepIn K (.ref f10) = true)
    (a11 : PySem.W.nsIn K mainGlobals "holders_of" = some (some (.ref f11))) (l11 : K.lookup f11 = some ⟨oc11, od11, .func (PySem.W.fnOf "holders_of" "holders_of" (defArgs s_holders_of) (defBody s_holders_of) (defScope s_holders_of) .none kV11 dc11 pm11 an11 cd11 ct11), sl11⟩) (c11 : PySem.W.codeIn K cd11 "holders_of" = true) (k11 : PySem.W.keepIn K (.ref f11) = true)
    (a12 : PySem.W.nsIn K mainGlobals "binder" = some (some (.ref f12))) (l12 : K.lookup f12 = some ⟨oc12, od12, .func (PySem.W.fnOf "binder" "binder" (defArgs s_binder) (defBody s_binder) (defScope s_binder) .none kV12 dc12 pm12 an12 cd12 ct12), sl12⟩) (c12 : PySem.W.codeIn K cd12 "binder" = true) (k12 : PySem.W.keepIn K (.ref f12) = true)
    (a13 : PySem.W.nsIn K mainGlobals "law" = some (some (.ref f13))) (l13 : K.lookup f13 = some ⟨oc13, od13, .func (PySem.W.fnOf "law" "law" (defArgs s_law) (defBody s_law) (defScope s_law) .none kV13 dc13 pm13 an13 cd13 ct13), sl13⟩) (c13 : PySem.W.codeIn K cd13 "law" = true) (k13 : PySem.W.keepIn K (.ref f13) = true)
    (z1 : PySem.W.nsIn K mainGlobals "bool" = some none)
    (z2 : PySem.W.nsIn K mainGlobals "enumerate" = some none)
    (z3 : PySem.W.nsIn K mainGlobals "int" = some none)
    (z4 : PySem.W.nsIn K mainGlobals "isinstance" = some none)
    (z5 : PySem.W.nsIn K mainGlobals "len" = some none)
    (z6 : PySem.W.nsIn K mainGlobals "range" = some none)
    (z7 : PySem.W.nsIn K mainGlobals "tuple" = some none)
    : ∃ fd : FuncData, (∀ (s : Shared) (v : Value), BindsTo s fd ⟨[v], []⟩ [("_law_script", v)]) ∧ ∀ base : Heap, K.In base → base.Ns mainGlobals mg → FnOk P w K mg base (L2.CX P w) 3 fa fd ["_law_script"] (spV K 1 sp_law) := by
  have e := hfa.symm.trans (PySem.W.mg_of X G a13)
  cases e
  have F1 := fun_mk (st := s__law_cell_at) l1 c1 k1
  have b1 := F1.binds (ps := ["_law_script", "_law_k"]) fun _ _ _ _ _ _ us hl => match us, hl with | [_, _], _ => rfl
  have F2 := fun_mk (st := s__law_holder) l2 c2 k2
  have b2 := F2.binds (ps := ["_law_sheet", "_law_number"]) fun _ _ _ _ _ _ us hl => match us, hl with | [_, _], _ => rfl
  have F3 := fun_mk (st := s__law_names) l3 c3 k3
  have b3 := F3.binds (ps := ["_law_cell", "_law_many"]) fun _ _ _ _ _ _ us hl => match us, hl with | [_, _], _ => rfl
  have F4 := fun_mk (st := s__law_notes) l4 c4 k4
  have b4 := F4.binds (ps := ["_law_cell"]) fun _ _ _ _ _ _ us hl => match us, hl with | [_], _ => rfl
  have F5 := fun_mk (st := s__law_rows) l5 c5 k5
  have b5 := F5.binds (ps := ["_law_cell", "_law_names_here", "_law_first", "_law_step"]) fun _ _ _ _ _ _ us hl => match us, hl with | [_, _, _, _], _ => rfl
  have F6 := fun_mk (st := s__law_bound_in) l6 c6 k6
  have b6 := F6.binds (ps := ["_law_rows_here", "_law_notes_here", "_law_name"]) fun _ _ _ _ _ _ us hl => match us, hl with | [_, _, _], _ => rfl
  have F7 := fun_mk (st := s__law_sees) l7 c7 k7
  have b7 := F7.binds (ps := ["_law_sheet", "_law_number", "_law_other"]) fun _ _ _ _ _ _ us hl => match us, hl with | [_, _, _], _ => rfl
  have F8 := fun_mk (st := s__law_whole) l8 c8 k8
  have b8 := F8.binds (ps := ["_law_found"]) fun _ _ _ _ _ _ us hl => match us, hl with | [_], _ => rfl
  have F9 := fun_mk (st := s__law_told_right) l9 c9 k9
  have b9 := F9.binds (ps := ["_law_found", "_law_sheet", "_law_notes_here", "_law_number", "_law_name"]) fun _ _ _ _ _ _ us hl => match us, hl with | [_, _, _, _, _], _ => rfl
  have F10 := fun_mk (st := s_bound_in) l10 c10 k10
  have b10 := F10.binds (ps := ["rows", "notes", "name"]) fun _ _ _ _ _ _ us hl => match us, hl with | [_, _, _], _ => rfl
  have F11 := fun_mk (st := s_holders_of) l11 c11 k11
  have b11 := F11.binds (ps := ["sheet", "number"]) fun _ _ _ _ _ _ us hl => match us, hl with | [_, _], _ => rfl
  have F12 := fun_mk (st := s_binder) l12 c12 k12
  have b12 := F12.binds (ps := ["sheet", "notes", "number", "name"]) fun _ _ _ _ _ _ us hl => match us, hl with | [_, _, _, _], _ => rfl
  have F13 := fun_mk (st := s_law) l13 c13 k13
  refine ⟨PySem.W.fnOf "law" "law" (defArgs s_law) (defBody s_law) (defScope s_law) .none kV13 dc13 pm13 an13 cd13 ct13, fun s v => .of_eq rfl, fun base _ _ => ?_⟩
  have ok1 := ok__law_cell_at (P := P) (w := w) (mg := mg) (base := base) F1 { n_len := PySem.W.mg_none_of X G z5 }
  have ok2 := ok__law_holder (P := P) (w := w) (mg := mg) (base := base) F2 { n_len := PySem.W.mg_none_of X G z5 }
  have ok3 := ok__law_names (P := P) (w := w) (mg := mg) (base := base) F3 { n_range := PySem.W.mg_none_of X G z6 }
  have ok4 := ok__law_notes (P := P) (w := w) (mg := mg) (base := base) F4 { n_len := PySem.W.mg_none_of X G z5, n_range := PySem.W.mg_none_of X G z6 }
  have ok5 := ok__law_rows (P := P) (w := w) (mg := mg) (base := base) F5 { n_int := PySem.W.mg_none_of X G z3, n_len := PySem.W.mg_none_of X G z5, n_range := PySem.W.mg_none_of X G z6 }
  have ok6 := ok__law_bound_in (P := P) (w := w) (mg := mg) (base := base) F6 { n_len := PySem.W.mg_none_of X G z5, n_range := PySem.W.mg_none_of X G z6 }
  have ok7 := ok__law_sees (P := P) (w := w) (mg := mg) (base := base) F7 { dummy := () }
  have ok8 := ok__law_whole (P := P) (w := w) (mg := mg) (base := base) F8 { n_bool := PySem.W.mg_none_of X G z1, n_int := PySem.W.mg_none_of X G z3, n_isinstance := PySem.W.mg_none_of X G z4 }
  have ok9 := ok__law_told_right (P := P) (w := w) (mg := mg) (base := base) F9 { n_isinstance := PySem.W.mg_none_of X G z4, n_len := PySem.W.mg_none_of X G z5, n_range := PySem.W.mg_none_of X G z6, n_tuple := PySem.W.mg_none_of X G z7, f__law_bound_in := f6, d__law_bound_in := _, g__law_bound_in := PySem.W.mg_of X G a6, F__law_bound_in := F6, b__law_bound_in := b6, ok__law_bound_in := ok6, f__law_sees := f7, d__law_sees := _, g__law_sees := PySem.W.mg_of X G a7, F__law_sees := F7, b__law_sees := b7, ok__law_sees := ok7, f__law_whole := f8, d__law_whole := _, g__law_whole := PySem.W.mg_of X G a8, F__law_whole := F8, b__law_whole := b8, ok__law_whole := ok8 }
  have ok10 := ok_bound_in (P := P) (w := w) (mg := mg) (base := base) F10 { n_enumerate := PySem.W.mg_none_of X G z2 }
  have ok11 := ok_holders_of (P := P) (w := w) (mg := mg) (base := base) F11 { dummy := () }
  have ok12 := ok_binder (P := P) (w := w) (mg := mg) (base := base) F12 { f_bound_in := f10, d_bound_in := _, g_bound_in := PySem.W.mg_of X G a10, F_bound_in := F10, b_bound_in := b10, ok_bound_in := ok10, f_holders_of := f11, d_holders_of := _, g_holders_of := PySem.W.mg_of X G a11, F_holders_of := F11, b_holders_of := b11, ok_holders_of := ok11 }
  have ok13 := ok_law (P := P) (w := w) (mg := mg) (base := base) F13 { n_len := PySem.W.mg_none_of X G z5, n_range := PySem.W.mg_none_of X G z6, f__law_cell_at := f1, d__law_cell_at := _, g__law_cell_at := PySem.W.mg_of X G a1, F__law_cell_at := F1, b__law_cell_at := b1, ok__law_cell_at := ok1, f__law_holder := f2, d__law_holder := _, g__law_holder := PySem.W.mg_of X G a2, F__law_holder := F2, b__law_holder := b2, ok__law_holder := ok2, f__law_names := f3, d__law_names := _, g__law_names := PySem.W.mg_of X G a3, F__law_names := F3, b__law_names := b3, ok__law_names := ok3, f__law_notes := f4, d__law_notes := _, g__law_notes := PySem.W.mg_of X G a4, F__law_notes := F4, b__law_notes := b4, ok__law_notes := ok4, f__law_rows := f5, d__law_rows := _, g__law_rows := PySem.W.mg_of X G a5, F__law_rows := F5, b__law_rows := b5, ok__law_rows := ok5, f__law_told_right := f9, d__law_told_right := _, g__law_told_right := PySem.W.mg_of X G a9, F__law_told_right := F9, b__law_told_right := b9, ok__law_told_right := ok9, f_binder := f12, d_binder := _, g_binder := PySem.W.mg_of X G a12, F_binder := F12, b_binder := b12, ok_binder := ok12 }
  exact ok13
end LW
open PySem PySem.W PyProof.Rows
set_option maxHeartbeats 0 in
theorem PySem.Challenge.cw_regrowth_k71_binders_seen_holds : PySem.Challenge.rw_regrowth_k71_binders_seen.Holds := by
  w_on; o_law; k_head; (case hw => w_witness2)
  k_fill
  refine L2.walk_of (l := PySem.Challenge.rw_regrowth_k71_binders_seen) (n := 63) (k := 3) (x := "_law_script") (CX := fun w => L2.CX PySem.Challenge.rw_regrowth_k71_binders_seen.prog w) (sp := fun w => VL.spV _ 1 LW.sp_law) rfl (by decide) rfl ⟨rfl, by decide, by decide⟩ (fun w h Y => PySem.W.kIn_of Y) ?F
    (fun _ _ a ns hl _ hS => VL.law_start hS fun Q Qe hq => ⟨ns, hl, rfl, rfl, hq⟩) (fun _ _ _ _ _ h => VL.no_end h)
  case F =>
    intro w mg fa h KX G hmg
    refine' LW.all_mk KX G hmg ?a1 ?l1 ?c1 ?k1 ?a2 ?l2 ?c2 ?k2 ?a3 ?l3 ?c3 ?k3 ?a4 ?l4 ?c4 ?k4 ?a5 ?l5 ?c5 ?k5 ?a6 ?l6 ?c6 ?k6 ?a7 ?l7 ?c7 ?k7 ?a8 ?l8 ?c8 ?k8 ?a9 ?l9 ?c9 ?k9 ?a10 ?l10 ?c10 ?k10 ?a11 ?l11 ?c11 ?k11 ?a12 ?l12 ?c12 ?k12 ?a13 ?l13 ?c13 ?k13 ?z1 ?z2 ?z3 ?z4 ?z5 ?z6 ?z7
    (case a1 => k_is); (case l1 => k_is); (case c1 => k_is); (case k1 => k_is); (case a2 => k_is); (case l2 => k_is); (case c2 => k_is); (case k2 => k_is); (case a3 => k_is); (case l3 => k_is); (case c3 => k_is); (case k3 => k_is); (case a4 => k_is); (case l4 => k_is); (case c4 => k_is); (case k4 => k_is); (case a5 => k_is); (case l5 => k_is); (case c5 => k_is); (case k5 => k_is); (case a6 => k_is); (case l6 => k_is); (case c6 => k_is); (case k6 => k_is); (case a7 => k_is); (case l7 => k_is); (case c7 => k_is); (case k7 => k_is); (case a8 => k_is); (case l8 => k_is); (case c8 => k_is); (case k8 => k_is); (case a9 => k_is); (case l9 => k_is); (case c9 => k_is); (case k9 => k_is); (case a10 => k_is); (case l10 => k_is); (case c10 => k_is); (case k10 => k_is); (case a11 => k_is); (case l11 => k_is); (case c11 => k_is); (case k11 => k_is); (case a12 => k_is); (case l12 => k_is); (case c12 => k_is); (case k12 => k_is); (case a13 => k_is); (case l13 => k_is); (case c13 => k_is); (case k13 => k_is); (case z1 => k_is); (case z2 => k_is); (case z3 => k_is); (case z4 => k_is); (case z5 => k_is); (case z6 => k_is); (case z7 => k_is)
