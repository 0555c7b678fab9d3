import PyProof.Rows.All
import Wide.All
import OpenK.AllK
import Wide.FinOn
import PyProof.EqAt
import PyProof.EqKinds
import PyProof.TupleCall
import KE.KLam
import HandS.Base
import HandS.Call
import HandS.List
import HandS.Comp
import HandS.Ends
import HandS.Dict
import HandS.Iter
import HandS.Text
import HandS.Exc
import HandS.TryOnly
import HandS.ExcOwn
import HandS.Words
import HandS.WordsList
import HandS.WordsExc
import HandS.Wide
import HandS.WideMore
import HandS.SortInts
import HandS.Conv
import HandS.Flow
import HandS.Style
import HandS.Zip
import HandS.Codes
import HandS.Lambda
import HandS.EndBits
import HandS.EndTab
import HandS.ExcInit
import HandS.ExcSuper
import HandS.ExcField
import PySem.Challenge.RW_secrethall_k44_whole_powers_of_all_membe
set_option Elab.async false
set_option linter.all false
set_option maxRecDepth 100000
set_option maxHeartbeats 4000000
/-! MPa: plain data, frames of plain data, what an expression comes to. -/
namespace MP
open PySem PySem.Spec PyProof.Rows L2

inductive D where
  | non | bl (b : Bool) | int (i : Int) | str (x : Str) | tup (ds : List D) | lst (ds : List D)

structure Tape where
  scr : List Int
  pos : Nat
  left : Int
  seed : Int

/-- a slot: nothing known, a datum, a list of the frame's own, a list of the frame's own as it is read, the tape -/
inductive Sl where
  | un | val (d : D) | own (ds : List D) | bor (ds : List D) | tape

abbrev TapeO := Option Tape
abbrev SE := List Sl
abbrev Ev := SE → TapeO → Option (Except Str Sl × TapeO)

structure Ct where
  T : List (Addr × Str)
  C : Addr

/-- a list that never changes any more -/
def FzL (K : PySem.W.Frag) (H : Hp) (a : Addr) (xs : List V) : Prop :=
  (∃ o, H a = some (.frz o (.lst xs))) ∨
    ∃ (o : Obj) (its : Array Value) (n : Nat), K.lookup a = some o ∧ o.cls = .type "list" ∧ o.dict = none ∧ o.data = .seq its n ∧ its.size ≤ sizeLine ∧ Vals xs its.toList
theorem FzL.sq {K : PySem.W.Frag} {H : Hp} {a : Addr} {xs : List V} (h : FzL K H a xs) : SqL K H a xs := h.elim (fun h => .inl (.inr h)) .inr
structure Stab (H H' : Hp) : Prop where
  tup : ∀ a xs, H a = some (.tup xs) → H' a = some (.tup xs)
  frz : ∀ a o u, H a = some (.frz o u) → H' a = some (.frz o u)
theorem Stab.refl (H : Hp) : Stab H H := ⟨fun _ _ h => h, fun _ _ _ h => h⟩
theorem Stab.trans {H H1 H2 : Hp} (a : Stab H H1) (b : Stab H1 H2) : Stab H H2 := ⟨fun x y h => b.tup x y (a.tup x y h), fun x y z h => b.frz x y z (a.frz x y z h)⟩
theorem Stab.of_same {H H' : Hp} (s : Same H H') : Stab H H' := ⟨fun a _ h => s a _ h, fun a _ _ h => s a _ h⟩
theorem Same.new {H : Hp} {p : Addr} {o : HO} (h : H p = none) : Same H (upd H p o) := fun a u e => by
  rw [upd_ne (ne_of_none e h)]
  exact e
theorem Stab.fz {K : PySem.W.Frag} {H H' : Hp} {a : Addr} {xs : List V} (s : Stab H H') (h : FzL K H a xs) : FzL K H' a xs := by
  rcases h with ⟨o, h⟩ | h
  · exact .inl ⟨o, s.frz _ _ _ h⟩
  · exact .inr h
theorem Stab.sqT {K : PySem.W.Frag} {H H' : Hp} {a : Addr} {xs : List V} (s : Stab H H') (h : SqT K H a xs) : SqT K H' a xs := by
  rcases h with (h | ⟨o, h⟩) | h
  · exact .inl (.inl (s.tup _ _ h))
  · exact .inl (.inr ⟨o, s.frz _ _ _ h⟩)
  · exact .inr h

mutual
inductive Rep (K : PySem.W.Frag) (H : Hp) : V → D → Prop
  | non : Rep K H .non .non
  | bl (b : Bool) : Rep K H (.bl b) (.bl b)
  | int (i : Int) : Rep K H (.int i) (.int i)
  | str (x : Str) : Rep K H (.str x) (.str x)
  | tup {a : Addr} {xs : List V} {ds : List D} : SqT K H a xs → Reps K H xs ds → Rep K H (.ref a) (.tup ds)
  | lst {a : Addr} {xs : List V} {ds : List D} : FzL K H a xs → Reps K H xs ds → Rep K H (.ref a) (.lst ds)
inductive Reps (K : PySem.W.Frag) (H : Hp) : List V → List D → Prop
  | nil : Reps K H [] []
  | cons {v : V} {vs : List V} {d : D} {ds : List D} : Rep K H v d → Reps K H vs ds → Reps K H (v :: vs) (d :: ds)
end
section
variable {K : PySem.W.Frag} {H H' : Hp}
mutual
theorem Rep.mono (s : Stab H H') : ∀ (d : D) (v : V), Rep K H v d → Rep K H' v d
  | .non, _, h => by cases h; exact .non
  | .bl _, _, h => by cases h; exact .bl _
  | .int _, _, h => by cases h; exact .int _
  | .str _, _, h => by cases h; exact .str _
  | .tup ds, _, h => by
    cases h with
    | tup h1 h2 => exact .tup (s.sqT h1) (Reps.mono s ds _ h2)
  | .lst ds, _, h => by
    cases h with
    | lst h1 h2 => exact .lst (s.fz h1) (Reps.mono s ds _ h2)
theorem Reps.mono (s : Stab H H') : ∀ (ds : List D) (vs : List V), Reps K H vs ds → Reps K H' vs ds
  | [], _, h => by cases h; exact .nil
  | d :: ds, _, h => by
    cases h with
    | cons h1 h2 => exact .cons (Rep.mono s d _ h1) (Reps.mono s ds _ h2)
end
theorem Rep.st {v : V} {d : D} (h : Rep K H v d) (s : Stab H H') : Rep K H' v d := Rep.mono s d v h
theorem Reps.st {vs : List V} {ds : List D} (h : Reps K H vs ds) (s : Stab H H') : Reps K H' vs ds := Reps.mono s ds vs h
theorem Reps.length : ∀ {vs : List V} {ds : List D}, Reps K H vs ds → vs.length = ds.length
  | _, _, .nil => rfl
  | _, _, .cons _ t => by simp [t.length]
theorem Reps.get : ∀ {vs : List V} {ds : List D} {i : Nat} {d : D}, Reps K H vs ds → ds[i]? = some d → ∃ v, vs[i]? = some v ∧ Rep K H v d
  | _, _, i, d, .nil, h => by simp at h
  | _, _, 0, d, .cons h1 h2, h => by simp at h; subst h; exact ⟨_, rfl, h1⟩
  | _, _, i + 1, d, .cons h1 h2, h => by
    obtain ⟨v, e, r⟩ := Reps.get (i := i) h2 (by simpa using h)
    exact ⟨v, by simpa using e, r⟩
theorem Reps.getV : ∀ {vs : List V} {ds : List D} {i : Nat} {v : V}, Reps K H vs ds → vs[i]? = some v → ∃ d, ds[i]? = some d ∧ Rep K H v d
  | _, _, i, d, .nil, h => by simp at h
  | _, _, 0, d, .cons h1 h2, h => by simp at h; subst h; exact ⟨_, rfl, h1⟩
  | _, _, i + 1, d, .cons h1 h2, h => by
    obtain ⟨v, e, r⟩ := Reps.getV (i := i) h2 (by simpa using h)
    exact ⟨v, by simpa using e, r⟩
theorem Reps.append : ∀ {vs ws : List V} {ds es : List D}, Reps K H vs ds → Reps K H ws es → Reps K H (vs ++ ws) (ds ++ es)
  | _, _, _, _, .nil, h => h
  | _, _, _, _, .cons h1 h2, h => .cons h1 (h2.append h)
theorem Reps.set {v : V} {d : D} (r : Rep K H v d) : ∀ {vs : List V} {ds : List D} (i : Nat), Reps K H vs ds → Reps K H (vs.set i v) (ds.set i d)
  | _, _, _, .nil => .nil
  | _, _, 0, .cons _ t => .cons r t
  | _, _, i + 1, .cons q t => .cons q (Reps.set r i t)
theorem Reps.take : ∀ {vs : List V} {ds : List D} (n : Nat), Reps K H vs ds → Reps K H (vs.take n) (ds.take n)
  | _, _, 0, _ => .nil
  | _, _, _ + 1, .nil => .nil
  | _, _, n + 1, .cons r t => .cons r (Reps.take n t)
theorem Reps.drop : ∀ {vs : List V} {ds : List D} (n : Nat), Reps K H vs ds → Reps K H (vs.drop n) (ds.drop n)
  | _, _, 0, r => r
  | _, _, _ + 1, .nil => .nil
  | _, _, n + 1, .cons _ t => Reps.drop n t
theorem Reps.eraseIdx : ∀ {vs : List V} {ds : List D} (i : Nat), Reps K H vs ds → Reps K H (vs.eraseIdx i) (ds.eraseIdx i)
  | _, _, _, .nil => .nil
  | _, _, 0, .cons _ t => t
  | _, _, i + 1, .cons r t => .cons r (Reps.eraseIdx i t)
theorem Reps.reverse : ∀ {vs : List V} {ds : List D}, Reps K H vs ds → Reps K H vs.reverse ds.reverse
  | _, _, .nil => .nil
  | _, _, .cons r t => by
    rw [List.reverse_cons, List.reverse_cons]
    exact t.reverse.append (.cons r .nil)
theorem Reps.flat {vs : List V} {ds : List D} (h : Reps K H vs ds) : ∀ k : Nat, Reps K H (List.replicate k vs).flatten (List.replicate k ds).flatten
  | 0 => .nil
  | k + 1 => by
    rw [List.replicate_succ, List.replicate_succ, List.flatten_cons, List.flatten_cons]
    exact h.append (h.flat k)
theorem Reps.ints : ∀ (ns : List Int), Reps K H (ns.map V.int) (ns.map D.int)
  | [] => .nil
  | n :: r => .cons (.int n) (Reps.ints r)
theorem Reps.intsV : ∀ {vs : List V} (ns : List Int), Reps K H vs (ns.map D.int) → vs = ns.map V.int
  | _, [], h => by cases h; rfl
  | _, n :: r, h => by
    cases h with
    | cons h1 h2 =>
      cases h1
      rw [Reps.intsV r h2, List.map_cons]
theorem Reps.blsV : ∀ {vs : List V} (bs : List Bool), Reps K H vs (bs.map D.bl) → vs = bs.map V.bl
  | _, [], h => by cases h; rfl
  | _, n :: r, h => by
    cases h with
    | cons h1 h2 =>
      cases h1
      rw [Reps.blsV r h2, List.map_cons]
end

/-! ### as the library's data -/
mutual
def D.py : D → PyData
  | .non => .none
  | .bl b => .bool b
  | .int i => .int i
  | .str x => .str x
  | .tup ds => .tuple (pys ds)
  | .lst ds => .list (pys ds)
def pys : List D → List PyData
  | [] => []
  | d :: ds => d.py :: pys ds
end
mutual
theorem Rep.dp {K : PySem.W.Frag} {H : Hp} : ∀ (d : D) (v : V), Rep K H v d → Dp K H v d.py
  | .non, _, h => by cases h; exact .non
  | .bl _, _, h => by cases h; exact .bl _
  | .int _, _, h => by cases h; exact .int _
  | .str _, _, h => by cases h; exact .str _
  | .tup ds, _, h => by
    cases h with
    | tup h1 h2 => exact .tup h1 (Reps.dp ds _ h2)
  | .lst ds, _, h => by
    cases h with
    | lst h1 h2 => exact .lst h1.sq (Reps.dp ds _ h2)
theorem Reps.dp {K : PySem.W.Frag} {H : Hp} : ∀ (ds : List D) (vs : List V), Reps K H vs ds → DpAll K H vs (pys ds)
  | [], _, h => by cases h; exact .nil
  | d :: ds, _, h => by
    cases h with
    | cons h1 h2 => exact .cons (Rep.dp d _ h1) (Reps.dp ds _ h2)
end

/-! ### the tape, the frame -/
def TapeAt (K : PySem.W.Frag) (H : Hp) (a : Addr) (t : Tape) : Prop := ∃ (sc : Addr), H a = some (.lst [.ref sc, .int (t.pos : Int), .int t.left, .int t.seed]) ∧ FzL K H sc (t.scr.map V.int)
def TapeR (K : PySem.W.Frag) (H : Hp) : Option Addr → TapeO → Prop
  | none, none => True
  | some a, some t => TapeAt K H a t
  | _, _ => False
/-- what may change in a call: the tape, the tables of code objects -/
def Vol (c : Ct) (tp : Option Addr) (a : Addr) : Prop := tp = some a ∨ a ∈ c.T.map (·.1)
structure Kp (c : Ct) (tp : Option Addr) (H H' : Hp) : Prop where
  kp : ∀ a o, H a = some o → ¬ Vol c tp a → H' a = some o
  st : Stab H H'
  nn : ∀ a, H' a = none → H a = none
section
variable {K : PySem.W.Frag} {c : Ct} {tp : Option Addr} {H H1 H2 : Hp}
theorem Kp.refl (c : Ct) (tp : Option Addr) (H : Hp) : Kp c tp H H := ⟨fun _ _ h _ => h, .refl H, fun _ h => h⟩
theorem Kp.trans (a : Kp c tp H H1) (b : Kp c tp H1 H2) : Kp c tp H H2 := ⟨fun x o h n => b.kp x o (a.kp x o h n) n, a.st.trans b.st, fun x h => a.nn x (b.nn x h)⟩
theorem Kp.same (s : Same H H1) : Kp c tp H H1 := ⟨fun a o h _ => s a o h, .of_same s, fun a h => s.free h⟩
theorem TapeR.same {ta : TapeO} (s : Same H H1) (h : TapeR K H tp ta) : TapeR K H1 tp ta := by
  cases tp <;> cases ta
  · exact h
  · exact h
  · exact h
  · obtain ⟨sc, e1, e2⟩ := h
    exact ⟨sc, s _ _ e1, (Stab.of_same s).fz e2⟩
end

def RepSl (K : PySem.W.Frag) (H : Hp) (tp : Option Addr) (σ : L2.St) (i : Nat) : Sl → Prop
  | .un => True
  | .val d => ∃ v, σ[i]? = some (some v) ∧ Rep K H v d
  | .own ds => ∃ a xs, σ[i]? = some (some (.ref a)) ∧ H a = some (.lst xs) ∧ Reps K H xs ds
  | .bor _ => False
  | .tape => ∃ a, tp = some a ∧ σ[i]? = some (some (.ref a))
def OwnAt (env : SE) (σ : L2.St) (i : Nat) (a : Addr) : Prop := (∃ ds, env[i]? = some (.own ds)) ∧ σ[i]? = some (some (.ref a))
structure RepS (K : PySem.W.Frag) (c : Ct) (B : Hp) (tp : Option Addr) (σ : L2.St) (H : Hp) (env : SE) (ta : TapeO) : Prop where
  len : env.length = σ.length
  slot : ∀ i sl, env[i]? = some sl → RepSl K H tp σ i sl
  fresh : ∀ i a, OwnAt env σ i a → B a = none ∧ ¬ Vol c tp a
  dist : ∀ i j a, OwnAt env σ i a → OwnAt env σ j a → i = j
  tape : TapeR K H tp ta
  tabs : LamX.Tabs c.T H
  keep : ∀ a o, B a = some o → ¬ Vol c tp a → H a = some o
  stab : Stab B H
/-- a result: H0 the heap ahead of it -/
def RepV (K : PySem.W.Frag) (c : Ct) (tp : Option Addr) (H0 H : Hp) (v : V) : Sl → Prop
  | .un => False
  | .val d => Rep K H v d
  | .own ds => ∃ a xs, v = .ref a ∧ H0 a = none ∧ ¬ Vol c tp a ∧ H a = some (.lst xs) ∧ Reps K H xs ds
  | .bor ds => ∃ a xs, v = .ref a ∧ H a = some (.lst xs) ∧ ¬ Vol c tp a ∧ Reps K H xs ds
  | .tape => ∃ a, tp = some a ∧ v = .ref a
section
variable {K : PySem.W.Frag} {c : Ct} {tp : Option Addr} {H H0 H1 H2 B : Hp} {σ : L2.St} {env : SE} {ta : TapeO}
/-- what is volatile is tracked -/
theorem RepS.vol (R : RepS K c B tp σ H env ta) {a : Addr} (h : H a = none) : ¬ Vol c tp a := by
  rintro (e | e)
  · subst e
    have t := R.tape
    cases ta with
    | none => exact t
    | some t' =>
      obtain ⟨sc, e1, _⟩ := t
      rw [h] at e1; cases e1
  · obtain ⟨p, hp, e⟩ := List.mem_map.mp e
    obtain ⟨ps, e1, _⟩ := R.tabs p hp
    rw [e, h] at e1; cases e1
theorem RepS.grow (R : RepS K c B tp σ H env ta) (s : Same H H1) : RepS K c B tp σ H1 env ta where
  len := R.len
  slot := fun i sl e => by
    have q := R.slot i sl e
    cases sl with
    | un => exact q
    | val d => obtain ⟨v, e1, r⟩ := q; exact ⟨v, e1, r.st (.of_same s)⟩
    | own ds => obtain ⟨a, xs, e1, e2, r⟩ := q; exact ⟨a, xs, e1, s _ _ e2, r.st (.of_same s)⟩
    | bor _ => exact q
    | tape => exact q
  fresh := R.fresh
  dist := R.dist
  tape := R.tape.same s
  tabs := R.tabs.ext s
  keep := fun a o e n => s _ _ (R.keep a o e n)
  stab := R.stab.trans (.of_same s)
theorem RepV.kp {v : V} {r : Sl} (h : RepV K c tp H0 H v r) (k : Kp c tp H H1) : RepV K c tp H0 H1 v r := by
  cases r with
  | un => exact h
  | val d => exact Rep.st h k.st
  | own ds => obtain ⟨a, xs, e, n, nv, h1, r⟩ := h; exact ⟨a, xs, e, n, nv, k.kp _ _ h1 nv, r.st k.st⟩
  | bor ds => obtain ⟨a, xs, e, h1, nv, r⟩ := h; exact ⟨a, xs, e, k.kp _ _ h1 nv, nv, r.st k.st⟩
  | tape => exact h
theorem RepV.back {v : V} {r : Sl} (h : RepV K c tp H1 H2 v r) (k : Kp c tp H H1) : RepV K c tp H H2 v r := by
  cases r with
  | un => exact h
  | val d => exact h
  | own ds => obtain ⟨a, xs, e, n, nv, h1, r⟩ := h; exact ⟨a, xs, e, k.nn _ n, nv, h1, r⟩
  | bor ds => exact h
  | tape => exact h
/-- a list, read -/
def Sl.items? : Sl → Option (List D)
  | .val (.lst ds) => some ds
  | .own ds => some ds
  | .bor ds => some ds
  | _ => none
theorem RepV.list {v : V} {r : Sl} {ds : List D} (h : RepV K c tp H0 H v r) (e : r.items? = some ds) : ∃ a xs, v = .ref a ∧ SqL K H a xs ∧ Reps K H xs ds := by
  cases r with
  | un => cases e
  | val d =>
    cases d with
    | lst es =>
      obtain rfl : es = ds := Option.some.inj e
      cases (show Rep K H v (.lst es) from h) with
      | lst h1 h2 => exact ⟨_, _, rfl, h1.sq, h2⟩
    | _ => cases e
  | own es => cases e; obtain ⟨a, xs, e, n, nv, h1, r⟩ := h; exact ⟨a, xs, e, SqL.of h1, r⟩
  | bor es => cases e; obtain ⟨a, xs, e, h1, nv, r⟩ := h; exact ⟨a, xs, e, SqL.of h1, r⟩
  | tape => cases e
/-- a datum, as it is read -/
def Sl.dat? : Sl → Option D
  | .val d => some d
  | .own ds => some (.lst ds)
  | .bor ds => some (.lst ds)
  | _ => none
theorem RepV.dp {v : V} {r : Sl} {d : D} (h : RepV K c tp H0 H v r) (e : r.dat? = some d) : Dp K H v d.py := by
  cases r with
  | un => cases e
  | val d => cases e; exact Rep.dp _ _ h
  | own es => cases e; obtain ⟨a, xs, rfl, n, nv, h1, r⟩ := h; exact .lst (SqL.of h1) (Reps.dp _ _ r)
  | bor es => cases e; obtain ⟨a, xs, rfl, h1, nv, r⟩ := h; exact .lst (SqL.of h1) (Reps.dp _ _ r)
  | tape => cases e
/-- a new list, a new tuple -/
theorem RepV.newL {p : Addr} {xs : List V} {ds : List D} (hp : H p = none) (nv : ¬ Vol c tp p) (r : Reps K H xs ds) : RepV K c tp H (upd H p (.lst xs)) (.ref p) (.own ds) :=
  ⟨p, xs, rfl, hp, nv, upd_same, r.st (.of_same (Same.new hp))⟩
theorem RepV.newT {p : Addr} {xs : List V} {ds : List D} (hp : H p = none) (r : Reps K H xs ds) : RepV K c tp H (upd H p (.tup xs)) (.ref p) (.val (.tup ds)) :=
  .tup (SqT.of upd_same) (r.st (.of_same (Same.new hp)))
end

/-! ### the exception -/
def ErrIs (c : Ct) (H : Hp) (cls : Value) (d : Option Addr) (x : Str) : Prop := cls = .ref c.C ∧ ∃ dd fs, d = some dd ∧ H dd = some (.xd fs) ∧ fs.lookup ("code" : Str) = some (V.str x)

/-! ### what an expression comes to -/
def EPost (K : PySem.W.Frag) (c : Ct) (W : WX) (B : Hp) (tp : Option Addr) (σ : L2.St) (H : Hp) (env : SE) (r : Option (Except Str Sl × TapeO)) (Q : VK) : Prop :=
  match r with
  | none => False
  | some (.ok z, ta') => ∀ v H', RepS K c B tp σ H' env ta' → Kp c tp H H' → RepV K c tp H H' v z → Q v H'
  | some (.error x, ta') => ∀ cls d H', RepS K c B tp σ H' env ta' → Kp c tp H H' → ErrIs c H' cls d x → W cls d σ H'
def tE (K : PySem.W.Frag) (c : Ct) (W : WX) (f : Ev) : TE := fun σ H Q => ∃ B tp env ta, RepS K c B tp σ H env ta ∧ EPost K c W B tp σ H env (f env ta) Q
/-- the judgement -/
structure PEv (X : Cx) (c : Ct) (W : WX) (e : Expr) (f : Ev) : Prop where
  pe : PE X e (tE X.K c W f)
theorem pe_mono {X : Cx} {e : Expr} {t t' : TE} (h : PE X e t) (i : ∀ σ H Q, t' σ H Q → t σ H Q) : PE X e t' := ⟨fun pins s σ H Q I w => h.run pins s σ H Q I (i σ H Q w)⟩
theorem pt_mono {X : Cx} {e : Expr} {t t' : TT} (h : PT X e t) (i : ∀ σ H Q, t' σ H Q → t σ H Q) : PT X e t' := ⟨fun pins s σ H Q I w => h.run pins s σ H Q I (i σ H Q w)⟩
theorem pw_mono {X : Cx} {e : Expr} {t t' : TT} (h : PW X e t) (i : ∀ σ H Q, t' σ H Q → t σ H Q) : PW X e t' := ⟨fun wh pins s σ H Q I w => h.run wh pins s σ H Q I (i σ H Q w)⟩
theorem pa_mono {X : Cx} {es : List Expr} {t t' : TA} (h : PA X es t) (i : ∀ σ H Q, t' σ H Q → t σ H Q) : PA X es t' := ⟨fun pos pins s σ H Q I w => h.run pos pins s σ H Q I (i σ H Q w)⟩
theorem ps_mono {X : Cx} {e : Stmt} {t t' : TS} (h : PS X e t) (i : ∀ D σ H, t' D σ H → t D σ H) : PS X e t' := ⟨fun pins s σ H D I w => h.run pins s σ H D I (i D σ H w)⟩
theorem pss_mono {X : Cx} {e : List Stmt} {t t' : TS} (h : PSs X e t) (i : ∀ D σ H, t' D σ H → t D σ H) : PSs X e t' := ⟨fun pins s σ H D I w => h.run pins s σ H D I (i D σ H w)⟩

def bindE (f : Ev) (k : Sl → Ev) : Ev := fun env ta => match f env ta with
  | none => none
  | some (.error x, t) => some (.error x, t)
  | some (.ok r, t) => k r env t
section
variable {K : PySem.W.Frag} {c : Ct} {W : WX} {f : Ev} {k : Sl → Ev} {B : Hp} {tp : Option Addr} {σ : L2.St} {H : Hp} {env : SE} {ta : TapeO} {Q : VK}
/-- the first part, then what is left -/
theorem tE_bind {R : VK} (RS : RepS K c B tp σ H env ta) (h : EPost K c W B tp σ H env (bindE f k env ta) Q)
    (go : ∀ r t v H1, RepS K c B tp σ H1 env t → Kp c tp H H1 → RepV K c tp H H1 v r → EPost K c W B tp σ H env (k r env t) Q → R v H1) : tE K c W f σ H R := by
  refine ⟨B, tp, env, ta, RS, ?_⟩
  unfold bindE at h
  cases e : f env ta with
  | none => rw [e] at h; exact h
  | some p =>
    obtain ⟨r, t⟩ := p
    rw [e] at h
    cases r with
    | error x => exact h
    | ok r => exact fun v H1 R1 K1 V1 => go r t v H1 R1 K1 V1 h
/-- the rest stands at a later heap -/
theorem EPost.later {H1 : Hp} {r : Option (Except Str Sl × TapeO)} (h : EPost K c W B tp σ H env r Q) (k1 : Kp c tp H H1) : EPost K c W B tp σ H1 env r Q := by
  cases r with
  | none => exact h
  | some p =>
    obtain ⟨r, t⟩ := p
    cases r with
    | error x => exact fun cls d H' R' K' e => h cls d H' R' (k1.trans K') e
    | ok r => exact fun v H' R' K' V' => h v H' R' (k1.trans K') (V'.back k1)
/-- an end: a value is there -/
theorem EPost.val {z : Sl} {t : TapeO} {v : V} (RS : RepS K c B tp σ H env t) (h : EPost K c W B tp σ H env (some (.ok z, t)) Q) (V : RepV K c tp H H v z) : Q v H := h v H RS (.refl _ _ _) V
theorem EPost.same {z : Sl} {t : TapeO} {v : V} {H1 : Hp} (RS : RepS K c B tp σ H env t) (h : EPost K c W B tp σ H env (some (.ok z, t)) Q) (s : Same H H1) (V : RepV K c tp H H1 v z) : Q v H1 := h v H1 (RS.grow s) (.same s) V
end

/-! ### names, constants -/
def varE (i : Nat) : Ev := fun env ta => match env[i]? with
  | some (.val d) => some (.ok (.val d), ta)
  | some (.own ds) => some (.ok (.bor ds), ta)
  | some .tape => some (.ok .tape, ta)
  | _ => none
def cstE (d : D) : Ev := fun _ ta => some (.ok (.val d), ta)
section
variable {X : Cx} {c : Ct} {W : WX}
theorem v_var {i : Nat} {x : Str} {pos : Pos} (hN : X.N[i]? = some x := by rfl) (hv : Vis X.env.scope x := by first | exact Or.inl rfl | exact Or.inr (Or.inl rfl) | exact Or.inr (Or.inr rfl))
    (hd : (x == ("__debug__" : Str)) = false := by decide) (hcd : (x == ("__classdict__" : Str)) = false := by decide) : PEv X c W (.Name x pos) (varE i) := by
  refine ⟨pe_mono (pe_var hN hv hd hcd) ?_⟩
  rintro σ H Q ⟨B, tp, env, ta, RS, h⟩
  unfold varE at h
  have sl := fun s e => RS.slot i s e
  cases e : env[i]? with
  | none => rw [e] at h; exact h.elim
  | some s =>
    rw [e] at h
    have q := sl s e
    cases s with
    | un => exact h.elim
    | val d => obtain ⟨v, e1, r⟩ := q; exact ⟨v, e1, EPost.val RS h r⟩
    | own ds =>
      obtain ⟨a, xs, e1, e2, r⟩ := q
      exact ⟨_, e1, EPost.val RS h ⟨a, xs, rfl, e2, (RS.fresh i a ⟨⟨ds, e⟩, e1⟩).2, r⟩⟩
    | bor _ => exact h.elim
    | tape => obtain ⟨a, e1, e2⟩ := q; exact ⟨_, e2, EPost.val RS h ⟨a, e1, rfl⟩⟩
theorem cst_of {K : PySem.W.Frag} {d : D} {v : V} (r : ∀ H, Rep K H v d) : ∀ σ H Q, tE K c W (cstE d) σ H Q → tC v σ H Q := by
  rintro σ H Q ⟨B, tp, env, ta, RS, h⟩
  exact EPost.val RS h (r H)
theorem v_int {i : Int} {j pos} : PEv X c W (.Constant (.int i) j pos) (cstE (.int i)) := ⟨pe_mono pe_int (cst_of fun _ => .int _)⟩
theorem v_bl {b j pos} : PEv X c W (.Constant (.bool b) j pos) (cstE (.bl b)) := ⟨pe_mono pe_bl (cst_of fun _ => .bl _)⟩
theorem v_non {j pos} : PEv X c W (.Constant .none j pos) (cstE .non) := ⟨pe_mono pe_non (cst_of fun _ => .non)⟩
theorem v_str {x j pos} : PEv X c W (.Constant (.str x) j pos) (cstE (.str x)) := ⟨pe_mono pe_str (cst_of fun _ => .str _)⟩
/-- a module's int -/
theorem v_gint {x : Str} {i : Int} {pos : Pos} (hm : ∃ t, X.mg x = some (.int i t)) (hg : Gl X x := by rfl) (hd : (x == ("__debug__" : Str)) = false := by decide) : PEv X c W (.Name x pos) (cstE (.int i)) := by
  obtain ⟨t, hm⟩ := hm
  exact ⟨pe_mono (pe_glob (v := .int i) hg hm ⟨t, rfl⟩ hd) (cst_of fun _ => .int _)⟩
end

/-! ### two-place operations -/
def binE (op : Sl → Sl → Option Sl) (f g : Ev) : Ev := bindE f fun x => bindE g fun y => fun _ ta => (op x y).map fun z => (.ok z, ta)
/-- op is told by r -/
def OpOk (K : PySem.W.Frag) (c : Ct) (r : R2) (op : Sl → Sl → Option Sl) : Prop :=
  ∀ (tp : Option Addr) (H0 H1 H : Hp) (v u : V) (x y z : Sl) (Q : VK), (∀ a, H a = none → ¬ Vol c tp a) → RepV K c tp H0 H v x → RepV K c tp H1 H u y → op x y = some z →
    (∀ w H', Same H H' → RepV K c tp H H' w z → Q w H') → r v u H Q
theorem bin_of {K : PySem.W.Frag} {c : Ct} {W : WX} {r : R2} {op : Sl → Sl → Option Sl} {f g : Ev} (ho : OpOk K c r op) : ∀ σ H Q, tE K c W (binE op f g) σ H Q → tOp r (tE K c W f) (tE K c W g) σ H Q := by
  rintro σ H Q ⟨B, tp, env, ta, RS, h⟩
  refine tE_bind RS h fun x t1 v H1 R1 K1 V1 h1 => ?_
  refine tE_bind R1 (h1.later K1) fun y t2 u H2 R2 K2 V2 h2 => ?_
  cases e : op x y with
  | none => rw [e] at h2; exact h2.elim
  | some z =>
    rw [e] at h2
    exact ho tp H H1 H2 v u x y z Q (fun a => R2.vol) (V1.kp K2) V2 e fun w H' s V => EPost.same R2 (h2.later K2) s V
section
variable {X : Cx} {c : Ct} {W : WX} {a b : Expr} {f g : Ev} {pos : Pos}
theorem v_op {op : Operator} {r : R2} {o : Sl → Sl → Option Sl} (hr : OpR X (binaryOp op) r) (ho : OpOk X.K c r o) (ha : PEv X c W a f) (hb : PEv X c W b g) : PEv X c W (.BinOp a op b pos) (binE o f g) :=
  ⟨pe_mono (pe_op hr ha.pe hb.pe) (bin_of ho)⟩
theorem v_cmp {op : CmpOp} {r : R2} {o : Sl → Sl → Option Sl} (hr : OpR X (compareOp op) r) (ho : OpOk X.K c r o) (ha : PEv X c W a f) (hb : PEv X c W b g) (hm : behindInMarks op b = false := by rfl) : PEv X c W (.Compare a [op] [b] pos) (binE o f g) :=
  ⟨pe_mono (pe_cmpR hr ha.pe hb.pe hm) (bin_of ho)⟩
end
end MP

/-! MPb: operations by plain data, tests, arguments, calls of built-ins. -/
namespace MP
open PySem PySem.Spec PyProof.Rows L2

def LIM : Nat := 16777216
theorem lim_line {n : Nat} (h : n ≤ LIM) : n ≤ sizeLine := by rw [sizeLine_eq]; exact h

/-! ### ints -/
def opI (C : Int → Int → Bool) (g : Int → Int → D) : Sl → Sl → Option Sl
  | .val (.int i), .val (.int j) => if C i j = true then some (.val (g i j)) else none
  | _, _ => none
theorem RepV.int {K : PySem.W.Frag} {c : Ct} {tp : Option Addr} {H0 H : Hp} {v : V} {i : Int} (h : RepV K c tp H0 H v (.val (.int i))) : v = .int i := by
  cases (show Rep K H v (.int i) from h); rfl
theorem RepV.bl {K : PySem.W.Frag} {c : Ct} {tp : Option Addr} {H0 H : Hp} {v : V} {i : Bool} (h : RepV K c tp H0 H v (.val (.bl i))) : v = .bl i := by
  cases (show Rep K H v (.bl i) from h); rfl
theorem RepV.str {K : PySem.W.Frag} {c : Ct} {tp : Option Addr} {H0 H : Hp} {v : V} {i : Str} (h : RepV K c tp H0 H v (.val (.str i))) : v = .str i := by
  cases (show Rep K H v (.str i) from h); rfl
theorem RepV.tup {K : PySem.W.Frag} {c : Ct} {tp : Option Addr} {H0 H : Hp} {v : V} {ds : List D} (h : RepV K c tp H0 H v (.val (.tup ds))) : ∃ a xs, v = .ref a ∧ SqT K H a xs ∧ Reps K H xs ds := by
  cases (show Rep K H v (.tup ds) from h) with
  | tup h1 h2 => exact ⟨_, _, rfl, h1, h2⟩
section
variable {K : PySem.W.Frag} {c : Ct}
theorem opI_ok {C : Int → Int → Prop} {C' : Int → Int → Bool} {g : Int → Int → V} {g' : Int → Int → D} (hc : ∀ i j, C' i j = true → C i j) (hg : ∀ H i j, C' i j = true → Rep K H (g i j) (g' i j)) : OpOk K c (rI C g) (opI C' g') := by
  intro tp H0 H1 H v u x y z Q nv hx hy e k
  unfold opI at e
  split at e
  · rename_i i j
    split at e
    · rename_i hC
      cases e
      exact ⟨i, j, hx.int, hy.int, hc i j hC, k _ H (Same.refl H) (hg H i j hC)⟩
    · cases e
  · cases e
theorem opI0_ok {g : Int → Int → V} {g' : Int → Int → D} (hg : ∀ H i j, Rep K H (g i j) (g' i j)) : OpOk K c (rI0 g) (opI (fun _ _ => true) g') := by
  intro tp H0 H1 H v u x y z Q nv hx hy e k
  unfold opI at e
  split at e
  · rename_i i j
    rw [if_pos rfl] at e
    cases e
    exact ⟨i, j, hx.int, hy.int, k _ H (Same.refl H) (hg H i j)⟩
  · cases e
/-- one of two rules -/
theorem OpOk.or {r r' : R2} {o o' : Sl → Sl → Option Sl} (h : OpOk K c r o) (h' : OpOk K c r' o') : OpOk K c (fun x y H Q => r x y H Q ∨ r' x y H Q) (fun x y => (o x y).orElse fun _ => o' x y) := by
  intro tp H0 H1 H v u x y z Q nv hx hy e k
  have e : (o x y).orElse (fun _ => o' x y) = some z := e
  cases e1 : o x y with
  | none => rw [e1] at e; exact .inr (h' tp H0 H1 H v u x y z Q nv hx hy e k)
  | some w => rw [e1] at e; cases e; exact .inl (h tp H0 H1 H v u x y _ Q nv hx hy e1 k)
theorem OpOk.imp {r : R2} {o o' : Sl → Sl → Option Sl} (h : OpOk K c r o) (e : ∀ x y z, o' x y = some z → o x y = some z) : OpOk K c r o' := fun tp H0 H1 H v u x y z Q nv hx hy q k => h tp H0 H1 H v u x y z Q nv hx hy (e x y z q) k
end
def subS : Sl → Sl → Option Sl := opI (fun _ _ => true) fun i j => .int (i - j)
def mulOk (i j : Int) : Bool := decide (i.natAbs.log2 + j.natAbs.log2 < 1000000)
def divOk (j : Int) : Bool := decide (0 < j ∧ j.natAbs.log2 < 9000)
def powOk (i j : Int) : Bool := decide (0 ≤ j ∧ j ≤ 1000000 ∧ i.natAbs < 2 ^ 64)
def fdivS : Sl → Sl → Option Sl := opI (fun _ j => divOk j) fun i j => .int (i / j)
def modS : Sl → Sl → Option Sl := opI (fun _ j => decide (0 < j)) fun i j => .int (i % j)
def powS : Sl → Sl → Option Sl := opI powOk fun i j => .int (i ^ j.toNat)
def ltS : Sl → Sl → Option Sl := opI (fun _ _ => true) fun i j => .bl (decide (i < j))
def leS : Sl → Sl → Option Sl := opI (fun _ _ => true) fun i j => .bl (decide (i ≤ j))
def gtS : Sl → Sl → Option Sl := opI (fun _ _ => true) fun i j => .bl (decide (j < i))
def geS : Sl → Sl → Option Sl := opI (fun _ _ => true) fun i j => .bl (decide (j ≤ i))
def xorS : Sl → Sl → Option Sl := opI (fun _ _ => true) fun i j => .int (Builtin.bitXor i j)
def andS : Sl → Sl → Option Sl := opI (fun _ _ => true) fun i j => .int (Builtin.bitAnd i j)
def orS : Sl → Sl → Option Sl := opI (fun _ _ => true) fun i j => .int (Builtin.bitOr i j)
section
variable {K : PySem.W.Frag} {c : Ct}
theorem ok_sub : OpOk K c (rI0 fun i j => .int (i - j)) subS := opI0_ok fun _ _ _ => .int _
theorem ok_mulI : OpOk K c (rI CMulW fun i j => .int (i * j)) (opI mulOk fun i j => .int (i * j)) := opI_ok (fun i j h => (show i.natAbs.log2 + j.natAbs.log2 < 1000000 from of_decide_eq_true h)) fun _ _ _ _ => .int _
theorem ok_fdiv : OpOk K c (rI CDivW fun i j => .int (i / j)) fdivS := opI_ok (fun i j h => (show 0 < j ∧ j.natAbs.log2 < 9000 from of_decide_eq_true h)) fun _ _ _ _ => .int _
theorem ok_mod : OpOk K c (rI (fun _ j => 0 < j) fun i j => .int (i % j)) modS := opI_ok (fun i j h => of_decide_eq_true h) fun _ _ _ _ => .int _
theorem ok_pow : OpOk K c (rI CPow fun i j => .int (i ^ j.toNat)) powS := opI_ok (fun i j h => (show 0 ≤ j ∧ j ≤ 1000000 ∧ i.natAbs < 2 ^ 64 from of_decide_eq_true h)) fun _ _ _ _ => .int _
theorem ok_lt : OpOk K c (rI0 fun i j => .bl (decide (i < j))) ltS := opI0_ok fun _ _ _ => .bl _
theorem ok_le : OpOk K c (rI0 fun i j => .bl (decide (i ≤ j))) leS := opI0_ok fun _ _ _ => .bl _
theorem ok_gt : OpOk K c (rI0 fun i j => .bl (decide (j < i))) gtS := opI0_ok fun _ _ _ => .bl _
theorem ok_ge : OpOk K c (rI0 fun i j => .bl (decide (j ≤ i))) geS := opI0_ok fun _ _ _ => .bl _
theorem ok_xor : OpOk K c (rI0 fun i j => .int (Builtin.bitXor i j)) xorS := opI0_ok fun _ _ _ => .int _
theorem ok_and : OpOk K c (rI0 fun i j => .int (Builtin.bitAnd i j)) andS := opI0_ok fun _ _ _ => .int _
theorem ok_or : OpOk K c (rI0 fun i j => .int (Builtin.bitOr i j)) orS := opI0_ok fun _ _ _ => .int _
end

/-! ### + of texts, tuples, lists; * of lists, tuples -/
/-- t + u of tuples -/
def rCatU (K : PySem.W.Frag) : R2 := fun x y H Q => ∃ a b xs ys, x = .ref a ∧ y = .ref b ∧ SqT K H a xs ∧ SqT K H b ys ∧ xs.length + ys.length ≤ sizeLine ∧
  Q (.ref a) H = Q (.ref a) H ∧ (xs = [] → Q (.ref b) H) ∧ (xs ≠ [] → ys = [] → Q (.ref a) H) ∧ (xs ≠ [] → ys ≠ [] → ∀ p, H p = none → Q (.ref p) (upd H p (.tup (xs ++ ys))))
theorem op_catU {X : Cx} : OpR X (binaryOp .Add) (rCatU X.K) := by
  intro pins s σ H x y v u Q I rx ry h
  obtain ⟨a, b, xs, ys, rfl, rfl, ha, hb, hz, _, q0, q1, q2⟩ := h
  by_cases hx : xs = []
  · cases rx
    cases ry
    obtain ⟨its, r1, p1, _⟩ := I.tuple ha
    obtain ⟨its2, r2, p2, _⟩ := I.tuple hb
    have hv : its = [] := r1.nil_iff.mpr hx
    obtain ⟨⟨cls, dd, data, sl⟩, ho, hc, n, hd⟩ := id p1
    obtain ⟨⟨cls2, dd2, data2, sl2⟩, ho2, hc2, n2, hd2⟩ := id p2
    simp only at hc hd hc2 hd2
    subst hc hd hc2 hd2
    exact concat_meets ⟨_, ho, rfl⟩ ⟨_, ho2, rfl⟩ noFill_tuple_add seq_tuple_add PySem.F.slot_tuple_add PySem.F.entry_tuple_add (PySem.F.args_tuple_add_2 _ _)
      (tuple_addW0 a b its.toArray its2.toArray n n2 dd dd2 sl sl2 (by simp [hv])) ⟨ho, ho2, ⟨.ref b, H, I, rfl, q0 hx⟩⟩
  · exact op_catT pins s σ H (.ref a) (.ref b) v u Q I rx ry ⟨a, b, xs, ys, rfl, rfl, ha, hb, hx, hz, q1 hx, q2 hx⟩
/-- two lists -/
def rCatL (K : PySem.W.Frag) : R2 := fun x y H Q => ∃ l b xs zs, x = .ref l ∧ y = .ref b ∧ SqL K H l xs ∧ SqL K H b zs ∧ xs.length + zs.length ≤ sizeLine ∧ ∀ p, H p = none → Q (.ref p) (upd H p (.lst (xs ++ zs)))
end MP
namespace MP
open PySem PySem.Spec PyProof.Rows L2
/-- a list, tracked or frozen, as it lies -/
theorem Inv.lstAny {X : Cx} {pins : List (Addr × Obj)} {σ : L2.St} {H : Hp} {s : Shared} {l : Addr} {xs : List V} (I : Inv X pins σ H s) (h : Rd H l (.lst xs)) :
    xs.length ≤ sizeLine ∧ ∃ (its : List Value) (n : Nat), Vals xs its ∧ xs.length = its.length ∧ s.heap.get? l = some { cls := .type "list", data := .seq its.toArray n } := by
  obtain ⟨z, its, n, r, e⟩ := h.ok I.hok
  exact ⟨z, its, n, r, r.length, e⟩
def rCatM : R2 := fun x y H Q => ∃ l b xs zs, x = .ref l ∧ y = .ref b ∧ Rd H l (.lst xs) ∧ Rd H b (.lst zs) ∧ xs.length + zs.length ≤ sizeLine ∧ ∀ p, H p = none → Q (.ref p) (upd H p (.lst (xs ++ zs)))
theorem op_catM {X : Cx} : OpR X (binaryOp .Add) rCatM := by
  intro pins s σ H x y v u Q I rx ry h
  obtain ⟨l, b, xs, zs, rfl, rfl, hH, hB, hz, q⟩ := h
  cases rx
  cases ry
  obtain ⟨z, its, n, r, hl, e⟩ := Inv.lstAny I hH
  obtain ⟨z2, its2, n2, r2, hl2, e2⟩ := Inv.lstAny I hB
  refine PySem.P.add_list e e2 ?_ (by rw [List.size_toArray, List.size_toArray]; omega)
  have ea : its.toArray ++ its2.toArray = (its ++ its2).toArray := by simp
  rw [ea]
  exact ⟨.ref _, _, I.lnew (t' := s.toks) (r.append r2) (by rw [List.length_append]; omega), rfl, q _ I.fresh⟩
/-- a list that is tracked -/
def Sl.tr? : Sl → Option (List D)
  | .own ds => some ds
  | .bor ds => some ds
  | _ => none
section
variable {K : PySem.W.Frag} {c : Ct} {tp : Option Addr} {H0 H : Hp}
theorem RepV.tr {v : V} {r : Sl} {ds : List D} (h : RepV K c tp H0 H v r) (e : r.tr? = some ds) : ∃ a xs, v = .ref a ∧ H a = some (.lst xs) ∧ Reps K H xs ds := by
  cases r with
  | own es => cases e; obtain ⟨a, xs, e, n, nv, h1, r⟩ := h; exact ⟨a, xs, e, h1, r⟩
  | bor es => cases e; obtain ⟨a, xs, e, h1, nv, r⟩ := h; exact ⟨a, xs, e, h1, r⟩
  | _ => cases e
end
def catTS : Sl → Sl → Option Sl
  | .val (.tup a), .val (.tup b) => if a.length + b.length ≤ LIM then some (.val (.tup (a ++ b))) else none
  | _, _ => none
def catSS : Sl → Sl → Option Sl
  | .val (.str a), .val (.str b) => if a.length + b.length ≤ LIM then some (.val (.str (a ++ b))) else none
  | _, _ => none
def catMS (x y : Sl) : Option Sl := match x.tr?, y.tr? with
  | some a, some b => if a.length + b.length ≤ LIM then some (.own (a ++ b)) else none
  | _, _ => none
/-- x + y -/
def addS (x y : Sl) : Option Sl := match x, y with
  | .val (.int i), .val (.int j) => some (.val (.int (i + j)))
  | .val (.tup a), .val (.tup b) => if a.length + b.length ≤ LIM then some (.val (.tup (a ++ b))) else none
  | .val (.str a), .val (.str b) => if a.length + b.length ≤ LIM then some (.val (.str (a ++ b))) else none
  | x, y => catMS x y
section
variable {K : PySem.W.Frag} {c : Ct}
theorem ok_addI : OpOk K c (rI0 fun i j => .int (i + j)) (opI (fun _ _ => true) fun i j => .int (i + j)) := opI0_ok fun _ _ _ => .int _
theorem ok_catT : OpOk K c (rCatU K) catTS := by
  intro tp H0 H1 H v u x y z Q nv hx hy e k
  unfold catTS at e
  split at e
  · rename_i a b
    split at e
    · rename_i hl
      cases e
      obtain ⟨l, xs, rfl, h1, r1⟩ := hx.tup
      obtain ⟨l2, ys, rfl, h2, r2⟩ := hy.tup
      refine ⟨l, l2, xs, ys, rfl, rfl, h1, h2, by rw [r1.length, r2.length]; exact lim_line hl, rfl, fun e => ?_, fun _ e => ?_, fun _ _ p hp => ?_⟩
      · subst e
        have ea : a = [] := List.eq_nil_of_length_eq_zero (by rw [← r1.length]; rfl)
        exact k _ H (Same.refl H) (by rw [ea]; exact Rep.tup h2 r2)
      · subst e
        have ea : b = [] := List.eq_nil_of_length_eq_zero (by rw [← r2.length]; rfl)
        exact k _ H (Same.refl H) (by rw [ea, List.append_nil]; exact Rep.tup h1 r1)
      · exact k _ _ (Same.new hp) (RepV.newT hp (r1.append r2))
    · cases e
  · cases e
theorem ok_catS : OpOk K c (fun x y H Q => ∃ i j, x = .str i ∧ y = .str j ∧ i.length + j.length ≤ sizeLine ∧ Q (.str (i ++ j)) H) catSS := by
  intro tp H0 H1 H v u x y z Q nv hx hy e k
  unfold catSS at e
  split at e
  · rename_i a b
    split at e
    · rename_i hl
      cases e
      exact ⟨a, b, hx.str, hy.str, lim_line hl, k _ H (Same.refl H) (Rep.str _)⟩
    · cases e
  · cases e
theorem ok_catM : OpOk K c rCatM catMS := by
  intro tp H0 H1 H v u x y z Q nv hx hy e k
  unfold catMS at e
  split at e
  · rename_i a b ex ey
    split at e
    · rename_i hl
      cases e
      obtain ⟨l, xs, rfl, h1, r1⟩ := hx.tr ex
      obtain ⟨l2, ys, rfl, h2, r2⟩ := hy.tr ey
      exact ⟨l, l2, xs, ys, rfl, rfl, .inl h1, .inl h2, by rw [r1.length, r2.length]; exact lim_line hl, fun p hp => k _ _ (Same.new hp) (RepV.newL hp (nv p hp) (r1.append r2))⟩
    · cases e
  · cases e
/-- all of + -/
def rAddAll (K : PySem.W.Frag) : R2 := fun x y H Q => rI0 (fun i j => .int (i + j)) x y H Q ∨ (rCatU K x y H Q ∨ ((∃ i j, x = .str i ∧ y = .str j ∧ i.length + j.length ≤ sizeLine ∧ Q (.str (i ++ j)) H) ∨ rCatM x y H Q))
theorem op_addAll {X : Cx} : OpR X (binaryOp .Add) (rAddAll X.K) := op_add.or (op_catU.or (op_add_str.or op_catM))
theorem ok_add : OpOk K c (rAddAll K) addS := by
  refine (ok_addI.or (ok_catT.or (ok_catS.or ok_catM))).imp fun x y z e => ?_
  unfold addS at e
  split at e
  · cases e; rfl
  · show ((opI _ _ _ _).orElse _) = _
    simp only [opI, catTS, Option.orElse]
    rw [e]
  · simp only [opI, catTS, catSS, Option.orElse]
    rw [e]
  · rename_i h1 h2 h3
    have e1 : opI (fun _ _ => true) (fun i j => .int (i + j)) x y = none := by
      unfold opI
      split
      · exact (h1 _ _ rfl rfl).elim
      · rfl
    have e2 : catTS x y = none := by
      unfold catTS
      split
      · exact (h2 _ _ rfl rfl).elim
      · rfl
    have e3 : catSS x y = none := by
      unfold catSS
      split
      · exact (h3 _ _ rfl rfl).elim
      · rfl
    rw [e1, e2, e3]
    exact e
end

/-! ### == and != -/
def eqC (x y : Sl) : Option Bool := match x.dat?, y.dat? with
  | some a, some b => if SeqAt.shaped a.py = true ∧ SeqAt.shaped b.py = true then some (PyData.eqv a.py b.py) else none
  | _, _ => none
def eqS (x y : Sl) : Option Sl := (eqC x y).map fun b => .val (.bl b)
def neS (x y : Sl) : Option Sl := (eqC x y).map fun b => .val (.bl (!b))
section
variable {K : PySem.W.Frag} {c : Ct}
theorem ok_eq : OpOk K c (rEqD K) eqS := by
  intro tp H0 H1 H v u x y z Q nv hx hy e k
  unfold eqS eqC at e
  split at e
  · rename_i a b ex ey
    split at e
    · rename_i hs
      cases e
      exact ⟨_, _, hx.dp ex, hy.dp ey, hs.1, hs.2, k _ H (Same.refl H) (Rep.bl _)⟩
    · cases e
  · cases e
theorem ok_ne : OpOk K c (rNeD K) neS := by
  intro tp H0 H1 H v u x y z Q nv hx hy e k
  unfold neS eqC at e
  split at e
  · rename_i a b ex ey
    split at e
    · rename_i hs
      cases e
      exact ⟨_, _, hx.dp ex, hy.dp ey, hs.1, hs.2, k _ H (Same.refl H) (Rep.bl _)⟩
    · cases e
  · cases e
end
/-! ### is None -/
def Sl.isNone? : Sl → Option Bool
  | .val .non => some true
  | .val _ => some false
  | .own _ => some false
  | .bor _ => some false
  | _ => none
def isS (x y : Sl) : Option Sl := match y with
  | .val .non => x.isNone?.map fun b => .val (.bl b)
  | _ => none
def isntS (x y : Sl) : Option Sl := match y with
  | .val .non => x.isNone?.map fun b => .val (.bl (!b))
  | _ => none
section
variable {K : PySem.W.Frag} {c : Ct}
theorem RepV.isNone {tp : Option Addr} {H0 H : Hp} {v : V} {x : Sl} {b : Bool} (h : RepV K c tp H0 H v x) (e : x.isNone? = some b) : decide (v = .non) = b := by
  cases x with
  | un => cases e
  | val d =>
    have h' : Rep K H v d := h
    cases d <;> (cases h'; cases e; rfl)
  | own ds => cases e; obtain ⟨a, xs, rfl, _⟩ := h; rfl
  | bor ds => cases e; obtain ⟨a, xs, rfl, _⟩ := h; rfl
  | tape => cases e
theorem ok_is : OpOk K c (fun x y H Q => y = .non ∧ Q (.bl (decide (x = .non))) H) isS := by
  intro tp H0 H1 H v u x y z Q nv hx hy e k
  unfold isS at e
  split at e
  · cases (show Rep K H u .non from hy)
    cases ex : x.isNone? with
    | none => rw [ex] at e; cases e
    | some b =>
      rw [ex] at e
      cases e
      exact ⟨rfl, k _ H (Same.refl H) (by rw [hx.isNone ex]; exact Rep.bl _)⟩
  · cases e
theorem ok_isnt : OpOk K c (fun x y H Q => y = .non ∧ Q (.bl (!decide (x = .non))) H) isntS := by
  intro tp H0 H1 H v u x y z Q nv hx hy e k
  unfold isntS at e
  split at e
  · cases (show Rep K H u .non from hy)
    cases ex : x.isNone? with
    | none => rw [ex] at e; cases e
    | some b =>
      rw [ex] at e
      cases e
      exact ⟨rfl, k _ H (Same.refl H) (by rw [hx.isNone ex]; exact Rep.bl _)⟩
  · cases e
end
/-! ### subscripts -/
def Sl.seq? : Sl → Option (List D)
  | .val (.tup ds) => some ds
  | .val (.lst ds) => some ds
  | .own ds => some ds
  | .bor ds => some ds
  | _ => none
def ixS (x y : Sl) : Option Sl := match x.seq?, y with
  | some ds, .val (.int i) => (atI ds i).map .val
  | _, _ => none
section
variable {K : PySem.W.Frag} {c : Ct}
theorem RepV.seq {tp : Option Addr} {H0 H : Hp} {v : V} {x : Sl} {ds : List D} (h : RepV K c tp H0 H v x) (e : x.seq? = some ds) : ∃ a xs, v = .ref a ∧ (SqL K H a xs ∨ SqT K H a xs) ∧ Reps K H xs ds := by
  cases x with
  | un => cases e
  | val d =>
    have h' : Rep K H v d := h
    cases d with
    | tup es => cases e; obtain ⟨a, xs, e, h1, r⟩ := RepV.tup h; exact ⟨a, xs, e, .inr h1, r⟩
    | lst es => cases e; obtain ⟨a, xs, e, h1, r⟩ := RepV.list h rfl; exact ⟨a, xs, e, .inl h1, r⟩
    | _ => cases e
  | own es => cases e; obtain ⟨a, xs, e, h1, r⟩ := RepV.list h rfl; exact ⟨a, xs, e, .inl h1, r⟩
  | bor es => cases e; obtain ⟨a, xs, e, h1, r⟩ := RepV.list h rfl; exact ⟨a, xs, e, .inl h1, r⟩
  | tape => cases e
theorem Reps.atI {H : Hp} {xs : List V} {ds : List D} {i : Int} {d : D} (r : Reps K H xs ds) (e : L2.atI ds i = some d) : ∃ v, L2.atI xs i = some v ∧ Rep K H v d := by
  unfold L2.atI at e ⊢
  rw [r.length]
  cases q : ixN ds.length i with
  | none => rw [q] at e; cases e
  | some j =>
    rw [q] at e
    exact r.get (i := j) e
theorem ok_ix : OpOk K c (rIx K) ixS := by
  intro tp H0 H1 H v u x y z Q nv hx hy e k
  unfold ixS at e
  split at e
  · rename_i ds i ex
    cases ed : L2.atI ds i with
    | none => rw [ed] at e; cases e
    | some d =>
      rw [ed] at e
      cases e
      obtain ⟨a, xs, rfl, hs, r⟩ := hx.seq ex
      obtain ⟨w, e1, r1⟩ := r.atI ed
      rw [hy.int]
      rcases hs with hs | hs
      · exact .inl ⟨a, xs, i, w, rfl, rfl, hs, e1, k _ H (Same.refl H) r1⟩
      · exact .inr (.inl ⟨a, xs, i, w, rfl, rfl, hs, e1, k _ H (Same.refl H) r1⟩)
  · cases e
end
section
variable {X : Cx} {c : Ct} {W : WX} {a b : Expr} {f g : Ev} {pos : Pos}
theorem v_ix (ha : PEv X c W a f) (hb : PEv X c W b g) (hs : PlainIx b := by exact fun _ _ => rfl) : PEv X c W (.Subscript a b pos) (binE ixS f g) := ⟨pe_mono (pe_ix ix_seq ha.pe hb.pe hs) (bin_of ok_ix)⟩
end
/-! ### in, not in -/
def inC (x y : Sl) : Option Bool := match x.dat?, y.seq? with
  | some d, some ds => if SeqAt.shaped d.py = true ∧ SeqAt.shaped (.list (pys ds)) = true then some ((pys ds).any fun z => PyData.eqv z d.py) else none
  | _, _ => none

def inS (x y : Sl) : Option Sl := (inC x y).map fun b => .val (.bl b)
def ninS (x y : Sl) : Option Sl := (inC x y).map fun b => .val (.bl (!b))
/-- x in a list or a tuple of data -/
def rInA (K : PySem.W.Frag) (neg : Bool) : R2 := fun x y H Q => ∃ d ds, Dp K H x d ∧ (Dp K H y (.list ds) ∨ Dp K H y (.tuple ds)) ∧ SeqAt.shaped d = true ∧ SeqAt.shaped (.list ds) = true ∧ Q (.bl (if neg then !ds.any fun z => PyData.eqv z d else ds.any fun z => PyData.eqv z d)) H
end MP

/-! MPc: in, tests, arguments, calls of built-ins, displays. -/
namespace MP
open PySem PySem.Spec PyProof.Rows L2
section
variable {X : Cx}
theorem op_inA (hu : X.A.units + 65 < cLine) : OpR X (compareOp .In) (rInA X.K false) := by
  intro pins s σ H x y v u Q I rx ry h
  obtain ⟨d, ds, hd, he, sd, se, q⟩ := h
  obtain ⟨as, r1⟩ := Dp.reads I d x v hd rx
  rcases he with he | he
  · obtain ⟨bs, r2⟩ := Dp.reads I (.list ds) y u he ry
    exact SeqAt.in_list_reads r2 r1 (SeqAt.canLay_of_shaped se) (SeqAt.canLay_of_shaped sd) (room_in_shaped sd hu) ⟨.bl _, H, I, rfl, q⟩
  · obtain ⟨bs, r2⟩ := Dp.reads I (.tuple ds) y u he ry
    exact SeqAt.in_tuple_reads r2 r1 (SeqAt.canLay_of_shaped se) (SeqAt.canLay_of_shaped sd) (room_in_shaped sd hu) ⟨.bl _, H, I, rfl, q⟩
theorem op_ninA (hu : X.A.units + 65 < cLine) : OpR X (compareOp .NotIn) (rInA X.K true) := by
  intro pins s σ H x y v u Q I rx ry h
  obtain ⟨d, ds, hd, he, sd, se, q⟩ := h
  obtain ⟨as, r1⟩ := Dp.reads I d x v hd rx
  rcases he with he | he
  · obtain ⟨bs, r2⟩ := Dp.reads I (.list ds) y u he ry
    exact SeqAt.notIn_list_reads r2 r1 (SeqAt.canLay_of_shaped se) (SeqAt.canLay_of_shaped sd) (room_in_shaped sd hu) ⟨.bl _, H, I, rfl, q⟩
  · obtain ⟨bs, r2⟩ := Dp.reads I (.tuple ds) y u he ry
    exact SeqAt.notIn_tuple_reads r2 r1 (SeqAt.canLay_of_shaped se) (SeqAt.canLay_of_shaped sd) (room_in_shaped sd hu) ⟨.bl _, H, I, rfl, q⟩
end
section
variable {K : PySem.W.Frag} {c : Ct}
theorem RepV.seqdp {tp : Option Addr} {H0 H : Hp} {v : V} {x : Sl} {ds : List D} (h : RepV K c tp H0 H v x) (e : x.seq? = some ds) : Dp K H v (.list (pys ds)) ∨ Dp K H v (.tuple (pys ds)) := by
  obtain ⟨a, xs, rfl, hs | hs, r⟩ := h.seq e
  · exact .inl (.lst hs (Reps.dp _ _ r))
  · exact .inr (.tup hs (Reps.dp _ _ r))
theorem ok_in : OpOk K c (rInA K false) inS := by
  intro tp H0 H1 H v u x y z Q nv hx hy e k
  unfold inS inC at e
  split at e
  · rename_i d ds ex ey
    split at e
    · rename_i hs
      cases e
      exact ⟨_, _, hx.dp ex, hy.seqdp ey, hs.1, hs.2, k _ H (Same.refl H) (Rep.bl _)⟩
    · cases e
  · cases e
theorem ok_nin : OpOk K c (rInA K true) ninS := by
  intro tp H0 H1 H v u x y z Q nv hx hy e k
  unfold ninS inC at e
  split at e
  · rename_i d ds ex ey
    split at e
    · rename_i hs
      cases e
      exact ⟨_, _, hx.dp ex, hy.seqdp ey, hs.1, hs.2, k _ H (Same.refl H) (Rep.bl _)⟩
    · cases e
  · cases e
end

/-! ### one-place operations -/
def unE (op : Sl → Option Sl) (f : Ev) : Ev := bindE f fun x => fun _ ta => (op x).map fun z => (.ok z, ta)
def negS : Sl → Option Sl
  | .val (.int i) => some (.val (.int (-i)))
  | _ => none
section
variable {X : Cx} {c : Ct} {W : WX} {a : Expr} {f : Ev} {pos : Pos}
theorem v_neg (ha : PEv X c W a f) : PEv X c W (.UnaryOp .USub a pos) (unE negS f) := by
  refine ⟨pe_mono (pe_un un_neg ha.pe) ?_⟩
  rintro σ H Q ⟨B, tp, env, ta, RS, h⟩
  refine tE_bind RS h fun x t1 v H1 R1 K1 V1 h1 => ?_
  unfold negS at h1
  split at h1
  · exact ⟨_, V1.int, EPost.val R1 (h1.later K1) (Rep.int _)⟩
  · exact h1.elim
end

/-! ### tests -/
abbrev Tv := SE → TapeO → Option (Except Str Bool × TapeO)
def truthS : Sl → Option Bool
  | .val .non => some false
  | .val (.bl b) => some b
  | .val (.int i) => some (i != 0)
  | .val (.str x) => if x.length ≤ LIM then some ((x.length : Int) != 0) else none
  | .val (.tup ds) => some (!ds.isEmpty)
  | .val (.lst ds) => some (!ds.isEmpty)
  | .own ds => some (!ds.isEmpty)
  | .bor ds => some (!ds.isEmpty)
  | _ => none
def ofE (f : Ev) : Tv := fun env ta => match f env ta with
  | none => none
  | some (.error x, t) => some (.error x, t)
  | some (.ok r, t) => (truthS r).map fun b => (.ok b, t)
def TPost (K : PySem.W.Frag) (c : Ct) (W : WX) (B : Hp) (tp : Option Addr) (σ : L2.St) (H : Hp) (env : SE) (r : Option (Except Str Bool × TapeO)) (Q : Bool → Hp → Prop) : Prop :=
  match r with
  | none => False
  | some (.ok b, ta') => ∀ H', RepS K c B tp σ H' env ta' → Kp c tp H H' → Q b H'
  | some (.error x, ta') => ∀ cls d H', RepS K c B tp σ H' env ta' → Kp c tp H H' → ErrIs c H' cls d x → W cls d σ H'
def tTt (K : PySem.W.Frag) (c : Ct) (W : WX) (f : Tv) : TT := fun σ H Q => ∃ B tp env ta, RepS K c B tp σ H env ta ∧ TPost K c W B tp σ H env (f env ta) Q
structure PTv (X : Cx) (c : Ct) (W : WX) (e : Expr) (f : Tv) : Prop where
  pt : PT X e (tTt X.K c W f)
structure PWv (X : Cx) (c : Ct) (W : WX) (e : Expr) (f : Tv) : Prop where
  pw : PW X e (tTt X.K c W f)
def bindT (f : Tv) (k : Bool → Tv) : Tv := fun env ta => match f env ta with
  | none => none
  | some (.error x, t) => some (.error x, t)
  | some (.ok r, t) => k r env t
section
variable {K : PySem.W.Frag} {c : Ct} {W : WX} {B : Hp} {tp : Option Addr} {σ : L2.St} {H : Hp} {env : SE} {ta : TapeO} {Q : Bool → Hp → Prop}
theorem TPost.later {H1 : Hp} {r : Option (Except Str Bool × TapeO)} (h : TPost K c W B tp σ H env r Q) (k1 : Kp c tp H H1) : TPost K c W B tp σ H1 env r Q := by
  cases r with
  | none => exact h
  | some p =>
    obtain ⟨r, t⟩ := p
    cases r with
    | error x => exact fun cls d H' R' K' e => h cls d H' R' (k1.trans K') e
    | ok r => exact fun H' R' K' => h H' R' (k1.trans K')
theorem tT_bind {f : Tv} {k : Bool → Tv} {R : Bool → Hp → Prop} (RS : RepS K c B tp σ H env ta) (h : TPost K c W B tp σ H env (bindT f k env ta) Q)
    (go : ∀ b t H1, RepS K c B tp σ H1 env t → Kp c tp H H1 → TPost K c W B tp σ H env (k b env t) Q → R b H1) : tTt K c W f σ H R := by
  refine ⟨B, tp, env, ta, RS, ?_⟩
  unfold bindT at h
  cases e : f env ta with
  | none => rw [e] at h; exact h
  | some p =>
    obtain ⟨r, t⟩ := p
    rw [e] at h
    cases r with
    | error x => exact h
    | ok r => exact fun H1 R1 K1 => go r t H1 R1 K1 h
theorem TPost.val {b : Bool} {t : TapeO} (RS : RepS K c B tp σ H env t) (h : TPost K c W B tp σ H env (some (.ok b, t)) Q) : Q b H := h H RS (.refl _ _ _)
theorem RepV.truth {H0 : Hp} {v : V} {x : Sl} {b : Bool} (h : RepV K c tp H0 H v x) (e : truthS x = some b) : TruV K v H b := by
  unfold truthS at e
  split at e
  · cases e; cases (show Rep K H v .non from h); rfl
  · cases e; rw [h.bl]; rfl
  · cases e; rw [h.int]; rfl
  · split at e
    · rename_i hl
      cases e; rw [h.str]; exact ⟨lim_line hl, rfl⟩
    · cases e
  · rename_i ds
    cases e
    obtain ⟨a, xs, rfl, h1, r⟩ := h.tup
    exact .inr (.inl ⟨xs, h1, by cases r <;> rfl⟩)
  · cases e
    obtain ⟨a, xs, rfl, h1, r⟩ := h.list rfl
    exact .inl ⟨xs, h1, by cases r <;> rfl⟩
  · cases e
    obtain ⟨a, xs, rfl, h1, r⟩ := h.list rfl
    exact .inl ⟨xs, h1, by cases r <;> rfl⟩
  · cases e
    obtain ⟨a, xs, rfl, h1, r⟩ := h.list rfl
    exact .inl ⟨xs, h1, by cases r <;> rfl⟩
  · cases e
end
def notT (f : Tv) : Tv := bindT f fun b => fun _ t => some (.ok (!b), t)
def andT (f g : Tv) : Tv := bindT f fun b => if b = true then g else fun _ t => some (.ok false, t)
def orT (f g : Tv) : Tv := bindT f fun b => if b = true then fun _ t => some (.ok true, t) else g
section
variable {X : Cx} {c : Ct} {W : WX} {a b : Expr} {es : List Expr} {f g : Ev} {t u : Tv} {pos : Pos}
/-- the truth of a value -/
theorem t_val (ha : PEv X c W a f) (he : ∀ whole, isTrue a X.env whole = (do let v ← whole; standAt a.pos; holding [v] (truthy v)) := by exact fun _ => rfl) : PTv X c W a (ofE f) := by
  refine ⟨pt_mono (pt_truth ha.pe he) ?_⟩
  rintro σ H Q ⟨B, tp, env, ta, RS, h⟩
  refine ⟨B, tp, env, ta, RS, ?_⟩
  unfold ofE at h
  cases e : f env ta with
  | none => rw [e] at h; exact h
  | some p =>
    obtain ⟨r, t⟩ := p
    rw [e] at h
    cases r with
    | error x => exact h
    | ok r =>
      dsimp only at h
      intro v H1 R1 K1 V1
      cases e2 : truthS r with
      | none => rw [e2] at h; exact h.elim
      | some b => rw [e2] at h; exact ⟨b, V1.truth e2, h H1 R1 K1⟩
/-- a comparison as a test; its value is a bool -/
theorem t_cmp {op : CmpOp} {r : R2} {o : Sl → Sl → Option Sl} (hr : OpR X (compareOp op) r) (ho : OpOk X.K c r o) (hb2 : ∀ x y z, o x y = some z → ∃ b, z = .val (.bl b)) (ha : PEv X c W a f) (hb : PEv X c W b g) (hm : behindInMarks op b = false := by rfl) :
    PTv X c W (.Compare a [op] [b] pos) (ofE (binE o f g)) := by
  refine ⟨pt_mono (pt_cmpR hr ha.pe hb.pe hm) ?_⟩
  rintro σ H Q ⟨B, tp, env, ta, RS, h⟩
  refine bin_of ho σ H _ ⟨B, tp, env, ta, RS, ?_⟩
  unfold ofE at h
  cases e : binE o f g env ta with
  | none => rw [e] at h; exact h
  | some p =>
    obtain ⟨r, t⟩ := p
    rw [e] at h
    cases r with
    | error x => exact h
    | ok r =>
      intro v H1 R1 K1 V1
      obtain ⟨b, rfl⟩ : ∃ b, r = .val (.bl b) := by
        unfold binE bindE at e
        split at e
        · cases e
        · cases e
        · dsimp only at e
          split at e
          · cases e
          · cases e
          · rename_i y _ _
            cases q : o _ y with
            | none => rw [q] at e; cases e
            | some z => rw [q] at e; cases e; exact hb2 _ _ _ q
      exact ⟨b, V1.bl, h H1 R1 K1⟩
theorem t_not (ha : PTv X c W a t) : PTv X c W (.UnaryOp .Not a pos) (notT t) := by
  refine ⟨pt_mono (L2.pt_not ha.pt) ?_⟩
  rintro σ H Q ⟨B, tp, env, ta, RS, h⟩
  exact tT_bind RS h fun b t1 H1 R1 K1 h1 => TPost.val R1 (h1.later K1)
theorem w_and1 (ha : PTv X c W a t) : PWv X c W (.BoolOp .And [a] pos) t := ⟨pw_and1 ha.pt⟩
theorem w_or1 (ha : PTv X c W a t) : PWv X c W (.BoolOp .Or [a] pos) t := ⟨pw_or1 ha.pt⟩
theorem w_and (ha : PTv X c W a t) (hb : PWv X c W (.BoolOp .And (b :: es) pos) u) : PWv X c W (.BoolOp .And (a :: b :: es) pos) (andT t u) := by
  refine ⟨pw_mono (pw_and ha.pt hb.pw) ?_⟩
  rintro σ H Q ⟨B, tp, env, ta, RS, h⟩
  refine tT_bind RS h fun b t1 H1 R1 K1 h1 => ?_
  cases b with
  | true => exact ⟨B, tp, env, t1, R1, h1.later K1⟩
  | false => exact TPost.val R1 (h1.later K1)
theorem w_or (ha : PTv X c W a t) (hb : PWv X c W (.BoolOp .Or (b :: es) pos) u) : PWv X c W (.BoolOp .Or (a :: b :: es) pos) (orT t u) := by
  refine ⟨pw_mono (pw_or ha.pt hb.pw) ?_⟩
  rintro σ H Q ⟨B, tp, env, ta, RS, h⟩
  refine tT_bind RS h fun b t1 H1 R1 K1 h1 => ?_
  cases b with
  | true => exact TPost.val R1 (h1.later K1)
  | false => exact ⟨B, tp, env, t1, R1, h1.later K1⟩
theorem t_w (h : PWv X c W a t) : PTv X c W a t := ⟨h.pw.pt⟩
end
/-- a < b < c -/
def chainE (o o' : Sl → Sl → Option Sl) (f g h : Ev) : Ev := bindE f fun x => bindE g fun y => fun env ta => match o x y with
  | some (.val (.bl true)) => bindE h (fun z => fun _ t => (o' y z).map fun w => (.ok w, t)) env ta
  | some (.val (.bl false)) => some (.ok (.val (.bl false)), ta)
  | _ => none
section
variable {X : Cx} {c : Ct} {W : WX} {a b d : Expr} {f g h : Ev} {pos : Pos}
theorem chain_of {K : PySem.W.Frag} {r r' : R2} {o o' : Sl → Sl → Option Sl} (ho : OpOk K c r o) (ho' : OpOk K c r' o') : ∀ σ H Q, tE K c W (chainE o o' f g h) σ H Q → tChain r r' (tE K c W f) (tE K c W g) (tE K c W h) σ H Q := by
  rintro σ H Q ⟨B, tp, env, ta, RS, hh⟩
  refine tE_bind RS hh fun x t1 v H1 R1 K1 V1 h1 => ?_
  refine tE_bind R1 (h1.later K1) fun y t2 u H2 R2 K2 V2 h2 => ?_
  cases e : o x y with
  | none => rw [e] at h2; exact h2.elim
  | some z =>
    rw [e] at h2
    refine ho tp H H1 H2 v u x y z _ (fun a => R2.vol) (V1.kp K2) V2 e fun w H3 s V => ?_
    split at h2
    · rename_i q
      cases q
      refine ⟨true, V.bl, ?_⟩
      rw [if_pos rfl]
      have K3 : Kp c tp H1 H3 := K2.trans (.same s)
      refine tE_bind (R2.grow s) (h2.later K3) fun z' t4 u4 H4 R4 K4 V4 h4 => ?_
      cases e' : o' y z' with
      | none => rw [e'] at h4; exact h4.elim
      | some z2 =>
        rw [e'] at h4
        exact ho' tp H1 H3 H4 u u4 y z' z2 Q (fun a => R4.vol) ((V2.kp (.same s)).kp K4) V4 e' fun w H5 s V => EPost.same R4 (h4.later K4) s V
    · rename_i q
      cases q
      refine ⟨false, V.bl, ?_⟩
      rw [if_neg Bool.false_ne_true]
      exact EPost.val (R2.grow s) (h2.later (K2.trans (.same s))) (Rep.bl _)
    · exact h2.elim
theorem v_chain {op op' : CmpOp} {r r' : R2} {o o' : Sl → Sl → Option Sl} (hr : OpR X (compareOp op) r) (hr' : OpR X (compareOp op') r') (ho : OpOk X.K c r o) (ho' : OpOk X.K c r' o') (ha : PEv X c W a f) (hb : PEv X c W b g) (hd : PEv X c W d h)
    (hm : lastMarks [op, op'] [b, d] = false := by with_unfolding_all rfl) : PEv X c W (.Compare a [op, op'] [b, d] pos) (chainE o o' f g h) := ⟨pe_mono (pe_chain hr hr' ha.pe hb.pe hd.pe hm) (chain_of ho ho')⟩
theorem chain_bl {o o' : Sl → Sl → Option Sl} (hb : ∀ x y z, o' x y = some z → ∃ b, z = .val (.bl b)) {env : SE} {ta t : TapeO} {r : Sl} (e : chainE o o' f g h env ta = some (.ok r, t)) : ∃ b, r = .val (.bl b) := by
  unfold chainE bindE at e
  split at e
  · cases e
  · cases e
  · dsimp only at e
    split at e
    · cases e
    · cases e
    · split at e
      · split at e
        · cases e
        · cases e
        · rename_i z _ _
          cases q : o' _ z with
          | none => rw [q] at e; cases e
          | some z => rw [q] at e; cases e; exact hb _ _ _ q
      · cases e; exact ⟨false, rfl⟩
      · cases e
theorem t_chain {op op' : CmpOp} {r r' : R2} {o o' : Sl → Sl → Option Sl} (hr : OpR X (compareOp op) r) (hr' : OpR X (compareOp op') r') (ho : OpOk X.K c r o) (ho' : OpOk X.K c r' o') (hb2 : ∀ x y z, o' x y = some z → ∃ b, z = .val (.bl b))
    (ha : PEv X c W a f) (hb : PEv X c W b g) (hd : PEv X c W d h) (hm : lastMarks [op, op'] [b, d] = false := by with_unfolding_all rfl) : PTv X c W (.Compare a [op, op'] [b, d] pos) (ofE (chainE o o' f g h)) := by
  refine ⟨pt_mono (pt_chain hr hr' ha.pe hb.pe hd.pe hm) ?_⟩
  rintro σ H Q ⟨B, tp, env, ta, RS, hh⟩
  refine chain_of ho ho' σ H _ ⟨B, tp, env, ta, RS, ?_⟩
  unfold ofE at hh
  cases e : chainE o o' f g h env ta with
  | none => rw [e] at hh; exact hh
  | some p =>
    obtain ⟨r, t⟩ := p
    rw [e] at hh
    cases r with
    | error x => exact hh
    | ok r =>
      intro v H1 R1 K1 V1
      obtain ⟨b, rfl⟩ := chain_bl hb2 e
      exact ⟨b, V1.bl, hh H1 R1 K1⟩
end
/-- bools out -/
theorem opI_bl {C : Int → Int → Bool} {g : Int → Int → Bool} : ∀ x y z, opI C (fun i j => .bl (g i j)) x y = some z → ∃ b, z = .val (.bl b) := by
  intro x y z e
  unfold opI at e
  split at e
  · split at e
    · cases e; exact ⟨_, rfl⟩
    · cases e
  · cases e
theorem map_bl {o : Option Bool} {k : Bool → Bool} {z : Sl} (e : (o.map fun b => Sl.val (.bl (k b))) = some z) : ∃ b, z = .val (.bl b) := by
  cases o with
  | none => cases e
  | some b => cases e; exact ⟨_, rfl⟩
theorem bl_lt : ∀ x y z, ltS x y = some z → ∃ b, z = .val (.bl b) := opI_bl
theorem bl_le : ∀ x y z, leS x y = some z → ∃ b, z = .val (.bl b) := opI_bl
theorem bl_gt : ∀ x y z, gtS x y = some z → ∃ b, z = .val (.bl b) := opI_bl
theorem bl_ge : ∀ x y z, geS x y = some z → ∃ b, z = .val (.bl b) := opI_bl
theorem bl_eq : ∀ x y z, eqS x y = some z → ∃ b, z = .val (.bl b) := fun _ _ _ e => map_bl (k := id) e
theorem bl_ne : ∀ x y z, neS x y = some z → ∃ b, z = .val (.bl b) := fun _ _ _ e => map_bl (k := Bool.not) e
theorem bl_in : ∀ x y z, inS x y = some z → ∃ b, z = .val (.bl b) := fun _ _ _ e => map_bl (k := id) e
theorem bl_nin : ∀ x y z, ninS x y = some z → ∃ b, z = .val (.bl b) := fun _ _ _ e => map_bl (k := Bool.not) e
theorem bl_is : ∀ x y z, isS x y = some z → ∃ b, z = .val (.bl b) := fun x y z e => by
  unfold isS at e
  split at e
  · exact map_bl (k := id) e
  · cases e
theorem bl_isnt : ∀ x y z, isntS x y = some z → ∃ b, z = .val (.bl b) := fun x y z e => by
  unfold isntS at e
  split at e
  · exact map_bl (k := Bool.not) e
  · cases e
/-! ### and, or, not as values; a if t else b -/
def andE (f g : Ev) : Ev := bindE f fun x => match x with
  | .val (.bl true) => g
  | .val (.bl false) => fun _ t => some (.ok (.val (.bl false)), t)
  | _ => fun _ _ => none
def orE (f g : Ev) : Ev := bindE f fun x => match x with
  | .val (.bl true) => fun _ t => some (.ok (.val (.bl true)), t)
  | .val (.bl false) => g
  | _ => fun _ _ => none
def notE (f : Ev) : Ev := bindE f fun x => match x with
  | .val (.bl b) => fun _ t => some (.ok (.val (.bl (!b))), t)
  | _ => fun _ _ => none
def ifE (t : Tv) (f g : Ev) : Ev := fun env ta => match t env ta with
  | none => none
  | some (.error x, ta') => some (.error x, ta')
  | some (.ok true, ta') => f env ta'
  | some (.ok false, ta') => g env ta'
section
variable {X : Cx} {c : Ct} {W : WX} {a b d : Expr} {es : List Expr} {f g : Ev} {t : Tv} {pos : Pos}
theorem v_one {op} (h : PEv X c W a f) : PEv X c W (.BoolOp op [a] pos) f := ⟨pe_one h.pe⟩
theorem v_and (ha : PEv X c W a f) (hb : PEv X c W (.BoolOp .And (b :: es) pos) g) : PEv X c W (.BoolOp .And (a :: b :: es) pos) (andE f g) := by
  refine ⟨pe_mono (pe_and ha.pe hb.pe) ?_⟩
  rintro σ H Q ⟨B, tp, env, ta, RS, h⟩
  refine tE_bind RS h fun x t1 v H1 R1 K1 V1 h1 => ?_
  split at h1
  · exact ⟨true, V1.bl, by rw [if_pos rfl]; exact ⟨B, tp, env, t1, R1, h1.later K1⟩⟩
  · exact ⟨false, V1.bl, by rw [if_neg Bool.false_ne_true]; exact EPost.val R1 (h1.later K1) (Rep.bl _)⟩
  · exact h1.elim
theorem v_or (ha : PEv X c W a f) (hb : PEv X c W (.BoolOp .Or (b :: es) pos) g) : PEv X c W (.BoolOp .Or (a :: b :: es) pos) (orE f g) := by
  refine ⟨pe_mono (pe_or ha.pe hb.pe) ?_⟩
  rintro σ H Q ⟨B, tp, env, ta, RS, h⟩
  refine tE_bind RS h fun x t1 v H1 R1 K1 V1 h1 => ?_
  split at h1
  · exact ⟨true, V1.bl, by rw [if_pos rfl]; exact EPost.val R1 (h1.later K1) (Rep.bl _)⟩
  · exact ⟨false, V1.bl, by rw [if_neg Bool.false_ne_true]; exact ⟨B, tp, env, t1, R1, h1.later K1⟩⟩
  · exact h1.elim
theorem v_not (ha : PEv X c W a f) : PEv X c W (.UnaryOp .Not a pos) (notE f) := by
  refine ⟨pe_mono (pe_not ha.pe) ?_⟩
  rintro σ H Q ⟨B, tp, env, ta, RS, h⟩
  refine tE_bind RS h fun x t1 v H1 R1 K1 V1 h1 => ?_
  split at h1
  · exact ⟨_, V1.bl, EPost.val R1 (h1.later K1) (Rep.bl _)⟩
  · exact h1.elim
theorem v_ifE (ht : PTv X c W d t) (ha : PEv X c W a f) (hb : PEv X c W b g) : PEv X c W (.IfExp d a b pos) (ifE t f g) := by
  refine ⟨pe_mono (pe_ifExp ht.pt ha.pe hb.pe) ?_⟩
  rintro σ H Q ⟨B, tp, env, ta, RS, h⟩
  refine ⟨B, tp, env, ta, RS, ?_⟩
  unfold ifE at h
  cases e : t env ta with
  | none => rw [e] at h; exact h
  | some p =>
    obtain ⟨r, t'⟩ := p
    rw [e] at h
    cases r with
    | error x => exact h
    | ok b =>
      intro H1 R1 K1
      cases b with
      | true => rw [if_pos rfl]; exact ⟨B, tp, env, t', R1, h.later K1⟩
      | false => rw [if_neg Bool.false_ne_true]; exact ⟨B, tp, env, t', R1, h.later K1⟩
end

/-! ### arguments -/
def evs : List Ev → SE → TapeO → Option (Except Str (List Sl) × TapeO)
  | [], _, ta => some (.ok [], ta)
  | f :: fs, env, ta => match f env ta with
    | none => none
    | some (.error x, t) => some (.error x, t)
    | some (.ok r, t) => match evs fs env t with
      | none => none
      | some (.error x, t) => some (.error x, t)
      | some (.ok rs, t) => some (.ok (r :: rs), t)
theorem evs_length : ∀ {fs : List Ev} {env : SE} {ta t : TapeO} {rs : List Sl}, evs fs env ta = some (.ok rs, t) → rs.length = fs.length
  | [], _, _, _, _, e => by cases e; rfl
  | f :: fs, env, ta, t, rs, e => by
    unfold evs at e
    split at e
    · cases e
    · cases e
    · split at e
      · cases e
      · cases e
      · rename_i q
        cases e
        simp [evs_length q]
inductive RepVs (K : PySem.W.Frag) (c : Ct) (tp : Option Addr) (H0 H : Hp) : List V → List Sl → Prop
  | nil : RepVs K c tp H0 H [] []
  | cons {v : V} {vs : List V} {x : Sl} {xs : List Sl} : RepV K c tp H0 H v x → RepVs K c tp H0 H vs xs → RepVs K c tp H0 H (v :: vs) (x :: xs)
section
variable {K : PySem.W.Frag} {c : Ct} {tp : Option Addr} {H0 H H1 H2 : Hp}
theorem RepVs.length : ∀ {vs : List V} {xs : List Sl}, RepVs K c tp H0 H vs xs → vs.length = xs.length
  | _, _, .nil => rfl
  | _, _, .cons _ t => by simp [t.length]
theorem RepVs.kp (k : Kp c tp H H1) : ∀ {vs : List V} {xs : List Sl}, RepVs K c tp H0 H vs xs → RepVs K c tp H0 H1 vs xs
  | _, _, .nil => .nil
  | _, _, .cons r t => .cons (r.kp k) (t.kp k)
theorem RepVs.back (k : Kp c tp H H1) : ∀ {vs : List V} {xs : List Sl}, RepVs K c tp H1 H2 vs xs → RepVs K c tp H H2 vs xs
  | _, _, .nil => .nil
  | _, _, .cons r t => .cons (r.back k) (t.back k)
end
def APost (K : PySem.W.Frag) (c : Ct) (W : WX) (B : Hp) (tp : Option Addr) (σ : L2.St) (H : Hp) (env : SE) (r : Option (Except Str (List Sl) × TapeO)) (Q : List V → Hp → Prop) : Prop :=
  match r with
  | none => False
  | some (.ok xs, ta') => ∀ vs H', RepS K c B tp σ H' env ta' → Kp c tp H H' → RepVs K c tp H H' vs xs → Q vs H'
  | some (.error x, ta') => ∀ cls d H', RepS K c B tp σ H' env ta' → Kp c tp H H' → ErrIs c H' cls d x → W cls d σ H'
def tAs (K : PySem.W.Frag) (c : Ct) (W : WX) (fs : List Ev) : TA := fun σ H Q => ∃ B tp env ta, RepS K c B tp σ H env ta ∧ APost K c W B tp σ H env (evs fs env ta) Q
structure PAv (X : Cx) (c : Ct) (W : WX) (es : List Expr) (fs : List Ev) : Prop where
  pa : PA X es (tAs X.K c W fs)
section
variable {X : Cx} {c : Ct} {W : WX} {e : Expr} {es : List Expr} {f : Ev} {fs : List Ev}
theorem a_nil : PAv X c W [] [] := by
  refine ⟨pa_mono L2.pa_nil ?_⟩
  rintro σ H Q ⟨B, tp, env, ta, RS, h⟩
  exact h [] H RS (.refl _ _ _) .nil
theorem a_cons (he : PEv X c W e f) (hs : PAv X c W es fs) (hst : starEach (e :: es) X.env = (false, eval e X.env) :: starEach es X.env := by rfl) : PAv X c W (e :: es) (f :: fs) := by
  refine ⟨pa_mono (L2.pa_cons he.pe hs.pa hst) ?_⟩
  rintro σ H Q ⟨B, tp, env, ta, RS, h⟩
  refine ⟨B, tp, env, ta, RS, ?_⟩
  unfold evs at h
  cases q : f env ta with
  | none => rw [q] at h; exact h
  | some p =>
    obtain ⟨r, t⟩ := p
    rw [q] at h
    cases r with
    | error x => exact h
    | ok r =>
      intro v H1 R1 K1 V1
      refine ⟨B, tp, env, t, R1, ?_⟩
      simp only at h
      cases q2 : evs fs env t with
      | none => rw [q2] at h; exact h
      | some p =>
        obtain ⟨rs, t'⟩ := p
        rw [q2] at h
        cases rs with
        | error x => exact fun cls d H' R' K' er => h cls d H' R' (K1.trans K') er
        | ok rs => exact fun vs H' R' K' VS => h (v :: vs) H' R' (K1.trans K') (.cons (V1.kp K') (VS.back K1))
end

/-! ### calls of built-ins -/
def callE (op : List Sl → Option Sl) (fs : List Ev) : Ev := fun env ta => match evs fs env ta with
  | none => none
  | some (.error x, t) => some (.error x, t)
  | some (.ok rs, t) => (op rs).map fun z => (.ok z, t)
def CallOk (K : PySem.W.Frag) (c : Ct) (r : List V → Hp → VK → Prop) (op : List Sl → Option Sl) : Prop :=
  ∀ (tp : Option Addr) (H0 H : Hp) (vs : List V) (xs : List Sl) (z : Sl) (Q : VK), (∀ a, H a = none → ¬ Vol c tp a) → RepVs K c tp H0 H vs xs → op xs = some z →
    (∀ w H', Same H H' → RepV K c tp H H' w z → Q w H') → r vs H Q
theorem call_of {K : PySem.W.Frag} {c : Ct} {W : WX} {r : List V → Hp → VK → Prop} {op : List Sl → Option Sl} {fs : List Ev} (ho : CallOk K c r op) : ∀ σ H Q, tE K c W (callE op fs) σ H Q → tCB r (tAs K c W fs) σ H Q := by
  rintro σ H Q ⟨B, tp, env, ta, RS, h⟩
  refine ⟨B, tp, env, ta, RS, ?_⟩
  unfold callE at h
  cases q : evs fs env ta with
  | none => rw [q] at h; exact h
  | some p =>
    obtain ⟨rs, t⟩ := p
    rw [q] at h
    cases rs with
    | error x => exact h
    | ok rs =>
      dsimp only at h
      intro vs H1 R1 K1 VS
      cases e : op rs with
      | none => rw [e] at h; exact h.elim
      | some z =>
        rw [e] at h
        exact ho tp H H1 vs rs z Q (fun a => R1.vol) VS e fun w H' s V => EPost.same R1 (h.later K1) s V
section
variable {X : Cx} {c : Ct} {W : WX} {x : Str} {p pos : Pos} {e : Expr} {es : List Expr} {fs : List Ev} {id T : String} {r : List V → Hp → VK → Prop} {op : List Sl → Option Sl}
theorem v_callB (hc : CallR X (.builtin id) r) (ho : CallOk X.K c r op) (hm : X.mg x = none) (ha : PAv X c W (e :: es) fs) (hv : bootBuiltins x = some (.builtin id) := by decide +kernel) (hg : Gl X x := by rfl) (hn : x ≠ "__name__" := by decide) (hdb : (x == ("__debug__" : Str)) = false := by decide)
    (he : starEach (e :: es) X.env = (false, eval e X.env) :: starEach es X.env := by rfl) (hpl : (backTo pos (starEach es X.env)).any (·.1) = false := by rfl) : PEv X c W (.Call (.Name x p) (e :: es) [] pos) (callE op fs) :=
  ⟨pe_mono (pe_callB hc hg hm hv ha.pa hn hdb he hpl) (call_of ho)⟩
theorem v_callTy (hc : CallR X (.type T) r) (ho : CallOk X.K c r op) (hm : X.mg x = none) (ha : PAv X c W (e :: es) fs) (hv : bootBuiltins x = some (.type T) := by decide +kernel) (hg : Gl X x := by rfl) (hn : x ≠ "__name__" := by decide) (hdb : (x == ("__debug__" : Str)) = false := by decide)
    (he : starEach (e :: es) X.env = (false, eval e X.env) :: starEach es X.env := by rfl) (hpl : (backTo pos (starEach es X.env)).any (·.1) = false := by rfl) : PEv X c W (.Call (.Name x p) (e :: es) [] pos) (callE op fs) :=
  ⟨pe_mono (pe_callTy hc hg hm hv ha.pa hn hdb he hpl) (call_of ho)⟩
end
def lenS : List Sl → Option Sl
  | [x] => match x.seq? with
    | some ds => some (.val (.int ds.length))
    | none => none
  | _ => none
def absS : List Sl → Option Sl
  | [.val (.int i)] => some (.val (.int (if i < 0 then -i else i)))
  | _ => none
def intS : List Sl → Option Sl
  | [.val (.int i)] => some (.val (.int i))
  | [.val (.bl b)] => some (.val (.int (if b then 1 else 0)))
  | _ => none
def min2S : List Sl → Option Sl
  | [.val (.int i), .val (.int j)] => some (.val (.int (if j < i then j else i)))
  | _ => none
def max2S : List Sl → Option Sl
  | [.val (.int i), .val (.int j)] => some (.val (.int (if j > i then j else i)))
  | _ => none
/-- tuple(x) -/
def tupleS : List Sl → Option Sl
  | [.val (.tup ds)] => some (.val (.tup ds))
  | [x] => match x.items? with
    | some ds => some (.val (.tup ds))
    | none => none
  | _ => none
/-- list(x) -/
def listS : List Sl → Option Sl
  | [x] => match x.seq? with
    | some ds => some (.own ds)
    | none => none
  | _ => none
def D.int? : D → Option Int
  | .int i => some i
  | _ => none
def D.bl? : D → Option Bool
  | .bl i => some i
  | _ => none
def ints? (ds : List D) : Option (List Int) := ds.mapM D.int?
def bls? (ds : List D) : Option (List Bool) := ds.mapM D.bl?
theorem ints?_eq : ∀ {ds : List D} {ns : List Int}, ints? ds = some ns → ds = ns.map D.int
  | [], ns, e => by simp [ints?] at e; subst e; rfl
  | d :: ds, ns, e => by
    unfold ints? at e
    rw [List.mapM_cons] at e
    cases d with
    | int i =>
      simp only [D.int?, bind, Option.bind, pure] at e
      split at e
      · cases e
      · rename_i ms q
        cases e
        rw [List.map_cons, ← ints?_eq (ds := ds) q]
    | _ => simp [D.int?, bind, Option.bind] at e
theorem bls?_eq : ∀ {ds : List D} {ns : List Bool}, bls? ds = some ns → ds = ns.map D.bl
  | [], ns, e => by simp [bls?] at e; subst e; rfl
  | d :: ds, ns, e => by
    unfold bls? at e
    rw [List.mapM_cons] at e
    cases d with
    | bl i =>
      simp only [D.bl?, bind, Option.bind, pure] at e
      split at e
      · cases e
      · rename_i ms q
        cases e
        rw [List.map_cons, ← bls?_eq (ds := ds) q]
    | _ => simp [D.bl?, bind, Option.bind] at e
theorem ints?_map : ∀ ns : List Int, ints? (ns.map D.int) = some ns
  | [] => rfl
  | n :: r => by
    show (n :: r |>.map D.int).mapM D.int? = _
    rw [List.map_cons, List.mapM_cons]
    have := ints?_map r
    unfold ints? at this
    rw [this]
    rfl
theorem bls?_map : ∀ ns : List Bool, bls? (ns.map D.bl) = some ns
  | [] => rfl
  | n :: r => by
    show (n :: r |>.map D.bl).mapM D.bl? = _
    rw [List.map_cons, List.mapM_cons]
    have := bls?_map r
    unfold bls? at this
    rw [this]
    rfl
/-- any(..), all(..) of a list of bools; sum, max, min, sorted of a list of ints -/
def onBls (g : List Bool → Option Sl) : List Sl → Option Sl
  | [x] => (x.items?.bind bls?).bind g
  | _ => none
def onInts (g : List Int → Option Sl) : List Sl → Option Sl
  | [x] => (x.items?.bind ints?).bind g
  | _ => none
def anyS : List Sl → Option Sl := onBls fun bs => some (.val (.bl (bs.any id)))
def allS : List Sl → Option Sl := onBls fun bs => some (.val (.bl (bs.all id)))
def sumS : List Sl → Option Sl := onInts fun ns => some (.val (.int ns.sum))
def maxL : List Int → Int
  | [] => 0
  | n :: r => r.foldl max n
def minL : List Int → Int
  | [] => 0
  | n :: r => r.foldl min n
def maxS : List Sl → Option Sl := onInts fun ns => if ns = [] then none else some (.val (.int (maxL ns)))
def minS : List Sl → Option Sl := onInts fun ns => if ns = [] then none else some (.val (.int (minL ns)))
def sortI (ns : List Int) : List Int := ns.mergeSort (fun a b => decide (a ≤ b))
def sortedS : List Sl → Option Sl := onInts fun ns => some (.own ((sortI ns).map D.int))
end MP

/-! MPd: the rules of the built-ins; displays; freezing; calls of the text's own defs. -/
namespace MP
open PySem PySem.Spec PyProof.Rows L2
section
variable {K : PySem.W.Frag} {c : Ct}
theorem co_len : CallOk K c (fun xs H Q => ∃ p ys, xs = [.ref p] ∧ (SqL K H p ys ∨ SqT K H p ys) ∧ Q (.int ys.length) H) lenS := by
  intro tp H0 H vs xs z Q nv hv e k
  unfold lenS at e
  split at e
  · rename_i x
    cases hv with
    | cons h1 h2 =>
      cases h2
      split at e
      · rename_i ds es
        cases e
        obtain ⟨a, ys, rfl, hs, r⟩ := h1.seq es
        exact ⟨a, ys, rfl, hs, k _ H (Same.refl H) (by rw [r.length]; exact Rep.int _)⟩
      · cases e
  · cases e
theorem co_abs : CallOk K c (fun xs H Q => ∃ i, xs = [.int i] ∧ Q (.int (if i < 0 then -i else i)) H) absS := by
  intro tp H0 H vs xs z Q nv hv e k
  unfold absS at e
  split at e
  · cases hv with
    | cons h1 h2 =>
      cases h2
      cases e
      rw [h1.int]
      exact ⟨_, rfl, k _ H (Same.refl H) (Rep.int _)⟩
  · cases e
theorem co_int : CallOk K c (fun xs H Q => (∃ i, xs = [.int i] ∧ Q (.int i) H) ∨ ∃ k, xs = [.bl k] ∧ Q (.int (if k then 1 else 0)) H) intS := by
  intro tp H0 H vs xs z Q nv hv e k
  unfold intS at e
  split at e
  · cases hv with
    | cons h1 h2 =>
      cases h2
      cases e
      rw [h1.int]
      exact .inl ⟨_, rfl, k _ H (Same.refl H) (Rep.int _)⟩
  · cases hv with
    | cons h1 h2 =>
      cases h2
      cases e
      rw [h1.bl]
      exact .inr ⟨_, rfl, k _ H (Same.refl H) (Rep.int _)⟩
  · cases e
theorem co_min2 : CallOk K c (fun xs H Q => ∃ i j, xs = [.int i, .int j] ∧ Q (.int (if j < i then j else i)) H) min2S := by
  intro tp H0 H vs xs z Q nv hv e k
  unfold min2S at e
  split at e
  · cases hv with
    | cons h1 h2 =>
      cases h2 with
      | cons h2 h3 =>
        cases h3
        cases e
        rw [h1.int, h2.int]
        exact ⟨_, _, rfl, k _ H (Same.refl H) (Rep.int _)⟩
  · cases e
theorem co_max2 : CallOk K c (fun xs H Q => ∃ i j, xs = [.int i, .int j] ∧ Q (.int (if j > i then j else i)) H) max2S := by
  intro tp H0 H vs xs z Q nv hv e k
  unfold max2S at e
  split at e
  · cases hv with
    | cons h1 h2 =>
      cases h2 with
      | cons h2 h3 =>
        cases h3
        cases e
        rw [h1.int, h2.int]
        exact ⟨_, _, rfl, k _ H (Same.refl H) (Rep.int _)⟩
  · cases e
def rTupleA (K : PySem.W.Frag) : List V → Hp → VK → Prop := fun xs H Q => ∃ p ys, xs = [.ref p] ∧ ((SqL K H p ys ∧ ∀ l, H l = none → Q (.ref l) (upd H l (.tup ys))) ∨ (SqT K H p ys ∧ Q (.ref p) H))
theorem co_tuple : CallOk K c (rTupleA K) tupleS := by
  intro tp H0 H vs xs z Q nv hv e k
  unfold tupleS at e
  split at e
  · cases hv with
    | cons h1 h2 =>
      cases h2
      cases e
      obtain ⟨a, ys, rfl, hs, r⟩ := h1.tup
      exact ⟨a, ys, rfl, .inr ⟨hs, k _ H (Same.refl H) (Rep.tup hs r)⟩⟩
  · cases hv with
    | cons h1 h2 =>
      cases h2
      split at e
      · rename_i ds es
        cases e
        obtain ⟨a, ys, rfl, hs, r⟩ := h1.list es
        exact ⟨a, ys, rfl, .inl ⟨hs, fun l hl => k _ _ (Same.new hl) (RepV.newT hl r)⟩⟩
      · cases e
  · cases e
theorem co_list : CallOk K c (fun xs H Q => ∃ p ys, xs = [.ref p] ∧ (SqL K H p ys ∨ SqT K H p ys) ∧ ∀ l, H l = none → Q (.ref l) (upd H l (.lst ys))) listS := by
  intro tp H0 H vs xs z Q nv hv e k
  unfold listS at e
  split at e
  · cases hv with
    | cons h1 h2 =>
      cases h2
      split at e
      · rename_i ds es
        cases e
        obtain ⟨a, ys, rfl, hs, r⟩ := h1.seq es
        exact ⟨a, ys, rfl, hs, fun l hl => k _ _ (Same.new hl) (RepV.newL hl (nv l hl) r)⟩
      · cases e
  · cases e
theorem onBls_ok {g : List Bool → Option Sl} {R : List Bool → Hp → VK → Prop} (h : ∀ tp H bs z Q, (∀ a, H a = none → ¬ Vol c tp a) → g bs = some z → (∀ w H', Same H H' → RepV K c tp H H' w z → Q w H') → R bs H Q) :
    CallOk K c (fun vs H Q => ∃ (a : Addr) (bs : List Bool), vs = [V.ref a] ∧ SqL K H a (bs.map V.bl) ∧ R bs H Q) (onBls g) := by
  intro tp H0 H vs xs z Q nv hv e k
  unfold onBls at e
  split at e
  · rename_i x
    cases hv with
    | cons h1 h2 =>
      cases h2
      cases e1 : x.items? with
      | none => rw [e1] at e; cases e
      | some ds =>
        rw [e1] at e
        cases e2 : bls? ds with
        | none => simp only [Option.bind, e2] at e; cases e
        | some bs =>
          simp only [Option.bind, e2] at e
          obtain ⟨a, ys, rfl, hs, r⟩ := h1.list e1
          have ed := bls?_eq e2
          subst ed
          have ey := Reps.blsV bs r
          subst ey
          exact ⟨a, bs, rfl, hs, h tp H bs z Q nv e k⟩
  · cases e
theorem onInts_ok {g : List Int → Option Sl} {R : List Int → Hp → VK → Prop} (h : ∀ tp H bs z Q, (∀ a, H a = none → ¬ Vol c tp a) → g bs = some z → (∀ w H', Same H H' → RepV K c tp H H' w z → Q w H') → R bs H Q) :
    CallOk K c (fun vs H Q => ∃ (a : Addr) (bs : List Int), vs = [V.ref a] ∧ SqL K H a (bs.map V.int) ∧ R bs H Q) (onInts g) := by
  intro tp H0 H vs xs z Q nv hv e k
  unfold onInts at e
  split at e
  · rename_i x
    cases hv with
    | cons h1 h2 =>
      cases h2
      cases e1 : x.items? with
      | none => rw [e1] at e; cases e
      | some ds =>
        rw [e1] at e
        cases e2 : ints? ds with
        | none => simp only [Option.bind, e2] at e; cases e
        | some bs =>
          simp only [Option.bind, e2] at e
          obtain ⟨a, ys, rfl, hs, r⟩ := h1.list e1
          have ed := ints?_eq e2
          subst ed
          have ey := Reps.intsV bs r
          subst ey
          exact ⟨a, bs, rfl, hs, h tp H bs z Q nv e k⟩
  · cases e
theorem co_any : CallOk K c (rAny K) anyS := onBls_ok (R := fun bs H Q => Q (.bl (bs.any id)) H) fun tp H bs z Q nv e k => by cases e; exact k _ H (Same.refl H) (Rep.bl _)
theorem co_all : CallOk K c (rAll K) allS := onBls_ok (R := fun bs H Q => Q (.bl (bs.all id)) H) fun tp H bs z Q nv e k => by cases e; exact k _ H (Same.refl H) (Rep.bl _)
theorem co_sum : CallOk K c (rSum K) sumS := onInts_ok (R := fun bs H Q => Q (.int bs.sum) H) fun tp H bs z Q nv e k => by cases e; exact k _ H (Same.refl H) (Rep.int _)
theorem foldl_max : ∀ (r : List Int) (n : Int), n ≤ r.foldl max n ∧ (∀ y ∈ r, y ≤ r.foldl max n) ∧ (r.foldl max n = n ∨ r.foldl max n ∈ r)
  | [], n => ⟨Int.le_refl _, by simp, .inl rfl⟩
  | m :: r, n => by
    obtain ⟨h1, h2, h3⟩ := foldl_max r (max n m)
    simp only [List.foldl_cons]
    refine ⟨by omega, fun y hy => ?_, ?_⟩
    · rcases List.mem_cons.mp hy with rfl | hy
      · omega
      · exact h2 y hy
    · rcases h3 with h3 | h3
      · rw [h3]
        by_cases q : n ≤ m
        · exact .inr (by rw [Int.max_eq_right q]; exact List.mem_cons_self)
        · exact .inl (Int.max_eq_left (by omega))
      · exact .inr (List.mem_cons_of_mem _ h3)
theorem foldl_min : ∀ (r : List Int) (n : Int), r.foldl min n ≤ n ∧ (∀ y ∈ r, r.foldl min n ≤ y) ∧ (r.foldl min n = n ∨ r.foldl min n ∈ r)
  | [], n => ⟨Int.le_refl _, by simp, .inl rfl⟩
  | m :: r, n => by
    obtain ⟨h1, h2, h3⟩ := foldl_min r (min n m)
    simp only [List.foldl_cons]
    refine ⟨by omega, fun y hy => ?_, ?_⟩
    · rcases List.mem_cons.mp hy with rfl | hy
      · omega
      · exact h2 y hy
    · rcases h3 with h3 | h3
      · rw [h3]
        by_cases q : n ≤ m
        · exact .inl (Int.min_eq_left q)
        · exact .inr (by rw [Int.min_eq_right (by omega)]; exact List.mem_cons_self)
      · exact .inr (List.mem_cons_of_mem _ h3)
theorem maxL_spec {ns : List Int} (h : ns ≠ []) : maxL ns ∈ ns ∧ ∀ y ∈ ns, y ≤ maxL ns := by
  cases ns with
  | nil => exact absurd rfl h
  | cons n r =>
    obtain ⟨h1, h2, h3⟩ := foldl_max r n
    refine ⟨?_, fun y hy => ?_⟩
    · rcases h3 with h3 | h3
      · show r.foldl max n ∈ _
        rw [h3]; exact List.mem_cons_self
      · exact List.mem_cons_of_mem _ h3
    · rcases List.mem_cons.mp hy with rfl | hy
      · exact h1
      · exact h2 y hy
theorem minL_spec {ns : List Int} (h : ns ≠ []) : minL ns ∈ ns ∧ ∀ y ∈ ns, minL ns ≤ y := by
  cases ns with
  | nil => exact absurd rfl h
  | cons n r =>
    obtain ⟨h1, h2, h3⟩ := foldl_min r n
    refine ⟨?_, fun y hy => ?_⟩
    · rcases h3 with h3 | h3
      · show r.foldl min n ∈ _
        rw [h3]; exact List.mem_cons_self
      · exact List.mem_cons_of_mem _ h3
    · rcases List.mem_cons.mp hy with rfl | hy
      · exact h1
      · exact h2 y hy
theorem co_max : CallOk K c (rMax K) maxS := onInts_ok (R := fun ns H Q => 0 < ns.length ∧ ∀ m, m ∈ ns → (∀ y, y ∈ ns → y ≤ m) → Q (.int m) H) fun tp H ns z Q nv e k => by
  split at e
  · cases e
  · rename_i hn
    cases e
    refine ⟨List.length_pos_iff.mpr hn, fun m hm hle => ?_⟩
    obtain ⟨h1, h2⟩ := maxL_spec hn
    have q : m = maxL ns := Int.le_antisymm (h2 m hm) (hle _ h1)
    rw [q]
    exact k _ H (Same.refl H) (Rep.int _)
theorem co_min : CallOk K c (rMin K) minS := onInts_ok (R := fun ns H Q => 0 < ns.length ∧ ∀ m, m ∈ ns → (∀ y, y ∈ ns → m ≤ y) → Q (.int m) H) fun tp H ns z Q nv e k => by
  split at e
  · cases e
  · rename_i hn
    cases e
    refine ⟨List.length_pos_iff.mpr hn, fun m hm hle => ?_⟩
    obtain ⟨h1, h2⟩ := minL_spec hn
    have q : m = minL ns := Int.le_antisymm (hle _ h1) (h2 m hm)
    rw [q]
    exact k _ H (Same.refl H) (Rep.int _)
theorem sorted_uniq : ∀ {xs ys : List Int}, xs.Perm ys → xs.Pairwise (· ≤ ·) → ys.Pairwise (· ≤ ·) → xs = ys := fun p h1 h2 => List.Perm.eq_of_pairwise (le := (· ≤ ·)) (fun a b _ _ h h' => Int.le_antisymm h h') h1 h2 p
theorem sortI_perm (ns : List Int) : (sortI ns).Perm ns := List.mergeSort_perm _ _
theorem sortI_sorted (ns : List Int) : (sortI ns).Pairwise (· ≤ ·) := by
  have h := List.pairwise_mergeSort (le := fun (a b : Int) => decide (a ≤ b)) (fun a b c h1 h2 => by simp at *; omega) (fun a b => by simp; omega) ns
  exact h.imp fun q => of_decide_eq_true q
theorem co_sorted : CallOk K c (rSortedI K) sortedS := onInts_ok (R := fun ns H Q => _) fun tp H ns z Q nv e k => by
  cases e
  intro ns' p hp hs hn
  have q := sorted_uniq (hp.trans (sortI_perm ns).symm) hs (sortI_sorted ns)
  subst q
  exact k _ _ (Same.new hn) (RepV.newL hn (nv _ hn) (Reps.ints _))
end
end MP

/-! MPe: displays; freezing; calls of the text's own defs; statements but loops. -/
namespace MP
open PySem PySem.Spec PyProof.Rows L2
/-! ### displays -/
def vals? : List Sl → Option (List D)
  | [] => some []
  | .val d :: r => (vals? r).map (d :: ·)
  | _ :: _ => none
theorem RepVs.vals {K : PySem.W.Frag} {c : Ct} {tp : Option Addr} {H0 H : Hp} : ∀ {vs : List V} {xs : List Sl} {ds : List D}, RepVs K c tp H0 H vs xs → vals? xs = some ds → Reps K H vs ds
  | _, _, _, .nil, e => by cases e; exact .nil
  | _, _, _, .cons (x := x) (xs := xs) r t, e => by
    cases x with
    | val d =>
      unfold vals? at e
      cases q : vals? xs with
      | none => rw [q] at e; cases e
      | some es => rw [q] at e; cases e; exact .cons r (t.vals q)
    | _ => cases e
theorem vals?_length : ∀ {xs : List Sl} {ds : List D}, vals? xs = some ds → xs.length = ds.length
  | [], _, e => by cases e; rfl
  | .val d :: r, ds, e => by
    unfold vals? at e
    cases q : vals? r with
    | none => rw [q] at e; cases e
    | some es => rw [q] at e; cases e; simp [vals?_length q]
  | .un :: _, _, e => by cases e
  | .own _ :: _, _, e => by cases e
  | .bor _ :: _, _, e => by cases e
  | .tape :: _, _, e => by cases e
def dispE (mk : List D → Sl) (fs : List Ev) : Ev := fun env ta => match evs fs env ta with
  | none => none
  | some (.error x, t) => some (.error x, t)
  | some (.ok rs, t) => (vals? rs).map fun ds => (.ok (mk ds), t)
def tupE (fs : List Ev) : Ev := dispE (fun ds => .val (.tup ds)) fs
def lstE (fs : List Ev) : Ev := dispE .own fs
section
variable {X : Cx} {c : Ct} {W : WX} {e : Expr} {es : List Expr} {f : Ev} {fs : List Ev} {pos : Pos}
theorem v_tup {k} (h : PAv X c W es fs) (hl : fs.length ≤ LIM := by decide) : PEv X c W (.Tuple es k pos) (tupE fs) := by
  refine ⟨pe_mono (pe_tup h.pa) ?_⟩
  rintro σ H Q ⟨B, tp, env, ta, RS, h⟩
  refine ⟨B, tp, env, ta, RS, ?_⟩
  unfold tupE dispE at h
  cases q : evs fs env ta with
  | none => rw [q] at h; exact h
  | some p =>
    obtain ⟨rs, t⟩ := p
    rw [q] at h
    cases rs with
    | error x => exact h
    | ok rs =>
      dsimp only at h
      intro vs H1 R1 K1 VS
      cases e : vals? rs with
      | none => rw [e] at h; exact h.elim
      | some ds =>
        rw [e] at h
        refine ⟨by rw [VS.length, evs_length q]; exact lim_line hl, fun p hp => ?_⟩
        exact EPost.same R1 (h.later K1) (Same.new hp) (RepV.newT hp (VS.vals e))
theorem v_lst (h : PAv X c W es fs) (hl : fs.length ≤ LIM := by decide) : PEv X c W (.List es pos) (lstE fs) := by
  refine ⟨pe_mono (pe_lst h.pa) ?_⟩
  rintro σ H Q ⟨B, tp, env, ta, RS, h⟩
  refine ⟨B, tp, env, ta, RS, ?_⟩
  unfold lstE dispE at h
  cases q : evs fs env ta with
  | none => rw [q] at h; exact h
  | some p =>
    obtain ⟨rs, t⟩ := p
    rw [q] at h
    cases rs with
    | error x => exact h
    | ok rs =>
      dsimp only at h
      intro vs H1 R1 K1 VS
      cases e : vals? rs with
      | none => rw [e] at h; exact h.elim
      | some ds =>
        rw [e] at h
        refine ⟨by rw [VS.length, evs_length q]; exact lim_line hl, fun p hp => ?_⟩
        exact EPost.same R1 (h.later K1) (Same.new hp) (RepV.newL hp (R1.vol hp) (VS.vals e))
end

/-! ### a list of one's own becomes a datum: it never changes any more -/
theorem stab_lst {H : Hp} {a : Addr} {xs : List V} {o : HO} (h : H a = some (.lst xs)) : Stab H (upd H a o) :=
  ⟨fun b ys e => by rw [upd_ne (fun z => by rw [z, h] at e; cases e)]; exact e, fun b ob u e => by rw [upd_ne (fun z => by rw [z, h] at e; cases e)]; exact e⟩
section
variable {K : PySem.W.Frag} {c : Ct} {tp : Option Addr} {H H0 B : Hp} {σ : L2.St} {env : SE} {ta : TapeO}
theorem TapeR.upd {a : Addr} {o : HO} {xs : List V} (h : TapeR K H tp ta) (ha : H a = some (.lst xs)) (nt : tp ≠ some a) : TapeR K (upd H a o) tp ta := by
  cases tp <;> cases ta
  · exact h
  · exact h
  · exact h
  · rename_i b t
    obtain ⟨sc, e1, e2⟩ := h
    refine ⟨sc, ?_, (stab_lst ha).fz e2⟩
    rw [upd_ne (fun z => nt (by rw [z]))]; exact e1
theorem Tabs.upd {T : List (Addr × Str)} {a : Addr} {o : HO} {xs : List V} (h : LamX.Tabs T H) (ha : H a = some (.lst xs)) : LamX.Tabs T (upd H a o) := fun p hp => by
  obtain ⟨ps, e1, e2, e3⟩ := h p hp
  refine ⟨ps, by rw [upd_ne (fun z => by rw [z, ha] at e1; cases e1)]; exact e1, e2, fun pos cv q => ?_⟩
  obtain ⟨d, e4, e5⟩ := e3 pos cv q
  refine ⟨d, e4, ?_⟩
  rw [upd_ne (fun z => by rw [z, ha] at e5; unfold LamX.CodeO at e5; cases e5)]; exact e5
/-- a list that no slot owns is frozen -/
theorem RepS.frz {a : Addr} {xs : List V} {o : Obj} (R : RepS K c B tp σ H env ta) (h : H a = some (.lst xs)) (nv : ¬ Vol c tp a) (no : ∀ i, ¬ OwnAt env σ i a) (nB : B a = none) : RepS K c B tp σ (upd H a (.frz o (.lst xs))) env ta where
  len := R.len
  slot := fun i sl e => by
    have q := R.slot i sl e
    cases sl with
    | un => exact q
    | val d => obtain ⟨v, e1, r⟩ := q; exact ⟨v, e1, r.st (stab_lst h)⟩
    | own ds =>
      obtain ⟨b, ys, e1, e2, r⟩ := q
      have hb : b ≠ a := fun z => no i ⟨⟨ds, e⟩, by rw [← z]; exact e1⟩
      exact ⟨b, ys, e1, by rw [upd_ne hb]; exact e2, r.st (stab_lst h)⟩
    | bor _ => exact q
    | tape => exact q
  fresh := R.fresh
  dist := R.dist
  tape := R.tape.upd h fun z => nv (.inl z)
  tabs := Tabs.upd R.tabs h
  keep := fun b u e n => by
    rw [upd_ne (fun z => by rw [z, nB] at e; cases e)]; exact R.keep b u e n
  stab := R.stab.trans (stab_lst h)
theorem Kp.frz {H1 : Hp} {a : Addr} {xs : List V} {o : Obj} (k : Kp c tp H H1) (h : H1 a = some (.lst xs)) (n : H a = none) : Kp c tp H (upd H1 a (.frz o (.lst xs))) where
  kp := fun b u e nv => by rw [upd_ne (fun z => by rw [z, n] at e; cases e)]; exact k.kp b u e nv
  st := k.st.trans (stab_lst h)
  nn := fun b e => by
    by_cases hb : b = a
    · rw [hb, upd_same] at e; cases e
    · rw [upd_ne hb] at e; exact k.nn b e
theorem RepS.noB (R : RepS K c B tp σ H env ta) {a : Addr} (n : H a = none) : B a = none := by
  cases e : B a with
  | none => rfl
  | some o =>
    have q := R.keep a o e (R.vol n)
    rw [n] at q; cases q
theorem RepS.noOwn (R : RepS K c B tp σ H env ta) {a : Addr} (n : H a = none) (i : Nat) : ¬ OwnAt env σ i a := by
  rintro ⟨⟨ds, e⟩, e2⟩
  obtain ⟨b, ys, e1, e3, _⟩ := R.slot i _ e
  rw [e1] at e2
  cases e2
  rw [n] at e3; cases e3
end
def escE (f : Ev) : Ev := bindE f fun x => match x with
  | .val d => fun _ t => some (.ok (.val d), t)
  | .own ds => fun _ t => some (.ok (.val (.lst ds)), t)
  | .tape => fun _ t => some (.ok .tape, t)
  | _ => fun _ _ => none
section
variable {X : Cx} {c : Ct} {W : WX} {e : Expr} {es : List Expr} {f : Ev} {fs : List Ev} {pos : Pos}
theorem v_esc (h : PEv X c W e f) : PEv X c W e (escE f) := by
  refine ⟨⟨fun pins s σ H Q I w => ?_⟩⟩
  obtain ⟨B, tp, env, ta, RS, hh⟩ := w
  refine thn (h.pe.run pins s σ H (fun v H1 => Q v H1 ∨ ∃ a xs, v = .ref a ∧ H1 a = some (.lst xs) ∧ ∀ o, Q v (upd H1 a (.frz o (.lst xs)))) I
    (tE_bind RS hh fun r t v H1 R1 K1 V1 h1 => ?_)) fun u s1 ⟨v, H1, I1, r1, q⟩ => ?_
  · split at h1
    · exact .inl (EPost.val R1 (h1.later K1) V1)
    · obtain ⟨a, xs, rfl, n, nv, hl, r⟩ := V1
      refine .inr ⟨a, xs, rfl, hl, fun o => ?_⟩
      exact h1 _ _ (R1.frz hl nv (RS.noOwn n) (RS.noB n)) (K1.frz hl n) (Rep.lst (.inl ⟨o, upd_same⟩) (r.st (stab_lst hl)))
    · exact .inl (EPost.val R1 (h1.later K1) V1)
    · exact h1.elim
  · rcases q with q | ⟨a, xs, rfl, hl, q⟩
    · exact ⟨v, H1, I1, r1, q⟩
    · obtain ⟨od, I2⟩ := I1.lock hl trivial
      exact ⟨_, _, I2, r1, q od⟩
end

/-! ### calls of the text's own defs -/
abbrev Fn := List Sl → TapeO → Option (Except Str Sl × TapeO)
def Sl.arg? : Sl → Bool
  | .val _ => true
  | .tape => true
  | _ => false
def FPost (K : PySem.W.Frag) (c : Ct) (tp : Option Addr) (H : Hp) (r : Option (Except Str Sl × TapeO)) (Q : VK) (E : XK) : Prop :=
  match r with
  | none => False
  | some (.ok z, ta') => ∀ v H', Kp c tp H H' → TapeR K H' tp ta' → LamX.Tabs c.T H' → RepV K c tp H H' v z → Q v H'
  | some (.error x, ta') => ∀ cls d H', Kp c tp H H' → TapeR K H' tp ta' → LamX.Tabs c.T H' → ErrIs c H' cls d x → E cls d H'
def FSp (K : PySem.W.Frag) (c : Ct) (n : Nat) (Φ : Fn) : Sp := fun vs H Q E => vs.length = n ∧ ∃ tp args ta, RepVs K c tp H H vs args ∧ args.all Sl.arg? = true ∧ TapeR K H tp ta ∧ LamX.Tabs c.T H ∧ FPost K c tp H (Φ args ta) Q E
def callF (Φ : Fn) (fs : List Ev) : Ev := fun env ta => match evs fs env ta with
  | none => none
  | some (.error x, t) => some (.error x, t)
  | some (.ok rs, t) => if rs.all Sl.arg? = true then Φ rs t else none
section
variable {K : PySem.W.Frag} {c : Ct} {tp : Option Addr} {H H0 H1 B : Hp} {σ : L2.St} {env : SE} {ta ta' : TapeO}
theorem RepS.kp (R : RepS K c B tp σ H env ta) (k : Kp c tp H H1) (t : TapeR K H1 tp ta') (tb : LamX.Tabs c.T H1) : RepS K c B tp σ H1 env ta' where
  len := R.len
  slot := fun i sl e => by
    have q := R.slot i sl e
    cases sl with
    | un => exact q
    | val d => obtain ⟨v, e1, r⟩ := q; exact ⟨v, e1, r.st k.st⟩
    | own ds => obtain ⟨a, xs, e1, e2, r⟩ := q; exact ⟨a, xs, e1, k.kp _ _ e2 (R.fresh i a ⟨⟨ds, e⟩, e1⟩).2, r.st k.st⟩
    | bor _ => exact q
    | tape => exact q
  fresh := R.fresh
  dist := R.dist
  tape := t
  tabs := tb
  keep := fun a o e n => k.kp _ _ (R.keep a o e n) n
  stab := R.stab.trans k.st
theorem RepVs.args : ∀ {vs : List V} {xs : List Sl}, RepVs K c tp H0 H vs xs → xs.all Sl.arg? = true → RepVs K c tp H1 H vs xs
  | _, _, .nil, _ => .nil
  | _, _, .cons (x := x) r t, e => by
    simp only [List.all_cons, Bool.and_eq_true] at e
    refine .cons ?_ (t.args e.2)
    cases x with
    | val d => exact r
    | tape => exact r
    | _ => cases e.1
end
section
variable {X : Cx} {c : Ct} {W : WX} {e : Expr} {es : List Expr} {f : Ev} {fs : List Ev} {x : Str} {p pos : Pos} {k n : Nat} {g : Addr} {fd : FuncData} {ps : List Str} {Φ : Fn}
theorem v_call (F : FnOk X.prog X.w X.K X.mg X.base (L2.CX X.prog X.w) k g fd ps (FSp X.K c n Φ)) (tk : Takes X W) (hr : Room k X.A) (hm : X.mg x = some (.ref g)) (hk : PySem.W.keepIn X.K (.ref g) = true) (hb : Binds X.K fd ps []) (ha : PAv X c W (e :: es) fs)
    (hn : fs.length = n := by rfl) (hg : Gl X x := by rfl) (hdb : (x == ("__debug__" : Str)) = false := by decide) (he : starEach (e :: es) X.env = (false, eval e X.env) :: starEach es X.env := by rfl) (hpl : (backTo pos (starEach es X.env)).any (·.1) = false := by rfl) :
    PEv X c W (.Call (.Name x p) (e :: es) [] pos) (callF Φ fs) := by
  refine ⟨pe_mono (pe_callS F hr hg hm hk hb (fun σ => passAt tk σ) ha.pa hdb he hpl) ?_⟩
  rintro σ H Q ⟨B, tp, env, ta, RS, h⟩
  refine ⟨B, tp, env, ta, RS, ?_⟩
  unfold callF at h
  cases q : evs fs env ta with
  | none => rw [q] at h; exact h
  | some p =>
    obtain ⟨rs, t⟩ := p
    rw [q] at h
    cases rs with
    | error x => exact h
    | ok rs =>
      dsimp only at h
      intro vs H1 R1 K1 VS
      split at h
      · rename_i hall
        refine ⟨by rw [VS.length, evs_length q, hn], tp, rs, t, VS.args hall, hall, R1.tape, R1.tabs, ?_⟩
        have h2 := h.later K1
        cases e2 : Φ rs t with
        | none => rw [e2] at h2; exact h2
        | some p =>
          obtain ⟨r, t'⟩ := p
          rw [e2] at h2
          cases r with
          | error x => exact fun cls d H' K' T' B' er => h2 cls d H' (R1.kp K' T' B') K' er
          | ok z => exact fun v H' K' T' B' V' => h2 v H' (R1.kp K' T' B') K' V'
      · exact h.elim
end

/-! ### statements -/
inductive Fl where
  | nx | bk | ct | rt (r : Sl) | ex (x : Str)
abbrev Cs := SE → TapeO → Option (Fl × SE × TapeO)
def tpLe (tp tp' : Option Addr) : Prop := tp = none ∨ tp' = tp
theorem tpLe.refl (tp : Option Addr) : tpLe tp tp := .inr rfl
theorem tpLe.trans {a b d : Option Addr} (h : tpLe a b) (h' : tpLe b d) : tpLe a d := by
  rcases h with h | h
  · exact .inl h
  · subst h; exact h'
def SPost (K : PySem.W.Frag) (c : Ct) (W : WX) (B : Hp) (tp : Option Addr) (H : Hp) (D : Ends) (r : Option (Fl × SE × TapeO)) : Prop :=
  match r with
  | none => False
  | some (.nx, env, ta) => ∀ tp' σ' H', tpLe tp tp' → Stab H H' → RepS K c B tp' σ' H' env ta → D.nx σ' H'
  | some (.bk, env, ta) => ∀ tp' σ' H', tpLe tp tp' → Stab H H' → RepS K c B tp' σ' H' env ta → D.bk σ' H'
  | some (.ct, env, ta) => ∀ tp' σ' H', tpLe tp tp' → Stab H H' → RepS K c B tp' σ' H' env ta → D.ct σ' H'
  | some (.rt z, env, ta) => ∀ tp' σ' H' v, tpLe tp tp' → Stab H H' → RepS K c B tp' σ' H' env ta → RepV K c tp' B H' v z → D.rt v H'
  | some (.ex x, env, ta) => ∀ tp' σ' H' cls d, tpLe tp tp' → Stab H H' → RepS K c B tp' σ' H' env ta → ErrIs c H' cls d x → W cls d σ' H'
def tSs (K : PySem.W.Frag) (c : Ct) (W : WX) (f : Cs) : TS := fun D σ H => ∃ B tp env ta, RepS K c B tp σ H env ta ∧ SPost K c W B tp H D (f env ta)
structure PSv (X : Cx) (c : Ct) (W : WX) (st : Stmt) (f : Cs) : Prop where
  ps : PS X st (tSs X.K c W f)
structure PSsv (X : Cx) (c : Ct) (W : WX) (st : List Stmt) (f : Cs) : Prop where
  ps : PSs X st (tSs X.K c W f)
def skipC : Cs := fun env ta => some (.nx, env, ta)
def breakC : Cs := fun env ta => some (.bk, env, ta)
def contC : Cs := fun env ta => some (.ct, env, ta)
def seqC (f g : Cs) : Cs := fun env ta => match f env ta with
  | some (.nx, env', ta') => g env' ta'
  | r => r
theorem SPost.le {K : PySem.W.Frag} {c : Ct} {W : WX} {B : Hp} {tp tp' : Option Addr} {H H1 : Hp} {D : Ends} {r : Option (Fl × SE × TapeO)} (h : SPost K c W B tp H D r) (l : tpLe tp tp') (s : Stab H H1) : SPost K c W B tp' H1 D r := by
  cases r with
  | none => exact h
  | some p =>
    obtain ⟨fl, env, ta⟩ := p
    cases fl with
    | nx => exact fun tp2 σ' H' l2 s2 R => h tp2 σ' H' (l.trans l2) (s.trans s2) R
    | bk => exact fun tp2 σ' H' l2 s2 R => h tp2 σ' H' (l.trans l2) (s.trans s2) R
    | ct => exact fun tp2 σ' H' l2 s2 R => h tp2 σ' H' (l.trans l2) (s.trans s2) R
    | rt z => exact fun tp2 σ' H' v l2 s2 R V => h tp2 σ' H' v (l.trans l2) (s.trans s2) R V
    | ex x => exact fun tp2 σ' H' cls d l2 s2 R e => h tp2 σ' H' cls d (l.trans l2) (s.trans s2) R e
section
variable {X : Cx} {c : Ct} {W : WX} {st : Stmt} {rest : List Stmt} {e : Expr} {f g : Cs} {fe : Ev} {t : Tv} {pos : Pos}
theorem ss_nil : PSsv X c W [] skipC := by
  refine ⟨pss_mono L2.pss_nil ?_⟩
  rintro D σ H ⟨B, tp, env, ta, RS, h⟩
  exact h tp σ H (.refl _) (.refl _) RS
theorem ss_cons (h1 : PSv X c W st f) (h2 : PSsv X c W rest g) : PSsv X c W (st :: rest) (seqC f g) := by
  refine ⟨pss_mono (L2.pss_cons h1.ps h2.ps) ?_⟩
  rintro D σ H ⟨B, tp, env, ta, RS, h⟩
  refine ⟨B, tp, env, ta, RS, ?_⟩
  unfold seqC at h
  cases q : f env ta with
  | none => rw [q] at h; exact h
  | some p =>
    obtain ⟨fl, env', ta'⟩ := p
    rw [q] at h
    cases fl with
    | nx => exact fun tp' σ' H' l s R' => ⟨B, tp', env', ta', R', h.le l s⟩
    | _ => exact h
theorem ss_one (h1 : PSv X c W st f) : PSsv X c W [st] f := ⟨L2.pss_one h1.ps⟩
theorem s_pass : PSv X c W (.Pass pos) skipC := by
  refine ⟨ps_mono L2.ps_pass ?_⟩
  rintro D σ H ⟨B, tp, env, ta, RS, h⟩
  exact h tp σ H (.refl _) (.refl _) RS
theorem s_break : PSv X c W (.Break pos) breakC := by
  refine ⟨ps_mono L2.ps_break ?_⟩
  rintro D σ H ⟨B, tp, env, ta, RS, h⟩
  exact h tp σ H (.refl _) (.refl _) RS
theorem s_cont : PSv X c W (.Continue pos) contC := by
  refine ⟨ps_mono L2.ps_continue ?_⟩
  rintro D σ H ⟨B, tp, env, ta, RS, h⟩
  exact h tp σ H (.refl _) (.refl _) RS
theorem s_doc {x j pos pos'} : PSv X c W (.Expr (.Constant (.str x) j pos) pos') skipC := by
  refine ⟨ps_mono L2.ps_doc ?_⟩
  rintro D σ H ⟨B, tp, env, ta, RS, h⟩
  exact h tp σ H (.refl _) (.refl _) RS
end
/-! a value, then a statement's end -/
def onE (f : Ev) (k : Sl → Cs) : Cs := fun env ta => match f env ta with
  | none => none
  | some (.error x, t) => some (.ex x, env, t)
  | some (.ok r, t) => k r env t
theorem on_of {K : PySem.W.Frag} {c : Ct} {W : WX} {f : Ev} {k : Sl → Cs} {B : Hp} {tp : Option Addr} {σ : L2.St} {H : Hp} {env : SE} {ta : TapeO} {D : Ends} {R : VK} (RS : RepS K c B tp σ H env ta) (h : SPost K c W B tp H D (onE f k env ta))
    (go : ∀ r t v H1, RepS K c B tp σ H1 env t → Kp c tp H H1 → RepV K c tp H H1 v r → SPost K c W B tp H D (k r env t) → R v H1) : tE K c W f σ H R := by
  refine ⟨B, tp, env, ta, RS, ?_⟩
  unfold onE at h
  cases e : f env ta with
  | none => rw [e] at h; exact h
  | some p =>
    obtain ⟨r, t⟩ := p
    rw [e] at h
    cases r with
    | error x => exact fun cls d H' R' K' er => h tp σ H' cls d (.refl _) K'.st R' er
    | ok r => exact fun v H1 R1 K1 V1 => go r t v H1 R1 K1 V1 h
def Sl.store? : Sl → Option Sl
  | .val d => some (.val d)
  | .own ds => some (.own ds)
  | .tape => some .tape
  | _ => none
def asgC (i : Nat) (f : Ev) : Cs := onE f fun r env t => r.store?.map fun s => (.nx, env.set i s, t)
def retC (f : Ev) : Cs := onE f fun r env t => r.store?.map fun s => (.rt s, env, t)
def retNC : Cs := fun env ta => some (.rt (.val .non), env, ta)
/-- return x, x a name -/
def retVC (i : Nat) : Cs := fun env ta => match env[i]? with
  | some (.val d) => some (.rt (.val d), env, ta)
  | some (.own ds) => some (.rt (.own ds), env, ta)
  | some .tape => some (.rt .tape, env, ta)
  | _ => none
def dropC (f : Ev) : Cs := onE f fun _ env t => some (.nx, env, t)
def ifC (t : Tv) (f g : Cs) : Cs := fun env ta => match t env ta with
  | none => none
  | some (.error x, ta') => some (.ex x, env, ta')
  | some (.ok true, ta') => f env ta'
  | some (.ok false, ta') => g env ta'
section
variable {K : PySem.W.Frag} {c : Ct} {tp : Option Addr} {H H0 H1 B : Hp} {σ : L2.St} {env : SE} {ta ta' : TapeO}
theorem RepS.store {i : Nat} {v : V} {r s : Sl} (R0 : RepS K c B tp σ H0 env ta) (R : RepS K c B tp σ H env ta') (V : RepV K c tp H0 H v r) (e : r.store? = some s) : RepS K c B tp (σ.set i (some v)) H (env.set i s) ta' where
  len := by rw [List.length_set, List.length_set]; exact R.len
  slot := fun j sl e1 => by
    by_cases hj : i = j
    · subst hj
      have hi : i < env.length := by
        have := (List.getElem?_eq_some_iff.mp e1).1
        rwa [List.length_set] at this
      rw [List.getElem?_set_self hi] at e1
      cases e1
      have hs : (σ.set i (some v))[i]? = some (some v) := List.getElem?_set_self (by rw [← R.len]; exact hi)
      cases r with
      | val d => cases e; exact ⟨v, hs, V⟩
      | own ds => cases e; obtain ⟨a, xs, rfl, n, nv, hl, rr⟩ := V; exact ⟨a, xs, hs, hl, rr⟩
      | tape => cases e; obtain ⟨a, e2, rfl⟩ := V; exact ⟨a, e2, hs⟩
      | _ => cases e
    · rw [List.getElem?_set_ne hj] at e1
      have q := R.slot j sl e1
      cases sl with
      | un => trivial
      | val d => obtain ⟨w, e2, rr⟩ := q; exact ⟨w, by rw [List.getElem?_set_ne hj]; exact e2, rr⟩
      | own ds => obtain ⟨a, xs, e2, rr⟩ := q; exact ⟨a, xs, by rw [List.getElem?_set_ne hj]; exact e2, rr⟩
      | bor _ => exact q
      | tape => obtain ⟨a, e2, e3⟩ := q; exact ⟨a, e2, by rw [List.getElem?_set_ne hj]; exact e3⟩
  fresh := fun j a o => by
    obtain ⟨⟨ds, e1⟩, e2⟩ := o
    by_cases hj : i = j
    · subst hj
      have hi : i < env.length := by
        have := (List.getElem?_eq_some_iff.mp e1).1
        rwa [List.length_set] at this
      rw [List.getElem?_set_self hi] at e1
      rw [List.getElem?_set_self (by rw [← R.len]; exact hi)] at e2
      cases e1
      cases e2
      cases r with
      | own es => cases e; obtain ⟨b, xs, eb, n, nv, hl, rr⟩ := V; cases eb; exact ⟨R0.noB n, nv⟩
      | _ => cases e
    · rw [List.getElem?_set_ne hj] at e1 e2
      exact R.fresh j a ⟨⟨ds, e1⟩, e2⟩
  dist := fun j1 j2 a o1 o2 => by
    have key : ∀ j, OwnAt (env.set i s) (σ.set i (some v)) j a → (i = j ∧ H0 a = none) ∨ (i ≠ j ∧ OwnAt env σ j a) := fun j o => by
      obtain ⟨⟨ds, e1⟩, e2⟩ := o
      by_cases hj : i = j
      · subst hj
        have hi : i < env.length := by
          have := (List.getElem?_eq_some_iff.mp e1).1
          rwa [List.length_set] at this
        rw [List.getElem?_set_self hi] at e1
        rw [List.getElem?_set_self (by rw [← R.len]; exact hi)] at e2
        cases e1
        cases e2
        cases r with
        | own es => cases e; obtain ⟨b, xs, eb, n, nv, hl, rr⟩ := V; cases eb; exact .inl ⟨rfl, n⟩
        | _ => cases e
      · rw [List.getElem?_set_ne hj] at e1 e2
        exact .inr ⟨hj, ⟨ds, e1⟩, e2⟩
    rcases key j1 o1 with ⟨h1, n1⟩ | ⟨h1, q1⟩
    · rcases key j2 o2 with ⟨h2, n2⟩ | ⟨h2, q2⟩
      · rw [← h1, ← h2]
      · exact (R0.noOwn n1 j2 q2).elim
    · rcases key j2 o2 with ⟨h2, n2⟩ | ⟨h2, q2⟩
      · exact (R0.noOwn n2 j1 q1).elim
      · exact R.dist j1 j2 a q1 q2
  tape := R.tape
  tabs := R.tabs
  keep := R.keep
  stab := R.stab
theorem RepV.out {v : V} {r s : Sl} (V : RepV K c tp H0 H v r) (e : r.store? = some s) (hB : ∀ a, H0 a = none → B a = none) : RepV K c tp B H v s := by
  cases r with
  | val d => cases e; exact V
  | own ds => cases e; obtain ⟨a, xs, rfl, n, nv, hl, rr⟩ := V; exact ⟨a, xs, rfl, hB a n, nv, hl, rr⟩
  | tape => cases e; exact V
  | _ => cases e
end
section
variable {X : Cx} {c : Ct} {W : WX} {st : Stmt} {rest : List Stmt} {e : Expr} {es : List Stmt} {f g : Cs} {fe : Ev} {t : Tv} {pos : Pos}
/-- x = e -/
theorem s_asg {i : Nat} {x : Str} {pos' : Pos} (hN : X.N.Nodup) (he : PEv X c W e fe) (hi : X.N[i]? = some x := by rfl) (hx : Loc X.env.scope x := by first | exact Or.inl rfl | exact Or.inr rfl) (hs : swapsWith e (some (.Name x pos')) pos.line X.env = pure false := by rfl)
    (hf : X.fn x = true ∨ X.env.scope.names.lookup x = some .local := by first | exact .inl rfl | exact .inr rfl | assumption) : PSv X c W (.Assign [.Name x pos'] e pos) (asgC i fe) := by
  refine ⟨ps_mono (ps_set hN hi hx he.pe hs hf) ?_⟩
  rintro D σ H ⟨B, tp, env, ta, RS, h⟩
  refine on_of RS h fun r t v H1 R1 K1 V1 h1 => ?_
  cases es : r.store? with
  | none => rw [es] at h1; exact h1.elim
  | some s => rw [es] at h1; exact h1 tp _ H1 (.refl _) K1.st (RepS.store RS R1 V1 es)
theorem s_ret (he : PEv X c W e fe) : PSv X c W (.Return (some e) pos) (retC fe) := by
  refine ⟨ps_mono (L2.ps_ret he.pe) ?_⟩
  rintro D σ H ⟨B, tp, env, ta, RS, h⟩
  refine on_of RS h fun r t v H1 R1 K1 V1 h1 => ?_
  cases es : r.store? with
  | none => rw [es] at h1; exact h1.elim
  | some s => rw [es] at h1; exact h1 tp σ H1 v (.refl _) K1.st R1 (V1.out es fun a n => RS.noB n)
theorem s_retN : PSv X c W (.Return none pos) retNC := by
  refine ⟨ps_mono L2.ps_retN ?_⟩
  rintro D σ H ⟨B, tp, env, ta, RS, h⟩
  exact h tp σ H .non (.refl _) (.refl _) RS Rep.non
theorem s_retV {i : Nat} {x : Str} {p : Pos} (hN : X.N[i]? = some x := by rfl) (hv : Vis X.env.scope x := by first | exact Or.inl rfl | exact Or.inr (Or.inl rfl) | exact Or.inr (Or.inr rfl))
    (hd : (x == ("__debug__" : Str)) = false := by decide) (hcd : (x == ("__classdict__" : Str)) = false := by decide) : PSv X c W (.Return (some (.Name x p)) pos) (retVC i) := by
  refine ⟨ps_mono (L2.ps_ret (pe_var hN hv hd hcd)) ?_⟩
  rintro D σ H ⟨B, tp, env, ta, RS, h⟩
  unfold retVC at h
  cases e : env[i]? with
  | none => rw [e] at h; exact h.elim
  | some s =>
    rw [e] at h
    have q := RS.slot i s e
    cases s with
    | un => exact h.elim
    | val d => obtain ⟨v, e1, r⟩ := q; exact ⟨v, e1, h tp σ H v (.refl _) (.refl _) RS r⟩
    | own ds =>
      obtain ⟨a, xs, e1, e2, r⟩ := q
      have fr := RS.fresh i a ⟨⟨ds, e⟩, e1⟩
      exact ⟨_, e1, h tp σ H _ (.refl _) (.refl _) RS ⟨a, xs, rfl, fr.1, fr.2, e2, r⟩⟩
    | bor _ => exact h.elim
    | tape => obtain ⟨a, e1, e2⟩ := q; exact ⟨_, e2, h tp σ H _ (.refl _) (.refl _) RS ⟨a, e1, rfl⟩⟩
theorem s_drop (he : PEv X c W e fe) (hs : swapsWith e none pos.line X.env = pure false := by rfl) : PSv X c W (.Expr e pos) (dropC fe) := by
  refine ⟨ps_mono (L2.ps_expr he.pe hs) ?_⟩
  rintro D σ H ⟨B, tp, env, ta, RS, h⟩
  exact on_of RS h fun r t v H1 R1 K1 V1 h1 => h1 tp σ H1 (.refl _) K1.st R1
theorem s_if {cnd : Expr} {a b : List Stmt} (hc : PTv X c W cnd t) (ha : PSsv X c W a f) (hb : PSsv X c W b g) : PSv X c W (.If cnd a b pos) (ifC t f g) := by
  refine ⟨ps_mono (L2.ps_if hc.pt ha.ps hb.ps) ?_⟩
  rintro D σ H ⟨B, tp, env, ta, RS, h⟩
  refine ⟨B, tp, env, ta, RS, ?_⟩
  unfold ifC at h
  cases e : t env ta with
  | none => rw [e] at h; exact h
  | some p =>
    obtain ⟨r, t'⟩ := p
    rw [e] at h
    cases r with
    | error x => exact fun cls d H' R' K' er => h tp σ H' cls d (.refl _) K'.st R' er
    | ok b =>
      intro H1 R1 K1
      cases b with
      | true => rw [if_pos rfl]; exact ⟨B, tp, env, t', R1, h.le (.refl _) K1.st⟩
      | false => rw [if_neg Bool.false_ne_true]; exact ⟨B, tp, env, t', R1, h.le (.refl _) K1.st⟩
/-- a statement that is never reached -/
def neverC : Cs := fun _ _ => none
theorem s_never : PSv X c W st neverC := by
  refine ⟨ps_mono L2.ps_never ?_⟩
  rintro D σ H ⟨B, tp, env, ta, RS, h⟩
  exact h
theorem ss_never {sts : List Stmt} : PSsv X c W sts neverC := by
  refine ⟨pss_mono L2.pss_never ?_⟩
  rintro D σ H ⟨B, tp, env, ta, RS, h⟩
  exact h
end
end MP

/-! MPf: lists that change; while; for; comprehensions; raise; whole defs. -/
namespace MP
open PySem PySem.Spec PyProof.Rows L2
section
variable {K : PySem.W.Frag} {c : Ct} {tp : Option Addr} {H H0 H1 B : Hp} {σ : L2.St} {env : SE} {ta ta' : TapeO}
/-- the frame's own list at slot i is changed -/
theorem RepS.mut {i : Nat} {a : Addr} {xs ys : List V} {ds es : List D} (R : RepS K c B tp σ H env ta) (ei : env[i]? = some (.own ds)) (ea : σ[i]? = some (some (.ref a))) (h : H a = some (.lst xs)) (r : Reps K H ys es) :
    RepS K c B tp σ (upd H a (.lst ys)) (env.set i (.own es)) ta := by
  have hi : i < env.length := (List.getElem?_eq_some_iff.mp ei).1
  have own : ∀ j b, OwnAt (env.set i (.own es)) σ j b → OwnAt env σ j b := fun j b o => by
    obtain ⟨⟨fs, e1⟩, e2⟩ := o
    by_cases hj : i = j
    · subst hj; exact ⟨⟨ds, ei⟩, e2⟩
    · rw [List.getElem?_set_ne hj] at e1; exact ⟨⟨fs, e1⟩, e2⟩
  have fr := R.fresh i a ⟨⟨ds, ei⟩, ea⟩
  refine ⟨by rw [List.length_set]; exact R.len, fun j sl e1 => ?_, fun j b o => R.fresh j b (own j b o), fun j1 j2 b o1 o2 => R.dist j1 j2 b (own _ _ o1) (own _ _ o2), R.tape.upd h fun z => fr.2 (.inl z), Tabs.upd R.tabs h, fun b u e n => ?_, R.stab.trans (stab_lst h)⟩
  · by_cases hj : i = j
    · subst hj
      rw [List.getElem?_set_self hi] at e1
      cases e1
      exact ⟨a, ys, ea, upd_same, r.st (stab_lst h)⟩
    · rw [List.getElem?_set_ne hj] at e1
      have q := R.slot j sl e1
      cases sl with
      | un => exact q
      | val d => obtain ⟨v, e2, rr⟩ := q; exact ⟨v, e2, rr.st (stab_lst h)⟩
      | own fs =>
        obtain ⟨b, zs, e2, e3, rr⟩ := q
        have hb : b ≠ a := fun z => hj (R.dist i j a ⟨⟨ds, ei⟩, ea⟩ ⟨⟨fs, e1⟩, by rw [← z]; exact e2⟩)
        exact ⟨b, zs, e2, by rw [upd_ne hb]; exact e3, rr.st (stab_lst h)⟩
      | bor _ => exact q
      | tape => exact q
  · rw [upd_ne (fun z => by rw [z, fr.1] at e; cases e)]; exact R.keep b u e n
/-- .. frozen -/
theorem RepS.frzAt {i : Nat} {a : Addr} {xs : List V} {ds : List D} {o : Obj} (R : RepS K c B tp σ H env ta) (ei : env[i]? = some (.own ds)) (ea : σ[i]? = some (some (.ref a))) (h : H a = some (.lst xs)) (r : Reps K H xs ds) :
    RepS K c B tp σ (upd H a (.frz o (.lst xs))) (env.set i (.val (.lst ds))) ta := by
  have hi : i < env.length := (List.getElem?_eq_some_iff.mp ei).1
  have own : ∀ j b, OwnAt (env.set i (.val (.lst ds))) σ j b → i ≠ j ∧ OwnAt env σ j b := fun j b o => by
    obtain ⟨⟨fs, e1⟩, e2⟩ := o
    by_cases hj : i = j
    · subst hj; rw [List.getElem?_set_self hi] at e1; cases e1
    · rw [List.getElem?_set_ne hj] at e1; exact ⟨hj, ⟨fs, e1⟩, e2⟩
  have fr := R.fresh i a ⟨⟨ds, ei⟩, ea⟩
  refine ⟨by rw [List.length_set]; exact R.len, fun j sl e1 => ?_, fun j b o => R.fresh j b (own j b o).2, fun j1 j2 b o1 o2 => R.dist j1 j2 b (own _ _ o1).2 (own _ _ o2).2, R.tape.upd h fun z => fr.2 (.inl z), Tabs.upd R.tabs h, fun b u e n => ?_, R.stab.trans (stab_lst h)⟩
  · by_cases hj : i = j
    · subst hj
      rw [List.getElem?_set_self hi] at e1
      cases e1
      exact ⟨_, ea, Rep.lst (.inl ⟨o, upd_same⟩) (r.st (stab_lst h))⟩
    · rw [List.getElem?_set_ne hj] at e1
      have q := R.slot j sl e1
      cases sl with
      | un => exact q
      | val d => obtain ⟨v, e2, rr⟩ := q; exact ⟨v, e2, rr.st (stab_lst h)⟩
      | own fs =>
        obtain ⟨b, zs, e2, e3, rr⟩ := q
        have hb : b ≠ a := fun z => hj (R.dist i j a ⟨⟨ds, ei⟩, ea⟩ ⟨⟨fs, e1⟩, by rw [← z]; exact e2⟩)
        exact ⟨b, zs, e2, by rw [upd_ne hb]; exact e3, rr.st (stab_lst h)⟩
      | bor _ => exact q
      | tape => exact q
  · rw [upd_ne (fun z => by rw [z, fr.1] at e; cases e)]; exact R.keep b u e n
theorem RepS.ownAt {i : Nat} {ds : List D} (R : RepS K c B tp σ H env ta) (ei : env[i]? = some (.own ds)) : ∃ a xs, σ[i]? = some (some (.ref a)) ∧ H a = some (.lst xs) ∧ Reps K H xs ds := R.slot i _ ei
end
def frzC (i : Nat) : Cs := fun env ta => match env[i]? with
  | some (.own ds) => some (.nx, env.set i (.val (.lst ds)), ta)
  | some s => some (.nx, env, ta)
  | none => none
def appC (i : Nat) (f : Ev) : Cs := fun env ta => match env[i]? with
  | some (.own ds) => onE f (fun r env t => match r with
    | .val d => if ds.length < LIM then some (.nx, env.set i (.own (ds ++ [d])), t) else none
    | _ => none) env ta
  | _ => none
def popOf (i j : Nat) (ds : List D) (k : Int) (env : SE) (t : TapeO) : Option (Fl × SE × TapeO) :=
  if ds.length ≤ LIM then (match ixN ds.length k with
    | some m => (ds[m]?).map fun d => (.nx, (env.set i (.own (ds.eraseIdx m))).set j (.val d), t)
    | none => none) else none
/-- y = x.pop(k): x slot i, y slot j -/
def popAtC (i j : Nat) (f : Ev) : Cs := fun env ta => match env[i]? with
  | some (.own ds) => onE f (fun r env t => match r with
    | .val (.int k) => popOf i j ds k env t
    | _ => none) env ta
  | _ => none
/-- x.append(y.pop(k)): x slot i, y slot j -/
def appPopC (i j : Nat) (f : Ev) : Cs := fun env ta => match env[i]?, env[j]? with
  | some (.own ds), some (.own es) => onE f (fun r env t => match r with
    | .val (.int k) => if ds.length < LIM ∧ es.length ≤ LIM ∧ i ≠ j then (match ixN es.length k with
      | some m => (es[m]?).map fun d => (.nx, (env.set j (.own (es.eraseIdx m))).set i (.own (ds ++ [d])), t)
      | none => none) else none
    | _ => none) env ta
  | _, _ => none
/-- x[k] = e -/
def setC (i : Nat) (f g : Ev) : Cs := onE f fun r env t => match env[i]? with
  | some (.own ds) => onE g (fun q env t => match r, q with
    | .val d, .val (.int k) => (ixN ds.length k).map fun m => (.nx, env.set i (.own (ds.set m d)), t)
    | _, _ => none) env t
  | _ => none
section
variable {X : Cx} {c : Ct} {W : WX} {st : Stmt} {e k : Expr} {f g : Ev} {cs : Cs} {pos : Pos}
theorem s_frz {i : Nat} (h : PSv X c W st cs) : PSv X c W st (seqC (frzC i) cs) := by
  refine ⟨⟨fun pins s σ H D I w => ?_⟩⟩
  obtain ⟨B, tp, env, ta, RS, hh⟩ := w
  unfold seqC frzC at hh
  cases q : env[i]? with
  | none => rw [q] at hh; exact hh.elim
  | some sl =>
    rw [q] at hh
    have plain : SPost X.K c W B tp H D (cs env ta) → wpAny (model X.prog X.w) X.A (exec st X.env) (SP X pins D) X.xe s := fun hh => h.ps.run pins s σ H D I ⟨B, tp, env, ta, RS, hh⟩
    cases sl with
    | own ds =>
      obtain ⟨a, xs, ea, hl, r⟩ := RS.ownAt q
      obtain ⟨od, I2⟩ := I.lock hl trivial
      exact h.ps.run pins s σ _ D I2 ⟨B, tp, _, ta, RS.frzAt q ea hl r, SPost.le hh (.refl _) (stab_lst hl)⟩
    | un => exact plain hh
    | val d => exact plain hh
    | bor d => exact plain hh
    | tape => exact plain hh
/-- x.append(e) -/
theorem s_app {i : Nat} {x : Str} {p apos cpos : Pos} (he : PEv X c W e f) (hN : X.N[i]? = some x := by rfl) (hv : Vis X.env.scope x := by first | exact Or.inl rfl | exact Or.inr (Or.inl rfl) | exact Or.inr (Or.inr rfl))
    (hd : (x == ("__debug__" : Str)) = false := by decide) (hcd : (x == ("__classdict__" : Str)) = false := by decide)
    (hbase : attributeBase (.Name x p) "append" X.env (eval (.Name x p) X.env) = eval (.Name x p) X.env := by rfl)
    (hfew : ((backTo cpos (starEach [e] X.env)).all (fun x => !x.1) && (backToKw cpos (keywordEach [] X.env)).all (fun x => x.1.isSome)
      && decide ([e].length + ([] : List Keyword).length + (if ([] : List Keyword).isEmpty then 0 else 1) < 30)) = true := by rfl)
    (hline : (apos.endLine == cpos.line) = true := by rfl) (hs : starEach [e] X.env = (false, eval e X.env) :: starEach [] X.env := by rfl)
    (hsw : swapsWith (.Call (.Attribute (.Name x p) "append" apos) [e] [] cpos) none pos.line X.env = pure false := by rfl) :
    PSv X c W (.Expr (.Call (.Attribute (.Name x p) "append" apos) [e] [] cpos) pos) (appC i f) := by
  refine ⟨ps_mono (L2.ps_expr (pe_bm PySem.F.plainAttrs_list PySem.F.slot_list_append PySem.F.type_list_append mt_append (pe_var hN hv hd hcd) (L2.pa_cons he.pe L2.pa_nil hs) hbase hfew hline hs rfl) hsw) ?_⟩
  rintro D σ H ⟨B, tp, env, ta, RS, h⟩
  unfold appC at h
  split at h
  · rename_i ds q
    obtain ⟨a, xs, ea, hl, r⟩ := RS.ownAt q
    refine ⟨_, ea, .inl ⟨rfl, xs, SqL.of hl⟩, on_of RS h fun z t v H1 R1 K1 V1 h1 => ?_⟩
    split at h1
    · rename_i d
      split at h1
      · rename_i hlt
        obtain ⟨a', ys, ea', hl', r'⟩ := R1.ownAt q
        rw [ea] at ea'
        cases ea'
        refine ⟨a, ys, v, rfl, rfl, hl', by rw [r'.length, sizeLine_eq]; exact hlt, ?_⟩
        exact h1 tp σ _ (.refl _) (K1.st.trans (stab_lst hl')) (R1.mut q ea hl' (r'.append (.cons V1 .nil)))
      · exact h1.elim
    · exact h1.elim
  · exact h.elim
/-- y = x.pop(k) -/
theorem s_popAt {i j : Nat} {x y : Str} {p py apos cpos : Pos} (hNd : X.N.Nodup) (he : PEv X c W e f) (hN : X.N[i]? = some x := by rfl) (hv : Vis X.env.scope x := by first | exact Or.inl rfl | exact Or.inr (Or.inl rfl) | exact Or.inr (Or.inr rfl))
    (hj : X.N[j]? = some y := by rfl) (hx : Loc X.env.scope y := by first | exact Or.inl rfl | exact Or.inr rfl)
    (hd : (x == ("__debug__" : Str)) = false := by decide) (hcd : (x == ("__classdict__" : Str)) = false := by decide)
    (hbase : attributeBase (.Name x p) "pop" X.env (eval (.Name x p) X.env) = eval (.Name x p) X.env := by rfl)
    (hfew : ((backTo cpos (starEach [e] X.env)).all (fun x => !x.1) && (backToKw cpos (keywordEach [] X.env)).all (fun x => x.1.isSome)
      && decide ([e].length + ([] : List Keyword).length + (if ([] : List Keyword).isEmpty then 0 else 1) < 30)) = true := by rfl)
    (hline : (apos.endLine == cpos.line) = true := by rfl) (hs : starEach [e] X.env = (false, eval e X.env) :: starEach [] X.env := by rfl)
    (hsw : swapsWith (.Call (.Attribute (.Name x p) "pop" apos) [e] [] cpos) (some (.Name y py)) pos.line X.env = pure false := by rfl)
    (hf : X.fn y = true ∨ X.env.scope.names.lookup y = some .local := by first | exact .inl rfl | exact .inr rfl | assumption) :
    PSv X c W (.Assign [.Name y py] (.Call (.Attribute (.Name x p) "pop" apos) [e] [] cpos) pos) (popAtC i j f) := by
  refine ⟨ps_mono (ps_set hNd hj hx (pe_bm PySem.F.plainAttrs_list PySem.F.slot_list_pop PySem.F.type_list_pop mt_popAt (pe_var hN hv hd hcd) (L2.pa_cons he.pe L2.pa_nil hs) hbase hfew hline hs rfl) hsw hf) ?_⟩
  rintro D σ H ⟨B, tp, env, ta, RS, h⟩
  unfold popAtC at h
  split at h
  · rename_i ds q
    obtain ⟨a, xs, ea, hl, r⟩ := RS.ownAt q
    refine ⟨_, ea, .inl ⟨rfl, xs, SqL.of hl⟩, on_of RS h fun z t v H1 R1 K1 V1 h1 => ?_⟩
    split at h1
    · rename_i k
      unfold popOf at h1
      split at h1
      · rename_i hlim
        split at h1
        · rename_i m hm
          cases ed : ds[m]? with
          | none => rw [ed] at h1; exact h1.elim
          | some d =>
            rw [ed] at h1
            obtain ⟨a', ys, ea', hl', r'⟩ := R1.ownAt q
            rw [ea] at ea'
            cases ea'
            obtain ⟨w, hw, rw'⟩ := r'.get ed
            obtain ⟨h5, h6, h7, h8⟩ := ixN_seq hm
            have hb : (ds.length : Int) ≤ 16777216 := by have := hlim; unfold LIM at this; omega
            refine ⟨a, ys, k, m, w, rfl, by rw [V1.int], hl', by omega, by omega, by rw [r'.length]; exact h5, hw, ?_⟩
            have R2 := R1.mut q ea hl' (r'.eraseIdx m)
            have V2 : RepV X.K c tp (upd H1 a (.lst (ys.eraseIdx m))) (upd H1 a (.lst (ys.eraseIdx m))) w (.val d) := Rep.st rw' (stab_lst hl')
            exact h1 tp _ _ (.refl _) (K1.st.trans (stab_lst hl')) (RepS.store R2 R2 V2 rfl)
        · exact h1.elim
      · exact h1.elim
    · exact h1.elim
  · exact h.elim
/-- x.append(y.pop(k)) -/
theorem s_appPop {i j : Nat} {x y : Str} {p apos cpos py ypos zpos : Pos} (he : PEv X c W e f) (hN : X.N[i]? = some x := by rfl) (hv : Vis X.env.scope x := by first | exact Or.inl rfl | exact Or.inr (Or.inl rfl) | exact Or.inr (Or.inr rfl))
    (hj : X.N[j]? = some y := by rfl) (hvy : Vis X.env.scope y := by first | exact Or.inl rfl | exact Or.inr (Or.inl rfl) | exact Or.inr (Or.inr rfl))
    (hd : (x == ("__debug__" : Str)) = false := by decide) (hcd : (x == ("__classdict__" : Str)) = false := by decide) (hd2 : (y == ("__debug__" : Str)) = false := by decide) (hcd2 : (y == ("__classdict__" : Str)) = false := by decide)
    (hbase : attributeBase (.Name x p) "append" X.env (eval (.Name x p) X.env) = eval (.Name x p) X.env := by rfl)
    (hbase2 : attributeBase (.Name y py) "pop" X.env (eval (.Name y py) X.env) = eval (.Name y py) X.env := by rfl)
    (hfew : ((backTo cpos (starEach [.Call (.Attribute (.Name y py) "pop" ypos) [e] [] zpos] X.env)).all (fun x => !x.1) && (backToKw cpos (keywordEach [] X.env)).all (fun x => x.1.isSome)
      && decide (([.Call (.Attribute (.Name y py) "pop" ypos) [e] [] zpos] : List Expr).length + ([] : List Keyword).length + (if ([] : List Keyword).isEmpty then 0 else 1) < 30)) = true := by rfl)
    (hfew2 : ((backTo zpos (starEach [e] X.env)).all (fun x => !x.1) && (backToKw zpos (keywordEach [] X.env)).all (fun x => x.1.isSome)
      && decide ([e].length + ([] : List Keyword).length + (if ([] : List Keyword).isEmpty then 0 else 1) < 30)) = true := by rfl)
    (hline : (apos.endLine == cpos.line) = true := by rfl) (hline2 : (ypos.endLine == zpos.line) = true := by rfl) (hs : starEach [e] X.env = (false, eval e X.env) :: starEach [] X.env := by rfl)
    (hs2 : starEach [.Call (.Attribute (.Name y py) "pop" ypos) [e] [] zpos] X.env = (false, eval (.Call (.Attribute (.Name y py) "pop" ypos) [e] [] zpos) X.env) :: starEach [] X.env := by rfl)
    (hsw : swapsWith (.Call (.Attribute (.Name x p) "append" apos) [.Call (.Attribute (.Name y py) "pop" ypos) [e] [] zpos] [] cpos) none pos.line X.env = pure false := by rfl) :
    PSv X c W (.Expr (.Call (.Attribute (.Name x p) "append" apos) [.Call (.Attribute (.Name y py) "pop" ypos) [e] [] zpos] [] cpos) pos) (appPopC i j f) := by
  refine ⟨ps_mono (L2.ps_expr (pe_bm PySem.F.plainAttrs_list PySem.F.slot_list_append PySem.F.type_list_append mt_append (pe_var hN hv hd hcd)
    (L2.pa_cons (pe_bm PySem.F.plainAttrs_list PySem.F.slot_list_pop PySem.F.type_list_pop mt_popAt (pe_var hj hvy hd2 hcd2) (L2.pa_cons he.pe L2.pa_nil hs) hbase2 hfew2 hline2 hs rfl) L2.pa_nil hs2) hbase hfew hline hs2 rfl) hsw) ?_⟩
  rintro D σ H ⟨B, tp, env, ta, RS, h⟩
  unfold appPopC at h
  split at h
  · rename_i ds es q1 q2
    obtain ⟨a, xs, ea, hl, r⟩ := RS.ownAt q1
    obtain ⟨b, zs, eb, hlb, rb⟩ := RS.ownAt q2
    refine ⟨_, ea, .inl ⟨rfl, xs, SqL.of hl⟩, _, eb, .inl ⟨rfl, zs, SqL.of hlb⟩, on_of RS h fun z t v H1 R1 K1 V1 h1 => ?_⟩
    split at h1
    · rename_i k
      split at h1
      · rename_i hlim
        split at h1
        · rename_i m hm
          cases ed : es[m]? with
          | none => rw [ed] at h1; exact h1.elim
          | some d =>
            rw [ed] at h1
            obtain ⟨a', ys, ea', hl', r'⟩ := R1.ownAt q1
            rw [ea] at ea'
            cases ea'
            obtain ⟨b', ws, eb', hlb', rb'⟩ := R1.ownAt q2
            rw [eb] at eb'
            cases eb'
            have hab : a ≠ b := fun z => hlim.2.2 (R1.dist i j a ⟨⟨ds, q1⟩, ea⟩ ⟨⟨es, q2⟩, by rw [z]; exact eb⟩)
            obtain ⟨w, hw, rw'⟩ := rb'.get ed
            obtain ⟨h5, h6, h7, h8⟩ := ixN_seq hm
            have hb : (es.length : Int) ≤ 16777216 := by have := hlim.2.1; unfold LIM at this; omega
            refine ⟨b, ws, k, m, w, rfl, by rw [V1.int], hlb', by omega, by omega, by rw [rb'.length]; exact h5, hw, ?_⟩
            have R2 := R1.mut q2 eb hlb' (rb'.eraseIdx m)
            have hl2 : upd H1 b (.lst (ws.eraseIdx m)) a = some (.lst ys) := by rw [upd_ne hab]; exact hl'
            refine ⟨a, ys, w, rfl, rfl, hl2, by rw [r'.length, sizeLine_eq]; exact hlim.1, ?_⟩
            have q1' : (env.set j (.own (es.eraseIdx m)))[i]? = some (.own ds) := by rw [List.getElem?_set_ne (Ne.symm hlim.2.2)]; exact q1
            have R3 := R2.mut q1' ea hl2 ((r'.append (.cons rw' .nil)).st (stab_lst hlb'))
            exact h1 tp σ _ (.refl _) ((K1.st.trans (stab_lst hlb')).trans (stab_lst hl2)) R3
        · exact h1.elim
      · exact h1.elim
    · exact h1.elim
  · exact h.elim
end
end MP

/-! MPg: stores by place, while, for, what is walked. -/
namespace MP
open PySem PySem.Spec PyProof.Rows L2
section
variable {X : Cx} {c : Ct} {W : WX} {st : Stmt} {e k : Expr} {f g : Ev} {cs : Cs} {pos : Pos}
theorem s_set {i : Nat} {x : Str} {p tpos : Pos} (he : PEv X c W e f) (hk : PEv X c W k g) (hN : X.N[i]? = some x := by rfl) (hv : Vis X.env.scope x := by first | exact Or.inl rfl | exact Or.inr (Or.inl rfl) | exact Or.inr (Or.inr rfl))
    (hd : (x == ("__debug__" : Str)) = false := by decide) (hcd : (x == ("__classdict__" : Str)) = false := by decide)
    (hsb : ∀ v, assign (.Subscript (.Name x p) k tpos) X.env v = (do
      let ov ← holding [v] (eval (.Name x p) X.env)
      let iv ← holding [v, ov] (eval k X.env)
      standAt tpos
      holding [v, ov, iv] (setItem ov iv v)
      release [v, ov, iv] []) := by exact fun _ => rfl)
    (hs : swapsWithSole [.Subscript (.Name x p) k tpos] e pos.line X.env = pure false := by rfl) (hw : swappedStores [.Subscript (.Name x p) k tpos] e X.env = pure none := by rfl)
    (h1 : (assignEach [.Subscript (.Name x p) k tpos] X.env).map (·.2) = [assign (.Subscript (.Name x p) k tpos) X.env] := by rfl) :
    PSv X c W (.Assign [.Subscript (.Name x p) k tpos] e pos) (setC i f g) := by
  refine ⟨ps_mono (ps_asg he.pe (pg_sub (pe_var hN hv hd hcd) hk.pe set_list hsb) hs hw h1) ?_⟩
  rintro D σ H ⟨B, tp, env, ta, RS, h⟩
  refine on_of RS h fun r t v H1 R1 K1 V1 h1 => ?_
  split at h1
  · rename_i ds q
    obtain ⟨a, xs, ea, hl, rr⟩ := R1.ownAt q
    refine ⟨_, ea, on_of R1 (h1.le (.refl _) K1.st) fun z t2 u H2 R2 K2 V2 h2 => ?_⟩
    split at h2
    · rename_i d m
      cases em : ixN ds.length m with
      | none => rw [em] at h2; exact h2.elim
      | some j =>
        rw [em] at h2
        obtain ⟨a', ys, ea', hl', r'⟩ := R2.ownAt q
        rw [ea] at ea'
        cases ea'
        refine ⟨a, ys, m, j, rfl, V2.int, hl', by rw [r'.length]; exact em, ?_⟩
        exact h2 tp σ _ (.refl _) (K2.st.trans (stab_lst hl')) (R2.mut q ea hl' (Reps.set (Rep.st V1 K2.st) j r'))
    · exact h2.elim
  · exact h1.elim
end

/-! ### while -/
def whileC (t : Tv) (f : Cs) : Nat → Cs
  | 0 => fun _ _ => none
  | n + 1 => fun env ta => match t env ta with
    | none => none
    | some (.error x, ta') => some (.ex x, env, ta')
    | some (.ok false, ta') => some (.nx, env, ta')
    | some (.ok true, ta') => match f env ta' with
      | some (.nx, e', t') => whileC t f n e' t'
      | some (.ct, e', t') => whileC t f n e' t'
      | some (.bk, e', t') => some (.nx, e', t')
      | r => r
section
variable {X : Cx} {c : Ct} {W : WX} {cnd : Expr} {body : List Stmt} {t : Tv} {f : Cs} {pos : Pos}
theorem s_while (n : Nat) (hp : PassesOwn (model X.prog X.w) X.A X.env X.xe) (hc : PTv X c W cnd t) (hb : PSsv X c W body f) : PSv X c W (.While cnd body [] pos) (whileC t f n) := by
  refine ⟨ps_mono (ps_while hp hc.pt hb.ps) ?_⟩
  rintro D σ H ⟨B, tp, env, ta, RS, h⟩
  refine ⟨fun m σ' H' => ∃ B tp env ta, RepS X.K c B tp σ' H' env ta ∧ SPost X.K c W B tp H' D (whileC t f m env ta), ⟨n, B, tp, env, ta, RS, h⟩, ?_⟩
  rintro m σ1 H1 ⟨B, tp, env, ta, RS, h⟩
  cases m with
  | zero => exact h.elim
  | succ m =>
    refine ⟨B, tp, env, ta, RS, ?_⟩
    unfold whileC at h
    cases e : t env ta with
    | none => rw [e] at h; exact h
    | some p =>
      obtain ⟨r, t'⟩ := p
      rw [e] at h
      cases r with
      | error x => exact fun cls d H' R' K' er => h tp σ1 H' cls d (.refl _) K'.st R' er
      | ok b =>
        intro H2 R2 K2
        cases b with
        | false => exact h tp σ1 H2 (.refl _) K2.st R2
        | true =>
          dsimp only at h
          refine ⟨fun σ' H' => ∃ B tp env ta, RepS X.K c B tp σ' H' env ta ∧ SPost X.K c W B tp H' D (whileC t f m env ta), fun σ' H' q => ⟨m, Nat.lt_succ_self m, q⟩, B, tp, env, t', R2, ?_⟩
          have h := h.le (.refl _) K2.st
          cases e2 : f env t' with
          | none => rw [e2] at h; exact h
          | some p =>
            obtain ⟨fl, e', t2⟩ := p
            rw [e2] at h
            cases fl with
            | nx => exact fun tp' σ' H' l s R => ⟨B, tp', e', t2, R, h.le l s⟩
            | ct => exact fun tp' σ' H' l s R => ⟨B, tp', e', t2, R, h.le l s⟩
            | bk => exact h
            | rt z => exact h
            | ex x => exact h
end

/-! ### what is walked -/
abbrev Iv := SE → TapeO → Option (Except Str (List D) × TapeO)
/-- the walk J yields ds, from H1 on, wherever Rl H1 holds -/
def JW (K : PySem.W.Frag) (Rl : Hp → Prop) (J : It) (ds : List D) : Prop := ∀ i H, Rl H → (∀ d, ds[i]? = some d → J.go i H ∧ ∀ x H', J.yld i H x H' → Same H H' ∧ Rep K H' x d) ∧ (ds.length ≤ i → J.stop i H)
/-- strong: the walk stands whatever the body changes; else whatever an expression may change -/
def IPost (K : PySem.W.Frag) (c : Ct) (W : WX) (strong : Bool) (B : Hp) (tp : Option Addr) (σ : L2.St) (H : Hp) (env : SE) (r : Option (Except Str (List D) × TapeO)) (R : It → Hp → Prop) : Prop :=
  match r with
  | none => False
  | some (.ok ds, ta') => ∀ J H', RepS K c B tp σ H' env ta' → Kp c tp H H' → JW K (fun H2 => if strong = true then Stab H' H2 else Kp c tp H' H2) J ds → R J H'
  | some (.error x, ta') => ∀ cls d H', RepS K c B tp σ H' env ta' → Kp c tp H H' → ErrIs c H' cls d x → W cls d σ H'
def tIt (K : PySem.W.Frag) (c : Ct) (W : WX) (strong : Bool) (f : Iv) : TI := fun σ H R => ∃ B tp env ta, RepS K c B tp σ H env ta ∧ IPost K c W strong B tp σ H env (f env ta) R
structure PIv (X : Cx) (c : Ct) (W : WX) (strong : Bool) (tg e : Expr) (f : Iv) : Prop where
  pi : PI X tg e (tIt X.K c W strong f)
theorem pi_mono {X : Cx} {tg e : Expr} {t t' : TI} (h : PI X tg e t) (i : ∀ σ H Q, t' σ H Q → t σ H Q) : PI X tg e t' := ⟨fun pins s σ H Q I w => h.run pins s σ H Q I (i σ H Q w)⟩
theorem pi_or {X : Cx} {tg e : Expr} {t u : TI} (h : PI X tg e t) (h' : PI X tg e u) : PI X tg e (fun σ H R => t σ H R ∨ u σ H R) := ⟨fun pins s σ H Q I w => w.elim (h.run pins s σ H Q I) (h'.run pins s σ H Q I)⟩
def seqI (f : Ev) : Iv := fun env ta => match f env ta with
  | none => none
  | some (.error x, t) => some (.error x, t)
  | some (.ok r, t) => (r.seq?).map fun ds => (.ok ds, t)
theorem jw_list {K : PySem.W.Frag} {Rl : Hp → Prop} {H1 : Hp} {a : Addr} {xs : List V} {ds : List D} (h : ∀ H, Rl H → SqL K H a xs ∧ Stab H1 H) (r : Reps K H1 xs ds) : JW K Rl (Itl K a) ds := by
  intro i H hR
  obtain ⟨hs, st⟩ := h H hR
  refine ⟨fun d e => ?_, fun hl => ⟨xs, hs, by rw [r.length]; exact hl⟩⟩
  obtain ⟨v, e1, r1⟩ := r.get e
  refine ⟨⟨xs, v, hs, e1⟩, fun x H' y => ?_⟩
  obtain ⟨rfl, y⟩ := y
  have q := y xs hs
  rw [e1] at q
  cases q
  exact ⟨Same.refl _, r1.st st⟩
theorem jw_tup {K : PySem.W.Frag} {Rl : Hp → Prop} {H1 : Hp} {a : Addr} {xs : List V} {ds : List D} (h : ∀ H, Rl H → SqT K H a xs ∧ Stab H1 H) (r : Reps K H1 xs ds) : JW K Rl (Itt K a) ds := by
  intro i H hR
  obtain ⟨hs, st⟩ := h H hR
  refine ⟨fun d e => ?_, fun hl => ⟨xs, hs, by rw [r.length]; exact hl⟩⟩
  obtain ⟨v, e1, r1⟩ := r.get e
  refine ⟨⟨xs, v, hs, e1⟩, fun x H' y => ?_⟩
  obtain ⟨rfl, y⟩ := y
  have q := y xs hs
  rw [e1] at q
  cases q
  exact ⟨Same.refl _, r1.st st⟩
section
variable {X : Cx} {c : Ct} {W : WX} {tg e : Expr} {f : Ev} {b : Bool}
/-- a list or a tuple, whose result does not change: a datum -/
def Sl.isVal? : Sl → Bool
  | .val _ => true
  | _ => false
/-- over data (frozen) -/
def seqF (f : Ev) : Iv := fun env ta => match f env ta with
  | none => none
  | some (.error x, t) => some (.error x, t)
  | some (.ok (.val (.tup ds)), t) => some (.ok ds, t)
  | some (.ok (.val (.lst ds)), t) => some (.ok ds, t)
  | _ => none
theorem i_seqF (he : PEv X c W e f) : PIv X c W b tg e (seqF f) := by
  refine ⟨pi_mono (pi_or (pi_list he.pe) (pi_tup he.pe)) ?_⟩
  rintro σ H R ⟨B, tp, env, ta, RS, h⟩
  unfold seqF at h
  cases q : f env ta with
  | none => rw [q] at h; exact h.elim
  | some p =>
    obtain ⟨r, t⟩ := p
    rw [q] at h
    cases r with
    | error x => exact .inl ⟨B, tp, env, ta, RS, by rw [q]; exact h⟩
    | ok r =>
      have st : ∀ {H1 H2 : Hp}, (if b = true then Stab H1 H2 else Kp c tp H1 H2) → Stab H1 H2 := fun {H1 H2} hh => by
        cases b with
        | true => exact hh
        | false => exact hh.st
      cases r with
      | val d =>
        cases d with
        | tup ds =>
          refine .inr ⟨B, tp, env, ta, RS, ?_⟩
          rw [q]
          intro v H1 R1 K1 V1
          obtain ⟨a, xs, rfl, hs, r⟩ := V1.tup
          exact ⟨a, rfl, ⟨xs, hs⟩, h _ H1 R1 K1 (jw_tup (fun H2 hh => ⟨(st hh).sqT hs, st hh⟩) r)⟩
        | lst ds =>
          refine .inl ⟨B, tp, env, ta, RS, ?_⟩
          rw [q]
          intro v H1 R1 K1 V1
          cases (show Rep X.K H1 v (.lst ds) from V1) with
          | lst hs r => exact ⟨_, rfl, ⟨_, hs.sq⟩, h _ H1 R1 K1 (jw_list (fun H2 hh => ⟨((st hh).fz hs).sq, st hh⟩) r)⟩
        | _ => exact h.elim
      | _ => exact h.elim
/-- over anything, in an expression -/
theorem i_seq (he : PEv X c W e f) : PIv X c W false tg e (seqI f) := by
  refine ⟨pi_mono (pi_or (pi_list he.pe) (pi_tup he.pe)) ?_⟩
  rintro σ H R ⟨B, tp, env, ta, RS, h⟩
  unfold seqI at h
  cases q : f env ta with
  | none => rw [q] at h; exact h.elim
  | some p =>
    obtain ⟨r, t⟩ := p
    rw [q] at h
    cases r with
    | error x => exact .inl ⟨B, tp, env, ta, RS, by rw [q]; exact h⟩
    | ok r =>
      dsimp only at h
      have kp : ∀ {H1 H2 : Hp}, (if false = true then Stab H1 H2 else Kp c tp H1 H2) → Kp c tp H1 H2 := fun {H1 H2} hh => hh
      cases e2 : r.seq? with
      | none => rw [e2] at h; exact h.elim
      | some ds =>
        rw [e2] at h
        cases r with
        | un => cases e2
        | val d =>
          cases d with
          | tup es =>
            cases e2
            refine .inr ⟨B, tp, env, ta, RS, ?_⟩
            rw [q]
            intro v H1 R1 K1 V1
            obtain ⟨a, xs, rfl, hs, r⟩ := V1.tup
            exact ⟨a, rfl, ⟨xs, hs⟩, h _ H1 R1 K1 (jw_tup (fun H2 hh => ⟨(kp hh).st.sqT hs, (kp hh).st⟩) r)⟩
          | lst es =>
            cases e2
            refine .inl ⟨B, tp, env, ta, RS, ?_⟩
            rw [q]
            intro v H1 R1 K1 V1
            cases (show Rep X.K H1 v (.lst ds) from V1) with
            | lst hs r => exact ⟨_, rfl, ⟨_, hs.sq⟩, h _ H1 R1 K1 (jw_list (fun H2 hh => ⟨((kp hh).st.fz hs).sq, (kp hh).st⟩) r)⟩
          | _ => cases e2
        | own es =>
          cases e2
          refine .inl ⟨B, tp, env, ta, RS, ?_⟩
          rw [q]
          intro v H1 R1 K1 V1
          obtain ⟨a, xs, rfl, n, nv, hl, r⟩ := V1
          exact ⟨a, rfl, ⟨xs, SqL.of hl⟩, h _ H1 R1 K1 (jw_list (fun H2 hh => ⟨SqL.of ((kp hh).kp _ _ hl nv), (kp hh).st⟩) r)⟩
        | bor es =>
          cases e2
          refine .inl ⟨B, tp, env, ta, RS, ?_⟩
          rw [q]
          intro v H1 R1 K1 V1
          obtain ⟨a, xs, rfl, hl, nv, r⟩ := V1
          exact ⟨a, rfl, ⟨xs, SqL.of hl⟩, h _ H1 R1 K1 (jw_list (fun H2 hh => ⟨SqL.of ((kp hh).kp _ _ hl nv), (kp hh).st⟩) r)⟩
        | tape => cases e2
end
/-! ranges -/
def rgL (lo : Int) (n : Nat) : List D := (List.range n).map fun i => D.int (lo + (i : Nat))
def small62 (i : Int) : Bool := decide (-(2 ^ 62) ≤ i ∧ i < 2 ^ 62)
def rg1S : List Sl → Option (List D)
  | [.val (.int j)] => if small62 j = true then some (rgL 0 j.toNat) else none
  | _ => none
def rg2S : List Sl → Option (List D)
  | [.val (.int i), .val (.int j)] => if small62 i = true ∧ small62 j = true then some (rgL i (j - i).toNat) else none
  | _ => none
def rg3S : List Sl → Option (List D)
  | [.val (.int i), .val (.int j), .val (.int k)] => if small62 i = true ∧ small62 j = true ∧ k ≠ 0 ∧ k.natAbs < 1073741824 ∧ Builtin.Range.small i j k = true ∧ 0 ≤ Builtin.Range.rangeSize i j k then some ((List.range (Builtin.Range.rangeSize i j k).toNat).map fun m => D.int (i + (m : Nat) * k)) else none
  | _ => none
def argI (op : List Sl → Option (List D)) (fs : List Ev) : Iv := fun env ta => match evs fs env ta with
  | none => none
  | some (.error x, t) => some (.error x, t)
  | some (.ok rs, t) => (op rs).map fun ds => (.ok ds, t)
theorem jw_range {K : PySem.W.Frag} {Rl : Hp → Prop} {lo : Int} {n : Nat} : JW K Rl (Itr lo n) (rgL lo n) := by
  intro i H _
  unfold rgL
  refine ⟨fun d e => ?_, fun hl => ?_⟩
  · rw [List.getElem?_map] at e
    cases q : (List.range n)[i]? with
    | none => rw [q] at e; cases e
    | some j =>
      rw [q] at e
      cases e
      obtain ⟨h1, h2⟩ := List.getElem?_eq_some_iff.mp q
      rw [List.length_range] at h1
      rw [List.getElem_range] at h2
      subst h2
      refine ⟨h1, fun x H' y => ?_⟩
      obtain ⟨rfl, rfl⟩ := y
      exact ⟨Same.refl _, Rep.int _⟩
  · rw [List.length_map, List.length_range] at hl; exact hl
theorem arg_of {K : PySem.W.Frag} {c : Ct} {W : WX} {b : Bool} {op : List Sl → Option (List D)} {fs : List Ev} {B : Hp} {tp : Option Addr} {σ : L2.St} {H : Hp} {env : SE} {ta : TapeO} {R : It → Hp → Prop} {G : List V → Hp → Prop} (RS : RepS K c B tp σ H env ta) (h : IPost K c W b B tp σ H env (argI op fs env ta) R)
    (go : ∀ rs t vs H1 ds, op rs = some ds → RepS K c B tp σ H1 env t → Kp c tp H H1 → RepVs K c tp H H1 vs rs → IPost K c W b B tp σ H env (some (.ok ds, t)) R → G vs H1) : tAs K c W fs σ H G := by
  refine ⟨B, tp, env, ta, RS, ?_⟩
  unfold argI at h
  cases q : evs fs env ta with
  | none => rw [q] at h; exact h
  | some p =>
    obtain ⟨r, t⟩ := p
    rw [q] at h
    cases r with
    | error x => exact h
    | ok rs =>
      dsimp only at h
      intro vs H1 R1 K1 VS
      cases e : op rs with
      | none => rw [e] at h; exact h.elim
      | some ds => rw [e] at h; exact go rs t vs H1 ds e R1 K1 VS h
section
variable {X : Cx} {c : Ct} {W : WX} {tg a a2 a3 : Expr} {fs : List Ev} {b : Bool} {p pos : Pos}
theorem i_range1 (hm : X.mg "range" = none) (ha : PAv X c W [a] fs) (hg : Gl X "range" := by rfl) (hs : starEach [a] X.env = [(false, eval a X.env)] := by rfl) : PIv X c W b tg (.Call (.Name "range" p) [a] [] pos) (argI rg1S fs) := by
  refine ⟨pi_mono (pi_range1 hg hm ha.pa hs) ?_⟩
  rintro σ H R ⟨B, tp, env, ta, RS, h⟩
  refine arg_of RS h fun rs t vs H1 ds e R1 K1 VS h => ?_
  unfold rg1S at e
  split at e
  · rename_i j
    cases VS with
    | cons h1 h2 =>
      cases h2
      split at e
      · rename_i hj
        cases e
        have hj' := of_decide_eq_true (show decide _ = true from hj)
        exact ⟨j, by rw [h1.int], hj'.1, hj'.2, h _ H1 R1 K1 jw_range⟩
      · cases e
  · cases e
theorem i_range2 (hm : X.mg "range" = none) (ha : PAv X c W [a, a2] fs) (hg : Gl X "range" := by rfl) (hs : starEach [a, a2] X.env = [(false, eval a X.env), (false, eval a2 X.env)] := by rfl) (hs2 : starEach [a2] X.env = [(false, eval a2 X.env)] := by rfl) :
    PIv X c W b tg (.Call (.Name "range" p) [a, a2] [] pos) (argI rg2S fs) := by
  refine ⟨pi_mono (pi_range2 hg hm ha.pa hs hs2) ?_⟩
  rintro σ H R ⟨B, tp, env, ta, RS, h⟩
  refine arg_of RS h fun rs t vs H1 ds e R1 K1 VS h => ?_
  unfold rg2S at e
  split at e
  · rename_i i j
    cases VS with
    | cons h1 h2 =>
      cases h2 with
      | cons h2 h3 =>
        cases h3
        split at e
        · rename_i hj
          cases e
          have hi' := of_decide_eq_true (show decide _ = true from hj.1)
          have hj' := of_decide_eq_true (show decide _ = true from hj.2)
          exact ⟨i, j, by rw [h1.int, h2.int], ⟨hi'.1, hi'.2, hj'.1, hj'.2⟩, h _ H1 R1 K1 jw_range⟩
        · cases e
  · cases e
theorem jw_rangeC {K : PySem.W.Frag} {Rl : Hp → Prop} {lo k : Int} {n : Nat} : JW K Rl (Itc lo k n) ((List.range n).map fun m => D.int (lo + (m : Nat) * k)) := by
  intro i H _
  refine ⟨fun d e => ?_, fun hl => ?_⟩
  · rw [List.getElem?_map] at e
    cases q : (List.range n)[i]? with
    | none => rw [q] at e; cases e
    | some j =>
      rw [q] at e
      cases e
      obtain ⟨h1, h2⟩ := List.getElem?_eq_some_iff.mp q
      rw [List.length_range] at h1
      rw [List.getElem_range] at h2
      subst h2
      refine ⟨h1, fun x H' y => ?_⟩
      obtain ⟨rfl, rfl⟩ := y
      exact ⟨Same.refl _, Rep.int _⟩
  · rw [List.length_map, List.length_range] at hl; exact hl
theorem i_range3 (hm : X.mg "range" = none) (ha : PAv X c W [a, a2, a3] fs) (hg : Gl X "range" := by rfl)
    (hs : starEach [a, a2, a3] X.env = (false, eval a X.env) :: starEach [a2, a3] X.env := by rfl) (hpl : (backTo pos (starEach [a2, a3] X.env)).any (·.1) = false := by rfl) :
    PIv X c W b tg (.Call (.Name "range" p) [a, a2, a3] [] pos) (argI rg3S fs) := by
  refine ⟨pi_mono (pi_range3 hg hm ha.pa hs hpl) ?_⟩
  rintro σ H R ⟨B, tp, env, ta, RS, h⟩
  refine arg_of RS h fun rs t vs H1 ds e R1 K1 VS h => ?_
  unfold rg3S at e
  split at e
  · rename_i i j k
    cases VS with
    | cons h1 h2 =>
      cases h2 with
      | cons h2 h3 =>
        cases h3 with
        | cons h3 h4 =>
          cases h4
          split at e
          · rename_i hj
            cases e
            exact ⟨i, j, k, (Builtin.Range.rangeSize i j k).toNat, by rw [h1.int, h2.int, h3.int], ⟨hj.2.2.1, hj.2.2.2.1, hj.2.2.2.2.1, (Int.toNat_of_nonneg hj.2.2.2.2.2).symm⟩, h _ H1 R1 K1 jw_rangeC⟩
          · cases e
  · cases e
end
/-! ### the targets -/
inductive Tg where
  | one (j : Nat) | tup (js : List Nat)
def gNames : List Nat → TGs
  | [] => gNil
  | j :: js => gCons (gName j) (gNames js)
def Tg.g (K : PySem.W.Frag) : Tg → TG
  | .one j => gName j
  | .tup js => gTup K js.length (gNames js)
def Tg.slots : Tg → List Nat
  | .one j => [j]
  | .tup js => js
def setAll : List Nat → List D → SE → SE
  | j :: js, d :: ds, env => setAll js ds (env.set j (.val d))
  | _, _, env => env
def Tg.set : Tg → D → SE → Option SE
  | .one j, d, env => some (env.set j (.val d))
  | .tup js, .tup ds, env => if ds.length = js.length then some (setAll js ds env) else none
  | _, _, _ => none
theorem wipe_set {v : Option V} : ∀ {vs : List Nat} {σ : L2.St} {j : Nat}, j ∈ vs → wipe (σ.set j v) vs = wipe σ vs
  | [], _, _, h => by simp at h
  | i :: vs, σ, j, h => by
    show (wipe (σ.set j v) vs).set i none = (wipe σ vs).set i none
    by_cases hm : j ∈ vs
    · rw [wipe_set hm]
    · have hj : j = i := by
        rcases List.mem_cons.mp h with h | h
        · exact h
        · exact absurd h hm
      subst hj
      have e : ∀ (us : List Nat) (σ : L2.St), j ∉ us → wipe (σ.set j v) us = (wipe σ us).set j v := fun us => by
        induction us with
        | nil => intro σ _; rfl
        | cons k us ih =>
          intro σ hk
          simp only [List.mem_cons, not_or] at hk
          show (wipe (σ.set j v) us).set k none = ((wipe σ us).set k none).set j v
          rw [ih σ hk.2, List.set_comm _ _ hk.1]
      rw [e vs σ hm, List.set_set]
theorem gNames_ok {K : PySem.W.Frag} {c : Ct} {B : Hp} {tp : Option Addr} {H : Hp} {ta : TapeO} : ∀ {js : List Nat} {ds : List D} {vs : List V} {σ : L2.St} {env : SE}, RepS K c B tp σ H env ta → Reps K H vs ds → ds.length = js.length →
    ∃ σ', (∀ Q : L2.St → Hp → Prop, Q σ' H → gNames js vs σ H Q) ∧ RepS K c B tp σ' H (setAll js ds env) ta ∧ ∀ ws : List Nat, (∀ j ∈ js, j ∈ ws) → wipe σ' ws = wipe σ ws
  | [], ds, vs, σ, env, R, r, hl => by
    have e : ds = [] := List.eq_nil_of_length_eq_zero (by simpa using hl)
    subst e
    cases r
    exact ⟨σ, fun Q q => ⟨rfl, q⟩, R, fun _ _ => rfl⟩
  | j :: js, [], vs, σ, env, R, r, hl => by simp at hl
  | j :: js, d :: ds, vs, σ, env, R, r, hl => by
    cases r with
    | cons r1 r2 =>
      rename_i v vs
      have R1 : RepS K c B tp (σ.set j (some v)) H (env.set j (.val d)) ta := RepS.store (r := .val d) R R r1 rfl
      obtain ⟨σ', h1, h2, h3⟩ := gNames_ok (js := js) R1 r2 (by simpa using hl)
      refine ⟨σ', fun Q q => ⟨v, vs, rfl, h1 Q q⟩, h2, fun ws hw => ?_⟩
      rw [h3 ws fun k hk => hw k (List.mem_cons_of_mem _ hk), wipe_set (hw j List.mem_cons_self)]
theorem tg_ok {K : PySem.W.Frag} {c : Ct} {B : Hp} {tp : Option Addr} {H : Hp} {ta : TapeO} {t : Tg} {d : D} {v : V} {σ : L2.St} {env env' : SE} (R : RepS K c B tp σ H env ta) (r : Rep K H v d) (e : t.set d env = some env') :
    ∃ σ', (∀ Q : L2.St → Hp → Prop, Q σ' H → t.g K v σ H Q) ∧ RepS K c B tp σ' H env' ta ∧ ∀ ws : List Nat, (∀ j ∈ t.slots, j ∈ ws) → wipe σ' ws = wipe σ ws := by
  cases t with
  | one j =>
    cases e
    exact ⟨σ.set j (some v), fun Q q => q, RepS.store (r := .val d) R R r rfl, fun ws hw => wipe_set (hw j (by simp [Tg.slots]))⟩
  | tup js =>
    cases d with
    | tup ds =>
      have e : (if ds.length = js.length then some (setAll js ds env) else none) = some env' := e
      split at e
      · rename_i hl
        cases e
        cases r with
        | tup hs r =>
          rename_i a xs
          obtain ⟨σ', h1, h2, h3⟩ := gNames_ok R r hl
          exact ⟨σ', fun Q q => ⟨a, xs, rfl, hs, by rw [r.length]; exact hl, h1 Q q⟩, h2, h3⟩
      · cases e
    | _ => cases e
/-! ### for -/
def forL (t : Tg) (f : Cs) : List D → Cs
  | [] => fun env ta => some (.nx, env, ta)
  | d :: ds => fun env ta => match t.set d env with
    | none => none
    | some env1 => match f env1 ta with
      | some (.nx, e', t') => forL t f ds e' t'
      | some (.ct, e', t') => forL t f ds e' t'
      | some (.bk, e', t') => some (.nx, e', t')
      | r => r
def forC (it : Iv) (t : Tg) (f : Cs) : Cs := fun env ta => match it env ta with
  | none => none
  | some (.error x, t') => some (.ex x, env, t')
  | some (.ok ds, t') => forL t f ds env t'
section
variable {X : Cx} {c : Ct} {W : WX} {tg e : Expr} {body : List Stmt} {t : Tg} {it : Iv} {f : Cs} {pos : Pos}
theorem s_for (hp : PassesOwn (model X.prog X.w) X.A X.env X.xe) (hi : PIv X c W true tg e it) (hg : PG X tg (t.g X.K)) (hb : PSsv X c W body f) (hc : X.calm = true := by rfl)
    (hs : ∀ x, foldedSetIterable e X.env x = pure x := by exact fun _ => rfl) : PSv X c W (.For tg e body [] pos) (forC it t f) := by
  refine ⟨ps_mono (ps_for hp hc hi.pi hg hb.ps hs) ?_⟩
  rintro D σ H ⟨B, tp, env, ta, RS, h⟩
  refine ⟨B, tp, env, ta, RS, ?_⟩
  unfold forC at h
  cases q : it env ta with
  | none => rw [q] at h; exact h
  | some p =>
    obtain ⟨r, t0⟩ := p
    rw [q] at h
    cases r with
    | error x => exact fun cls d H' R' K' er => h tp σ H' cls d (.refl _) K'.st R' er
    | ok ds =>
      intro J H1 R1 K1 jw
      dsimp only at h
      refine ⟨fun i m σ' H' => Stab H1 H' ∧ m = ds.length - i ∧ i ≤ ds.length ∧ ∃ tp' env ta, RepS X.K c B tp' σ' H' env ta ∧ SPost X.K c W B tp' H' D (forL t f (ds.drop i) env ta),
        ⟨ds.length, .refl _, by simp, Nat.zero_le _, tp, env, t0, R1, by rw [List.drop_zero]; exact h.le (.refl _) K1.st⟩, ?_⟩
      rintro i m σ2 H2 ⟨st, rfl, hi, tp2, env2, ta2, R2, h2⟩
      obtain ⟨jgo, jstop⟩ := jw i H2 st
      by_cases hlt : i < ds.length
      · have e1 : ds[i]? = some ds[i] := by simp [hlt]
        obtain ⟨go, yl⟩ := jgo ds[i] e1
        refine .inr ⟨go, fun σ' H' => Stab H1 H' ∧ ∃ tp' env ta, RepS X.K c B tp' σ' H' env ta ∧ SPost X.K c W B tp' H' D (forL t f (ds.drop (i + 1)) env ta),
          fun σ' H' ⟨s', q'⟩ => ⟨ds.length - (i + 1), by omega, s', rfl, hlt, q'⟩, fun x H3 y => ?_⟩
        obtain ⟨s3, r3⟩ := yl x H3 y
        have R3 := R2.grow s3
        rw [List.drop_eq_getElem_cons hlt] at h2
        unfold forL at h2
        cases e2 : t.set ds[i] env2 with
        | none => rw [e2] at h2; exact h2.elim
        | some env3 =>
          rw [e2] at h2
          obtain ⟨σ3, g1, g2, _⟩ := tg_ok R3 r3 e2
          refine g1 _ ⟨B, tp2, env3, ta2, g2, ?_⟩
          have h3 := h2.le (.refl _) (Stab.of_same s3)
          have st3 : Stab H1 H3 := st.trans (.of_same s3)
          dsimp only at h3
          cases e4 : f env3 ta2 with
          | none => rw [e4] at h3; exact h3
          | some p =>
            obtain ⟨fl, e', t'⟩ := p
            rw [e4] at h3
            cases fl with
            | nx => exact fun tp' σ' H' l s R => ⟨st3.trans s, tp', e', t', R, h3.le l s⟩
            | ct => exact fun tp' σ' H' l s R => ⟨st3.trans s, tp', e', t', R, h3.le l s⟩
            | bk => exact h3
            | rt z => exact h3
            | ex x => exact h3
      · have e1 : ds.drop i = [] := List.drop_eq_nil_of_le (by omega)
        rw [e1] at h2
        exact .inl ⟨jstop (by omega), h2 tp2 σ2 H2 (.refl _) (.refl _) R2⟩
end
end MP

/-! MPh: comprehensions, unpacking, whole defs. -/
namespace MP
open PySem PySem.Spec PyProof.Rows L2
section
variable {K : PySem.W.Frag} {c : Ct} {tp : Option Addr} {H H0 H1 B : Hp} {σ : L2.St} {env : SE} {ta ta' : TapeO}
/-- a list that no slot owns is changed -/
theorem RepS.updL {a : Addr} {xs : List V} {o : HO} (R : RepS K c B tp σ H env ta) (h : H a = some (.lst xs)) (nv : ¬ Vol c tp a) (no : ∀ i, ¬ OwnAt env σ i a) (nB : B a = none) : RepS K c B tp σ (upd H a o) env ta where
  len := R.len
  slot := fun i sl e => by
    have q := R.slot i sl e
    cases sl with
    | un => exact q
    | val d => obtain ⟨v, e1, r⟩ := q; exact ⟨v, e1, r.st (stab_lst h)⟩
    | own ds =>
      obtain ⟨b, ys, e1, e2, r⟩ := q
      have hb : b ≠ a := fun z => no i ⟨⟨ds, e⟩, by rw [← z]; exact e1⟩
      exact ⟨b, ys, e1, by rw [upd_ne hb]; exact e2, r.st (stab_lst h)⟩
    | bor _ => exact q
    | tape => exact q
  fresh := R.fresh
  dist := R.dist
  tape := R.tape.upd h fun z => nv (.inl z)
  tabs := Tabs.upd R.tabs h
  keep := fun b u e n => by
    rw [upd_ne (fun z => by rw [z, nB] at e; cases e)]; exact R.keep b u e n
  stab := R.stab.trans (stab_lst h)
theorem Kp.updL {a : Addr} {xs : List V} {o : HO} (k : Kp c tp H H1) (h : H1 a = some (.lst xs)) (n : H a = none) : Kp c tp H (upd H1 a o) where
  kp := fun b u e nv => by rw [upd_ne (fun z => by rw [z, n] at e; cases e)]; exact k.kp b u e nv
  st := k.st.trans (stab_lst h)
  nn := fun b e => by
    by_cases hb : b = a
    · rw [hb, upd_same] at e; cases e
    · rw [upd_ne hb] at e; exact k.nn b e
def wipeE (env : SE) : List Nat → SE
  | [] => env
  | v :: vs => (wipeE env vs).set v .un
theorem RepS.unset (R : RepS K c B tp σ H env ta) (i : Nat) : RepS K c B tp (σ.set i none) H (env.set i .un) ta := by
  have own : ∀ j b, OwnAt (env.set i .un) (σ.set i none) j b → i ≠ j ∧ OwnAt env σ j b := fun j b o => by
    obtain ⟨⟨fs, e1⟩, e2⟩ := o
    by_cases hj : i = j
    · subst hj
      by_cases hi : i < env.length
      · rw [List.getElem?_set_self hi] at e1; cases e1
      · rw [List.getElem?_eq_none (by simp; omega)] at e1; cases e1
    · rw [List.getElem?_set_ne hj] at e1 e2; exact ⟨hj, ⟨fs, e1⟩, e2⟩
  refine ⟨by rw [List.length_set, List.length_set]; exact R.len, fun j sl e1 => ?_, fun j b o => R.fresh j b (own j b o).2, fun j1 j2 b o1 o2 => R.dist j1 j2 b (own _ _ o1).2 (own _ _ o2).2, R.tape, R.tabs, R.keep, R.stab⟩
  by_cases hj : i = j
  · subst hj
    by_cases hi : i < env.length
    · rw [List.getElem?_set_self hi] at e1; cases e1; trivial
    · rw [List.getElem?_eq_none (by simp; omega)] at e1; cases e1
  · rw [List.getElem?_set_ne hj] at e1
    have q := R.slot j sl e1
    cases sl with
    | un => trivial
    | val d => obtain ⟨w, e2, rr⟩ := q; exact ⟨w, by rw [List.getElem?_set_ne hj]; exact e2, rr⟩
    | own ds => obtain ⟨a, xs, e2, rr⟩ := q; exact ⟨a, xs, by rw [List.getElem?_set_ne hj]; exact e2, rr⟩
    | bor _ => exact q
    | tape => obtain ⟨a, e2, e3⟩ := q; exact ⟨a, e2, by rw [List.getElem?_set_ne hj]; exact e3⟩
theorem RepS.wipe (R : RepS K c B tp σ H env ta) : ∀ vs : List Nat, RepS K c B tp (L2.wipe σ vs) H (wipeE env vs) ta
  | [] => R
  | v :: vs => (R.wipe vs).unset v
/-- the frame's slots at another environment of the same frame: what is known of the heap -/
theorem RepS.move {σ' : L2.St} {env' : SE} (R : RepS K c B tp σ' H env' ta) (R0 : RepS K c B tp σ H0 env ta') (k : Kp c tp H0 H) : RepS K c B tp σ H env ta := R0.kp k R.tape R.tabs
end
/-! ### comprehensions -/
abbrev W0 : WX := fun _ _ _ _ => False
def yesT : Tv := fun _ ta => some (.ok true, ta)
def compL (t : Tg) (cnd : Tv) (elt : Ev) : List D → SE → TapeO → Option (List D × TapeO)
  | [], _, ta => some ([], ta)
  | d :: ds, env, ta => match t.set d env with
    | none => none
    | some env1 => match cnd env1 ta with
      | some (.ok true, t1) => match elt env1 t1 with
        | some (.ok (.val y), t2) => (compL t cnd elt ds env t2).map fun p => (y :: p.1, p.2)
        | _ => none
      | some (.ok false, t1) => compL t cnd elt ds env t1
      | _ => none
def compE (it : Iv) (vs : List Nat) (t : Tg) (cnd : Tv) (elt : Ev) : Ev := fun env ta => match it env ta with
  | none => none
  | some (.error x, t1) => some (.error x, t1)
  | some (.ok ds, t1) => if ds.length < LIM then (compL t cnd elt ds (wipeE env vs) t1).map fun p => (.ok (.own p.1), p.2) else none
section
variable {K : PySem.W.Frag} {c : Ct} {W : WX} {it : Iv} {t : Tg} {cnd : Tv} {elt : Ev} {vs : List Nat}
theorem comp_of (hv : ∀ j ∈ t.slots, j ∈ vs) : ∀ σ H Q, tE K c W (compE it vs t cnd elt) σ H Q → tLc (tIt K c W false it) (t.g K) (tTt K c W0 cnd) (tE K c W0 elt) vs σ H Q := by
  rintro σ H Q ⟨B, tp, env, ta, RS, h⟩
  refine ⟨B, tp, env, ta, RS, ?_⟩
  unfold compE at h
  cases q : it env ta with
  | none => rw [q] at h; exact h
  | some p =>
    obtain ⟨r, t0⟩ := p
    rw [q] at h
    cases r with
    | error x => exact h
    | ok ds =>
      dsimp only at h
      intro J H1 R1 K1 jw D0 hD
      by_cases hlim : ds.length < LIM
      · rw [if_pos hlim] at h
        cases ec : compL t cnd elt ds (wipeE env vs) t0 with
        | none => rw [ec] at h; exact h.elim
        | some fin =>
          rw [ec] at h
          have nvD : ¬ Vol c tp D0 := R1.vol hD
          have nD0 : H D0 = none := K1.nn _ hD
          have noD := RS.noOwn nD0
          have nBD := RS.noB nD0
          refine ⟨fun i m H' => m = ds.length - i ∧ i ≤ ds.length ∧ ∃ acc accD ta' rest t2, H' D0 = some (.lst acc) ∧ Reps K H' acc accD ∧ acc.length ≤ i ∧ RepS K c B tp σ H' env ta' ∧ Kp c tp H1 H' ∧
            compL t cnd elt (ds.drop i) (wipeE env vs) ta' = some (rest, t2) ∧ fin = (accD ++ rest, t2),
            ⟨ds.length, by simp, Nat.zero_le _, [], [], t0, fin.1, fin.2, upd_same, .nil, Nat.le_refl _, R1.grow (Same.new hD), .same (Same.new hD), by rw [List.drop_zero]; exact ec, rfl⟩, ?_⟩
          rintro i m H2 ⟨rfl, hi, acc, accD, ta2, rest, t2, hacc, racc, hla, R2, K2, ed, ef⟩
          obtain ⟨jgo, jstop⟩ := jw i H2 K2
          by_cases hlt : i < ds.length
          · have e1 : ds[i]? = some ds[i] := by simp [hlt]
            obtain ⟨go, yl⟩ := jgo ds[i] e1
            refine .inr ⟨go, fun H' => ∃ acc accD ta' rest t2, H' D0 = some (.lst acc) ∧ Reps K H' acc accD ∧ acc.length ≤ i + 1 ∧ RepS K c B tp σ H' env ta' ∧ Kp c tp H1 H' ∧
              compL t cnd elt (ds.drop (i + 1)) (wipeE env vs) ta' = some (rest, t2) ∧ fin = (accD ++ rest, t2), fun H' q' => ⟨ds.length - (i + 1), by omega, rfl, hlt, q'⟩, fun x H3 y => ?_⟩
            obtain ⟨s3, r3⟩ := yl x H3 y
            have R3 := R2.grow s3
            have K3 : Kp c tp H1 H3 := K2.trans (.same s3)
            rw [List.drop_eq_getElem_cons hlt] at ed
            unfold compL at ed
            cases e2 : t.set ds[i] (wipeE env vs) with
            | none => rw [e2] at ed; cases ed
            | some env3 =>
              rw [e2] at ed
              dsimp only at ed
              obtain ⟨σ3, g1, g2, g3⟩ := tg_ok (R3.wipe vs) r3 e2
              refine g1 _ ⟨?_, ?_⟩
              · rw [g3 vs hv]
                have : ∀ (us ws : List Nat), (∀ j ∈ us, j ∈ ws) → L2.wipe (L2.wipe σ ws) us = L2.wipe σ ws := by
                  intro us ws hw
                  induction us with
                  | nil => rfl
                  | cons k us ih =>
                    show (L2.wipe (L2.wipe σ ws) us).set k none = L2.wipe σ ws
                    rw [ih fun j hj => hw j (List.mem_cons_of_mem _ hj)]
                    have hk := hw k List.mem_cons_self
                    clear ih hw
                    induction ws with
                    | nil => simp at hk
                    | cons l ws ih2 =>
                      show ((L2.wipe σ ws).set l none).set k none = (L2.wipe σ ws).set l none
                      by_cases hm : k ∈ ws
                      · by_cases hkl : k = l
                        · subst hkl; rw [List.set_set]
                        · rw [List.set_comm _ _ (Ne.symm hkl), ih2 hm]
                      · have hkl : k = l := by
                          rcases List.mem_cons.mp hk with z | z
                          · exact z
                          · exact absurd z hm
                        subst hkl; rw [List.set_set]
                exact this vs vs fun j hj => hj
              · refine ⟨B, tp, env3, ta2, g2, ?_⟩
                cases e3 : cnd env3 ta2 with
                | none => rw [e3] at ed; cases ed
                | some p =>
                  obtain ⟨r, t4⟩ := p
                  rw [e3] at ed
                  cases r with
                  | error x => cases ed
                  | ok b =>
                    intro H4 R4 K4
                    have hD4 : H4 D0 = some (.lst acc) := K4.kp _ _ (s3 _ _ hacc) nvD
                    have K4' : Kp c tp H1 H4 := K3.trans K4
                    have R4' : RepS K c B tp σ H4 env t4 := R4.move R3 K4
                    cases b with
                    | false =>
                      rw [if_neg Bool.false_ne_true]
                      exact ⟨acc, accD, t4, rest, t2, hD4, (racc.st (.of_same s3)).st K4.st, Nat.le_succ_of_le hla, R4', K4', ed, ef⟩
                    | true =>
                      rw [if_pos rfl]
                      dsimp only at ed
                      refine ⟨B, tp, env3, t4, R4, ?_⟩
                      cases e5 : elt env3 t4 with
                      | none => rw [e5] at ed; cases ed
                      | some p =>
                        obtain ⟨r, t5⟩ := p
                        rw [e5] at ed
                        cases r with
                        | error x => cases ed
                        | ok z =>
                          intro v H5 R5 K5 V5
                          cases z with
                          | val yd =>
                            dsimp only at ed
                            cases e6 : compL t cnd elt (ds.drop (i + 1)) (wipeE env vs) t5 with
                            | none => rw [e6] at ed; cases ed
                            | some p =>
                              rw [e6] at ed
                              cases ed
                              have hD5 : H5 D0 = some (.lst acc) := K5.kp _ _ hD4 nvD
                              have R5' : RepS K c B tp σ H5 env t5 := R5.move R4' K5
                              refine ⟨acc, hD5, by rw [sizeLine_eq]; unfold LIM at hlim; omega, acc ++ [v], accD ++ [yd], t5, p.1, p.2, upd_same, ?_, by simp; exact hla, R5'.updL hD5 nvD noD nBD, (K4'.trans K5).updL hD5 hD, by rw [e6], by rw [ef, List.append_assoc]; rfl⟩
                              exact ((((racc.st (.of_same s3)).st K4.st).st K5.st).append (.cons V5 .nil)).st (stab_lst hD5)
                          | _ => cases ed
          · have e1 : ds.drop i = [] := List.drop_eq_nil_of_le (by omega)
            rw [e1] at ed
            cases ed
            rw [List.append_nil] at ef
            subst ef
            exact .inl ⟨jstop (by omega), h _ H2 R2 (K1.trans K2) ⟨D0, acc, rfl, nD0, nvD, hacc, racc⟩⟩
      · rw [if_neg hlim] at h; exact h.elim
end
section
variable {X : Cx} {c : Ct} {W : WX} {elt tg iter : Expr} {ifs : List Expr} {scope : Scope} {own : List (Str × Nat)} {pos : Pos} {it : Iv} {t : Tg} {cnd : Tv} {fe : Ev}
/-- the tests of a comprehension -/
structure PCn (X : Cx) (c : Ct) (ifs : List Expr) (cnd : Tv) : Prop where
  pts : PTs X ifs (tTt X.K c W0 cnd)
theorem c_nil : PCn X c [] yesT := ⟨⟨fun pins s σ H Q I h => pts_nil.run pins s σ H Q I (by
  obtain ⟨B, tp, env, ta, RS, h⟩ := h
  exact TPost.val RS h)⟩⟩
theorem c_one {e : Expr} (h : PTv X c W0 e cnd) : PCn X c [e] cnd := ⟨pts_one h.pt⟩
/-- [elt for tg in iter if ..] -/
theorem v_comp (hN : X.N.Nodup) (hi : PIv X c W false tg iter it) (own : List (Str × Nat)) (ok : blkC X.N X.env.scope scope own = true)
    (hg : ∀ (s : Shared) (H : Hp) (C : Addr) (cl : List (Str × Addr)) (fp : List Addr), PG (X.blk s H scope (compEnvC scope cl C X.env) fp) tg (t.g X.K))
    (ht : ∀ (s : Shared) (H : Hp) (C : Addr) (cl : List (Str × Addr)) (fp : List Addr), PCn (X.blk s H scope (compEnvC scope cl C X.env) fp) c ifs cnd)
    (he : ∀ (s : Shared) (H : Hp) (C : Addr) (cl : List (Str × Addr)) (fp : List Addr), PEv (X.blk s H scope (compEnvC scope cl C X.env) fp) c W0 elt fe)
    (hv : ∀ j ∈ t.slots, j ∈ own.map (·.2) := by decide) (hc : X.calm = true := by rfl) (hs : ∀ x, foldedSetIterable iter X.env x = pure x := by exact fun _ => rfl) :
    PEv X c W (.ListComp elt [⟨tg, iter, ifs, 0⟩] scope pos) (compE it (own.map (·.2)) t cnd fe) :=
  ⟨pe_mono (pe_lc (te := tE X.K c W0 fe) (tt := tTt X.K c W0 cnd) hc hN hi.pi (blkOk_by ok) hg (fun s H C cl fp => (ht s H C cl fp).pts) (fun s H C cl fp => (he s H C cl fp).pe) hs) (comp_of hv)⟩
/-- y = [..] on one line, y a local -/
theorem s_asgComp {i : Nat} {y : Str} {py spos : Pos} (hN : X.N.Nodup) (hi : PIv X c W false tg iter it) (own : List (Str × Nat)) (ok : blkC X.N X.env.scope scope own = true)
    (hg : ∀ (s : Shared) (H : Hp) (C : Addr) (cl : List (Str × Addr)) (fp : List Addr), PG (X.blk s H scope (compEnvC scope cl C X.env) fp) tg (t.g X.K))
    (ht : ∀ (s : Shared) (H : Hp) (C : Addr) (cl : List (Str × Addr)) (fp : List Addr), PCn (X.blk s H scope (compEnvC scope cl C X.env) fp) c ifs cnd)
    (he : ∀ (s : Shared) (H : Hp) (C : Addr) (cl : List (Str × Addr)) (fp : List Addr), PEv (X.blk s H scope (compEnvC scope cl C X.env) fp) c W0 elt fe)
    (hsw : swapsWith (.ListComp elt [⟨tg, iter, ifs, 0⟩] scope pos) (some (.Name y py)) spos.line X.env = pure true) (hyl : X.env.scope.names.lookup y = some .local := by rfl) (hy : X.N[i]? = some y := by rfl)
    (hv : ∀ j ∈ t.slots, j ∈ own.map (·.2) := by decide) (hc : X.calm = true := by rfl) (hs : ∀ x, foldedSetIterable iter X.env x = pure x := by exact fun _ => rfl) :
    PSv X c W (.Assign [.Name y py] (.ListComp elt [⟨tg, iter, ifs, 0⟩] scope pos) spos) (asgC i (compE it (own.map (·.2)) t cnd fe)) := by
  refine ⟨ps_mono (ps_setLc (te := tE X.K c W0 fe) (tt := tTt X.K c W0 cnd) hc hN hy hyl hsw hi.pi (blkOk_by ok) hg (fun s H C cl fp => (ht s H C cl fp).pts) (fun s H C cl fp => (he s H C cl fp).pe) hs) ?_⟩
  rintro D σ H ⟨B, tp, env, ta, RS, h⟩
  refine comp_of hv σ H _ (on_of RS h fun r t v H1 R1 K1 V1 h1 => ?_)
  cases es : r.store? with
  | none => rw [es] at h1; exact h1.elim
  | some s => rw [es] at h1; exact h1 tp _ H1 (.refl _) K1.st (RepS.store RS R1 V1 es)
end
/-! ### targets of several names -/
def unpC (js : List Nat) (f : Ev) : Cs := onE f fun r env t => match r with
  | .val (.tup ds) => if ds.length = js.length then some (.nx, setAll js ds env, t) else none
  | _ => none
section
variable {X : Cx} {c : Ct} {W : WX} {e : Expr} {f : Ev} {pos : Pos}
/-- a, b = e -/
theorem s_unp {js : List Nat} {es : List Expr} {k : Nat} {tpos : Pos} (he : PEv X c W e f) (hg : PG X (.Tuple es k tpos) (gTup X.K js.length (gNames js))) (hs : swapsWithSole [.Tuple es k tpos] e pos.line X.env = pure false := by rfl) (hw : swappedStores [.Tuple es k tpos] e X.env = pure none := by rfl)
    (h1 : (assignEach [.Tuple es k tpos] X.env).map (·.2) = [assign (.Tuple es k tpos) X.env] := by rfl) : PSv X c W (.Assign [.Tuple es k tpos] e pos) (unpC js f) := by
  refine ⟨ps_mono (ps_asg he.pe hg hs hw h1) ?_⟩
  rintro D σ H ⟨B, tp, env, ta, RS, h⟩
  refine on_of RS h fun r t v H1 R1 K1 V1 h1 => ?_
  split at h1
  · rename_i ds
    split at h1
    · rename_i hl
      obtain ⟨a, xs, rfl, hs, r⟩ := V1.tup
      obtain ⟨σ', g1, g2, _⟩ := gNames_ok R1 r hl
      exact ⟨a, xs, rfl, hs, by rw [r.length]; exact hl, g1 _ (h1 tp σ' H1 (.refl _) K1.st g2)⟩
    · exact h1.elim
  · exact h1.elim
/-- a, b = x, y: two locals -/
def par2C (i j : Nat) (fs : List Ev) : Cs := fun env ta => match evs fs env ta with
  | none => none
  | some (.error x, t) => some (.ex x, env, t)
  | some (.ok [p, q], t) => match p.store?, q with
    | some s, .val d => some (.nx, (env.set i s).set j (.val d), t)
    | _, _ => none
  | _ => none
end

/-! ### whole defs -/
def defF (n : Nat) (cs : Cs) : Fn := fun args ta => match cs (args ++ List.replicate (n - args.length) .un) ta with
  | some (.nx, _, t) => if t.isSome = ta.isSome then some (.ok (.val .non), t) else none
  | some (.rt z, _, t) => if t.isSome = ta.isSome then some (.ok z, t) else none
  | some (.ex x, _, t) => if t.isSome = ta.isSome then some (.error x, t) else none
  | _ => none
section
variable {K : PySem.W.Frag} {c : Ct} {tp : Option Addr} {H H0 H1 B : Hp} {ta ta' : TapeO}
theorem RepVs.get : ∀ {vs : List V} {xs : List Sl} {i : Nat} {x : Sl}, RepVs K c tp H0 H vs xs → xs[i]? = some x → ∃ v, vs[i]? = some v ∧ RepV K c tp H0 H v x
  | _, _, i, x, .nil, h => by simp at h
  | _, _, 0, x, .cons h1 h2, h => by simp at h; subst h; exact ⟨_, rfl, h1⟩
  | _, _, i + 1, x, .cons h1 h2, h => by
    obtain ⟨v, e, r⟩ := RepVs.get (i := i) h2 (by simpa using h)
    exact ⟨v, by simpa using e, r⟩
theorem rep_start {N : List Str} {vs : List V} {args : List Sl} (hl : vs.length ≤ N.length) (VS : RepVs K c tp H H vs args) (ok : args.all Sl.arg? = true) (t : TapeR K H tp ta) (tb : LamX.Tabs c.T H) :
    RepS K c H tp (L2.start N vs) H (args ++ List.replicate (N.length - args.length) .un) ta := by
  have hlen := VS.length
  have noOwn : ∀ i a, ¬ OwnAt (args ++ List.replicate (N.length - args.length) Sl.un) (L2.start N vs) i a := fun i a ⟨⟨ds, e⟩, _⟩ => by
    rw [List.getElem?_append] at e
    split at e
    · have hm := List.all_eq_true.mp ok _ (List.mem_of_getElem? e)
      cases hm
    · rw [List.getElem?_replicate] at e
      split at e
      · cases e
      · cases e
  refine ⟨by unfold L2.start; simp; omega, fun i sl e => ?_, fun i a o => (noOwn i a o).elim, fun i j a o _ => (noOwn i a o).elim, t, tb, fun _ _ e _ => e, .refl _⟩
  rw [List.getElem?_append] at e
  split at e
  · rename_i hi
    obtain ⟨v, e1, r⟩ := VS.get e
    have e2 : (L2.start N vs)[i]? = some (some v) := by
      unfold L2.start
      rw [List.getElem?_append_left (by rw [List.length_map]; omega), List.getElem?_map, e1]
      rfl
    have hm := List.all_eq_true.mp ok _ (List.mem_of_getElem? e)
    cases sl with
    | val d => exact ⟨v, e2, r⟩
    | tape => obtain ⟨a, e3, rfl⟩ := r; exact ⟨a, e3, e2⟩
    | _ => cases hm
  · rw [List.getElem?_replicate] at e
    split at e
    · cases e; trivial
    · cases e
theorem RepS.out {σ : L2.St} {env : SE} {tp' : Option Addr} (R : RepS K c H tp' σ H1 env ta') (l : tpLe tp tp') (t : TapeR K H tp ta) (e : ta'.isSome = ta.isSome) : tp' = tp ∧ Kp c tp H H1 := by
  have ht : tp' = tp := by
    rcases l with l | l
    · subst l
      cases ta with
      | some _ => exact t.elim
      | none =>
        cases ta' with
        | some _ => cases e
        | none =>
          cases tp' with
          | none => rfl
          | some _ => exact R.tape.elim
    · exact l
  subst ht
  refine ⟨rfl, R.keep, R.stab, fun a n => ?_⟩
  cases q : H a with
  | none => rfl
  | some o =>
    have := R.keep a o q (R.vol n)
    rw [n] at this; cases this
end
section
variable {P : Program} {w : World} {K : PySem.W.Frag} {mg : Str → Option Value} {base : Heap} {c : Ct}
theorem fn_def {x qual : Str} {st : Stmt} {f : Addr} {fd : FuncData} {N ps : List Str} {k : Nat} {cs : Cs} (F : Fun K x qual st f fd) (S : FnScope N ps (defScope st)) (hNl : ps.length ≤ N.length)
    (hbody : ∀ (cdv : Value) (A : Around) (outer : List Env) (s : Shared) (H : Hp) (E : XK), Room k (A.deeper (envOfC qual (defScope st) s.heap.objs.size f cdv)) →
      PSsv (cxOf (L2.CX P w) P w K mg base N qual (defScope st) f cdv A outer s H E) c (fun cls d _ H' => E cls d H') (defBody st) cs) :
    FnOk P w K mg base (L2.CX P w) (k + 1) f fd ps (FSp K c ps.length (defF N.length cs)) := by
  refine F.okX S (fun vs H Q E h => h.1) fun cdv A outer s H vs Q E hr h => ?_
  obtain ⟨hl, tp, args, ta, VS, ok, t, tb, post⟩ := h
  refine ⟨_, (hbody cdv A outer s H E hr).ps, H, tp, _, ta, rep_start (by rw [hl]; exact hNl) VS ok t tb, ?_⟩
  unfold defF at post
  cases e : cs (args ++ List.replicate (N.length - args.length) .un) ta with
  | none => rw [e] at post; exact post
  | some p =>
    obtain ⟨fl, env, ta'⟩ := p
    rw [e] at post
    cases fl with
    | nx =>
      dsimp only at post
      split at post
      · rename_i ht
        intro tp' σ' H' l st R
        obtain ⟨rfl, k1⟩ := R.out l t ht
        exact post .non H' k1 R.tape R.tabs Rep.non
      · exact post.elim
    | rt z =>
      dsimp only at post
      split at post
      · rename_i ht
        intro tp' σ' H' v l st R V
        obtain ⟨rfl, k1⟩ := R.out l t ht
        exact post v H' k1 R.tape R.tabs V
      · exact post.elim
    | ex x =>
      dsimp only at post
      split at post
      · rename_i ht
        intro tp' σ' H' cls d l st R er
        obtain ⟨rfl, k1⟩ := R.out l t ht
        exact post cls d H' k1 R.tape R.tabs er
      · exact post.elim
    | bk => exact post.elim
    | ct => exact post.elim
end
end MP

/-! MPi: x op= e, pairs of names, the tape. -/
namespace MP
open PySem PySem.Spec PyProof.Rows L2
section
variable {K : PySem.W.Frag} {c : Ct}
def iaddS : Sl → Sl → Option Sl := opI (fun _ _ => true) fun i j => .int (i + j)
def imulS : Sl → Sl → Option Sl := opI mulOk fun i j => .int (i * j)
theorem ok_iadd : OpOk K c (rI0 fun i j => .int (i + j)) iaddS := opI0_ok fun _ _ _ => .int _
theorem iop_mulW {X : Cx} : OpR X (inplaceOp .Mult) (rI CMulW fun i j => .int (i * j)) := L2.opI fun _ _ _ _ _ _ _ hc q => imul_int q (CMulW.ok hc)
theorem var_of {W : WX} {i : Nat} {σ : L2.St} {H : Hp} {Q : VK} (h : tE K c W (varE i) σ H Q) : ∃ v, σ[i]? = some (some v) ∧ Q v H := by
  obtain ⟨B, tp, env, ta, RS, h⟩ := h
  unfold varE at h
  have sl := fun s e => RS.slot i s e
  cases e : env[i]? with
  | none => rw [e] at h; exact h.elim
  | some s =>
    rw [e] at h
    have q := sl s e
    cases s with
    | un => exact h.elim
    | val d => obtain ⟨v, e1, r⟩ := q; exact ⟨v, e1, EPost.val RS h r⟩
    | own ds =>
      obtain ⟨a, xs, e1, e2, r⟩ := q
      exact ⟨_, e1, EPost.val RS h ⟨a, xs, rfl, e2, (RS.fresh i a ⟨⟨ds, e⟩, e1⟩).2, r⟩⟩
    | bor _ => exact h.elim
    | tape => obtain ⟨a, e1, e2⟩ := q; exact ⟨_, e2, EPost.val RS h ⟨a, e1, rfl⟩⟩
end
def augC (i : Nat) (op : Sl → Sl → Option Sl) (f : Ev) : Cs := asgC i (binE op (varE i) f)
section
variable {X : Cx} {c : Ct} {W : WX} {e : Expr} {fe : Ev} {pos : Pos}
/-- x op= e -/
theorem s_aug {i : Nat} {x : Str} {op : Operator} {r : R2} {o : Sl → Sl → Option Sl} {pos' : Pos} (hr : OpR X (inplaceOp op) r) (ho : OpOk X.K c r o) (hN : X.N.Nodup) (he : PEv X c W e fe) (hi : X.N[i]? = some x := by rfl) (hx : Loc X.env.scope x := by first | exact Or.inl rfl | exact Or.inr rfl)
    (hf : X.fn x = true ∨ X.env.scope.names.lookup x = some .local := by first | exact .inl rfl | exact .inr rfl | assumption) : PSv X c W (.AugAssign (.Name x pos') op e pos) (augC i o fe) := by
  refine ⟨ps_mono (ps_aug hN hi hx he.pe (ti := r) hr hf) ?_⟩
  rintro D σ H ⟨B, tp, env, ta, RS, h⟩
  have h2 := bin_of ho _ _ _ (on_of (f := binE o (varE i) fe) (k := fun r env t => r.store?.map fun s => (.nx, env.set i s, t)) (D := D) (R := fun v H1 => D.nx (σ.set i (some v)) H1) RS h fun r t v H1 R1 K1 V1 h1 => by
    cases es : r.store? with
    | none => rw [es] at h1; exact h1.elim
    | some s => rw [es] at h1; exact h1 tp _ H1 (.refl _) K1.st (RepS.store RS R1 V1 es))
  exact var_of h2
/-- x, y = a, b: two locals -/
theorem s_par2 {i j : Nat} {x y : Str} {a b : Expr} {fs : List Ev} {px py pt : Pos} {kt k2 pt2} (hN : X.N.Nodup) (ha : PAv X c W [a, b] fs)
    (hw : swappedStores [.Tuple [.Name x px, .Name y py] kt pt] (.Tuple [a, b] k2 pt2) X.env = pure (some [x, y])) (hi : X.N[i]? = some x := by rfl) (hj : X.N[j]? = some y := by rfl) (hij : i ≠ j := by decide) (hc : X.calm = true := by rfl)
    (hx : X.env.scope.names.lookup x = some .local := by rfl) (hy : X.env.scope.names.lookup y = some .local := by rfl)
    (hs : swapsWithSole [.Tuple [.Name x px, .Name y py] kt pt] (.Tuple [a, b] k2 pt2) pos.line X.env = pure false := by rfl) :
    PSv X c W (.Assign [.Tuple [.Name x px, .Name y py] kt pt] (.Tuple [a, b] k2 pt2) pos) (par2C i j fs) := by
  refine ⟨ps_mono (ps_par hc hN hi hj hij hx hy ha.pa hw hs) ?_⟩
  rintro D σ H ⟨B, tp, env, ta, RS, h⟩
  refine ⟨B, tp, env, ta, RS, ?_⟩
  unfold par2C at h
  cases q : evs fs env ta with
  | none => rw [q] at h; exact h
  | some p =>
    obtain ⟨r, t⟩ := p
    rw [q] at h
    cases r with
    | error x => exact fun cls d H' R' K' er => h tp σ H' cls d (.refl _) K'.st R' er
    | ok zs =>
      intro vs H1 R1 K1 V1
      split at h
      · rename_i e; cases e
      · rename_i e; cases e
      · rename_i p q' t' e
        cases e
        cases V1 with
        | cons V1 V2 =>
          cases V2 with
          | cons V2 V3 =>
            cases V3
            rename_i v w
            refine ⟨v, w, rfl, ?_⟩
            split at h
            · rename_i s d hs
              have ra := RepS.store (i := i) RS R1 V1 hs
              have rb := RepS.store (i := j) (r := .val d) ra ra V2 rfl
              exact h tp _ H1 (.refl _) K1.st rb
            · exact h.elim
      · exact h.elim
def listOf : Sl → Option (List D)
  | .val (.lst ds) => some ds
  | .own ds => some ds
  | _ => none
def unpLC (js : List Nat) (f : Ev) : Cs := onE f fun r env t => match listOf r with
  | some ds => if ds.length = js.length then some (.nx, setAll js ds env, t) else none
  | none => none
/-- a, b = a list -/
theorem s_unpL {js : List Nat} {es : List Expr} {k : Nat} {tpos : Pos} (he : PEv X c W e fe) (hg : PG X (.Tuple es k tpos) (gLst X.K js.length (gNames js))) (hs : swapsWithSole [.Tuple es k tpos] e pos.line X.env = pure false := by rfl) (hw : swappedStores [.Tuple es k tpos] e X.env = pure none := by rfl)
    (h1 : (assignEach [.Tuple es k tpos] X.env).map (·.2) = [assign (.Tuple es k tpos) X.env] := by rfl) : PSv X c W (.Assign [.Tuple es k tpos] e pos) (unpLC js fe) := by
  refine ⟨ps_mono (ps_asg he.pe hg hs hw h1) ?_⟩
  rintro D σ H ⟨B, tp, env, ta, RS, h⟩
  refine on_of RS h fun r t v H1 R1 K1 V1 h1 => ?_
  cases el : listOf r with
  | none => rw [el] at h1; exact h1.elim
  | some ds =>
    rw [el] at h1
    dsimp only at h1
    split at h1
    · rename_i hl
      have e2 : r.items? = some ds := by
        cases r with
        | val d => cases d <;> first | exact el | cases el
        | own ds => exact el
        | _ => cases el
      obtain ⟨a, xs, rfl, hs, r⟩ := V1.list e2
      obtain ⟨σ', g1, g2, _⟩ := gNames_ok R1 r hl
      exact ⟨a, xs, rfl, hs, by rw [r.length]; exact hl, g1 _ (h1 tp σ' H1 (.refl _) K1.st g2)⟩
    · exact h1.elim
end

/-! ### the tape -/
def Tape.get (t : Tape) : Nat → Option D
  | 0 => some (.lst (t.scr.map D.int))
  | 1 => some (.int t.pos)
  | 2 => some (.int t.left)
  | 3 => some (.int t.seed)
  | _ => none
def Tape.put (t : Tape) (v : Int) : Nat → Option Tape
  | 1 => if 0 ≤ v then some { t with pos := v.toNat } else none
  | 2 => some { t with left := v }
  | 3 => some { t with seed := v }
  | _ => none
def tgetE (i k : Nat) : Ev := fun env ta => match env[i]?, ta with
  | some .tape, some t => (t.get k).map fun d => (.ok (.val d), ta)
  | _, _ => none
def tsetC (i k : Nat) (f : Ev) : Cs := onE f fun r env ta => match env[i]?, ta, r with
  | some .tape, some t, .val (.int v) => (t.put v k).map fun t' => (.nx, env, some t')
  | _, _, _ => none
def tpS (env : SE) (i : Nat) (s : Option Sl) (ta : TapeO) : Option (Fl × SE × TapeO) := match s, ta with
  | some (.own [.lst ds, .int p, .int l, .int s]), none => match ints? ds with
    | some ns => if 0 ≤ p then some (.nx, env.set i .tape, some ⟨ns, p.toNat, l, s⟩) else none
    | none => none
  | _, _ => none
def tapeC (i : Nat) : Cs := fun env ta => tpS env i env[i]? ta
section
variable {K : PySem.W.Frag} {c : Ct} {tp : Option Addr} {H H0 H1 B : Hp} {σ : L2.St} {env : SE} {ta ta' : TapeO}
theorem RepS.tput {a : Addr} {xs : List V} {o : HO} {t' : Tape} (R : RepS K c B (some a) σ H env ta) (h : H a = some (.lst xs)) (ht : TapeAt K (upd H a o) a t') : RepS K c B (some a) σ (upd H a o) env (some t') where
  len := R.len
  slot := fun i sl e => by
    have q := R.slot i sl e
    cases sl with
    | un => exact q
    | val d => obtain ⟨v, e1, r⟩ := q; exact ⟨v, e1, r.st (stab_lst h)⟩
    | own ds =>
      obtain ⟨b, ys, e1, e2, r⟩ := q
      have hb : b ≠ a := fun z => (R.fresh i b ⟨⟨ds, e⟩, e1⟩).2 (.inl (by rw [z]))
      exact ⟨b, ys, e1, by rw [upd_ne hb]; exact e2, r.st (stab_lst h)⟩
    | bor _ => exact q
    | tape => exact q
  fresh := R.fresh
  dist := R.dist
  tape := ht
  tabs := Tabs.upd R.tabs h
  keep := fun b u e n => by
    rw [upd_ne (fun z => n (.inl (by rw [z])))]; exact R.keep b u e n
  stab := R.stab.trans (stab_lst h)
theorem RepS.toTape {i : Nat} {ds : List D} {ns : List Int} {p l s : Int} (R : RepS K c B tp σ H env none) (e : env[i]? = some (.own [.lst ds, .int p, .int l, .int s])) (en : ints? ds = some ns) (hp : 0 ≤ p) :
    ∃ a, RepS K c B (some a) σ H (env.set i .tape) (some ⟨ns, p.toNat, l, s⟩) := by
  obtain ⟨a, xs, ea, hl, r⟩ := R.ownAt e
  have hi : i < env.length := (List.getElem?_eq_some_iff.mp e).1
  have htp : tp = none := by
    have := R.tape
    cases tp with
    | none => rfl
    | some _ => exact this.elim
  subst htp
  have own : ∀ j b, OwnAt (env.set i .tape) σ j b → i ≠ j ∧ OwnAt env σ j b := fun j b o => by
    obtain ⟨⟨fs, e1⟩, e2⟩ := o
    by_cases hj : i = j
    · subst hj; rw [List.getElem?_set_self hi] at e1; cases e1
    · rw [List.getElem?_set_ne hj] at e1; exact ⟨hj, ⟨fs, e1⟩, e2⟩
  have fr := R.fresh i a ⟨⟨_, e⟩, ea⟩
  have vol : ∀ b, ¬ Vol c (some a) b → ¬ Vol c none b := fun b n v => n (v.elim (fun z => by cases z) .inr)
  refine ⟨a, ⟨by rw [List.length_set]; exact R.len, fun j sl e1 => ?_, fun j b o => ?_, fun j1 j2 b o1 o2 => R.dist j1 j2 b (own _ _ o1).2 (own _ _ o2).2, ?_, R.tabs, fun b u e1 n => R.keep b u e1 (vol b n), R.stab⟩⟩
  · by_cases hj : i = j
    · subst hj
      rw [List.getElem?_set_self hi] at e1
      cases e1
      exact ⟨a, rfl, ea⟩
    · rw [List.getElem?_set_ne hj] at e1
      have q := R.slot j sl e1
      cases sl with
      | un => exact q
      | val d => exact q
      | own fs => exact q
      | bor _ => exact q
      | tape => obtain ⟨b, e2, _⟩ := q; cases e2
  · obtain ⟨hij, o'⟩ := own j b o
    have f2 := R.fresh j b o'
    refine ⟨f2.1, fun v => ?_⟩
    rcases v with v | v
    · cases v; exact hij (R.dist i j a ⟨⟨_, e⟩, ea⟩ o')
    · exact f2.2 (.inr v)
  · cases r with
    | cons r0 r =>
      cases r with
      | cons r1 r =>
        cases r with
        | cons r2 r =>
          cases r with
          | cons r3 r =>
            cases r
            cases r1
            cases r2
            cases r3
            cases r0 with
            | lst hz rz =>
              rw [ints?_eq en] at rz
              have := Reps.intsV _ rz
              subst this
              exact ⟨_, by rw [hl, Int.toNat_of_nonneg hp], hz⟩
end
section
variable {X : Cx} {c : Ct} {W : WX} {e : Expr} {f : Ev} {st : Stmt} {cs : Cs} {pos : Pos}
theorem s_tape {i : Nat} (h : PSv X c W st cs) : PSv X c W st (seqC (tapeC i) cs) := by
  refine ⟨⟨fun pins s σ H D I w => ?_⟩⟩
  obtain ⟨B, tp, env, ta, RS, hh⟩ := w
  unfold seqC at hh
  cases q : tapeC i env ta with
  | none => rw [q] at hh; exact hh.elim
  | some z =>
    rw [q] at hh
    unfold tapeC tpS at q
    split at q
    · rename_i ds p l s' e1
      split at q
      · rename_i ns en
        split at q
        · rename_i hp
          cases q
          have htp : tp = none := by
            have := RS.tape
            cases tp with
            | none => rfl
            | some _ => exact this.elim
          subst htp
          obtain ⟨a, R2⟩ := RS.toTape e1 en hp
          refine h.ps.run pins s σ H D I ⟨B, some a, _, _, R2, SPost.le (tp := none) hh (.inl rfl) (.refl _)⟩
        · cases q
      · cases q
    · cases q
/-- d[k], the tape -/
theorem v_tget {i : Nat} {x : Str} {k : Nat} {p kp : Pos} {jj} (hN : X.N[i]? = some x := by rfl) (hv : Vis X.env.scope x := by first | exact Or.inl rfl | exact Or.inr (Or.inl rfl) | exact Or.inr (Or.inr rfl))
    (hd : (x == ("__debug__" : Str)) = false := by decide) (hcd : (x == ("__classdict__" : Str)) = false := by decide) : PEv X c W (.Subscript (.Name x p) (.Constant (.int (k : Int)) jj kp) pos) (tgetE i k) := by
  refine ⟨pe_mono (pe_ix ix_list (pe_var hN hv hd hcd) pe_int (fun _ _ => rfl)) ?_⟩
  rintro σ H Q ⟨B, tp, env, ta, RS, h⟩
  unfold tgetE at h
  split at h
  · rename_i t e1
    obtain ⟨a, e2, e3⟩ := RS.slot i _ e1
    subst e2
    obtain ⟨sc, h1, h2⟩ := RS.tape
    have sz : ∀ (k : Nat) (d : D) (v : V), atI [V.ref sc, .int (t.pos : Int), .int t.left, .int t.seed] (k : Int) = some v → Rep X.K H v d → EPost X.K c W B (some a) σ H env (some (.ok (.val d), some t)) Q →
      ∃ x, σ[i]? = some (some x) ∧ rIxL X.K x (.int (k : Int)) H Q := fun k d v e r hh => ⟨_, e3, a, _, (k : Int), _, rfl, rfl, SqL.of h1, e, EPost.val RS hh r⟩
    match k, h with
    | 0, h => exact sz 0 _ _ rfl (Rep.lst h2 (Reps.ints t.scr)) h
    | 1, h => exact sz 1 _ _ rfl (.int _) h
    | 2, h => exact sz 2 _ _ rfl (.int _) h
    | 3, h => exact sz 3 _ _ rfl (.int _) h
    | _ + 4, h => exact h.elim
  · exact h.elim
/-- d[k] = e, the tape -/
theorem s_tset {i : Nat} {x : Str} {k : Nat} {p tpos kp : Pos} {jj} (he : PEv X c W e f) (hN : X.N[i]? = some x := by rfl) (hv : Vis X.env.scope x := by first | exact Or.inl rfl | exact Or.inr (Or.inl rfl) | exact Or.inr (Or.inr rfl))
    (hd : (x == ("__debug__" : Str)) = false := by decide) (hcd : (x == ("__classdict__" : Str)) = false := by decide)
    (hsb : ∀ v, assign (.Subscript (.Name x p) (.Constant (.int (k : Int)) jj kp) tpos) X.env v = (do
      let ov ← holding [v] (eval (.Name x p) X.env)
      let iv ← holding [v, ov] (eval (.Constant (.int (k : Int)) jj kp) X.env)
      standAt tpos
      holding [v, ov, iv] (setItem ov iv v)
      release [v, ov, iv] []) := by exact fun _ => rfl)
    (hs : swapsWithSole [.Subscript (.Name x p) (.Constant (.int (k : Int)) jj kp) tpos] e pos.line X.env = pure false := by rfl) (hw : swappedStores [.Subscript (.Name x p) (.Constant (.int (k : Int)) jj kp) tpos] e X.env = pure none := by rfl)
    (h1 : (assignEach [.Subscript (.Name x p) (.Constant (.int (k : Int)) jj kp) tpos] X.env).map (·.2) = [assign (.Subscript (.Name x p) (.Constant (.int (k : Int)) jj kp) tpos) X.env] := by rfl) :
    PSv X c W (.Assign [.Subscript (.Name x p) (.Constant (.int (k : Int)) jj kp) tpos] e pos) (tsetC i k f) := by
  refine ⟨ps_mono (ps_asg he.pe (pg_sub (pe_var hN hv hd hcd) pe_int set_list hsb) hs hw h1) ?_⟩
  rintro D σ H ⟨B, tp, env, ta, RS, h⟩
  refine on_of RS h fun r t v H1 R1 K1 V1 h1 => ?_
  split at h1
  · rename_i tt z e1
    obtain ⟨a, e2, e3⟩ := R1.slot i _ e1
    subst e2
    obtain ⟨sc, g1, g2⟩ := R1.tape
    have hv := V1.int
    subst hv
    refine ⟨_, e3, a, _, (k : Int), k, rfl, rfl, g1, ?_⟩
    have fin : ∀ (t' : Tape) (m : Nat) (ys : List V), ys = [.ref sc, .int (t'.pos : Int), .int t'.left, .int t'.seed] → t'.scr = tt.scr → SPost X.K c W B (some a) H D (some (.nx, env, some t')) → D.nx σ (upd H1 a (.lst ys)) := by
      intro t' m ys ey es hh
      subst ey
      exact hh (some a) σ _ (.refl _) (K1.st.trans (stab_lst g1)) (R1.tput g1 ⟨sc, upd_same, (stab_lst g1).fz (by rw [es]; exact g2)⟩)
    match k, h1 with
    | 0, h => exact h.elim
    | 1, h =>
      refine ⟨rfl, ?_⟩
      have h : SPost X.K c W B (some a) H D (Option.map (fun t' => (Fl.nx, env, some t')) (if 0 ≤ z then some { tt with pos := z.toNat } else none)) := h
      by_cases hz : 0 ≤ z
      · rw [if_pos hz] at h
        exact fin { tt with pos := z.toNat } 1 _ (by show [V.ref sc, V.int z, _, _] = _; dsimp only; rw [Int.toNat_of_nonneg hz]) rfl h
      · rw [if_neg hz] at h; exact h.elim
    | 2, h => exact ⟨rfl, fin { tt with left := z } 2 _ rfl rfl h⟩
    | 3, h => exact ⟨rfl, fin { tt with seed := z } 3 _ rfl rfl h⟩
    | _ + 4, h => exact h.elim
  · exact h1.elim
end
end MP

/-! MPj: small things, the end. -/
namespace MP
open PySem PySem.Spec PyProof.Rows L2
def mulS : Sl → Sl → Option Sl := opI mulOk fun i j => .int (i * j)
theorem ok_mul {K : PySem.W.Frag} {c : Ct} : OpOk K c (rI CMulW fun i j => .int (i * j)) mulS := ok_mulI
theorem hu65 {k : Nat} {A : Around} (r : Room k A) : A.units + 65 < cLine := by have := r.un; omega
theorem FzL.of_only {K : PySem.W.Frag} {H : Hp} {a : Addr} {xs : List V} (h : Only H) (s : SqL K H a xs) : FzL K H a xs := by
  rcases s with (e | ⟨o, e⟩) | e
  · rcases h a with n | ⟨o, ys, n⟩
    · rw [n] at e; cases e
    · rw [n] at e; cases e
  · exact .inl ⟨o, e⟩
  · exact .inr e
/-- the promise of law: True comes out -/
def LSp (K : PySem.W.Frag) (c : Ct) (n : Nat) (cs : Cs) : Sp := fun vs H Q E => ∃ args, vs.length = 1 ∧ RepVs K c none H H vs args ∧ args.all Sl.arg? = true ∧ LamX.Tabs c.T H ∧
  (∃ env t, cs (args ++ List.replicate (n - args.length) .un) none = some (.rt (.val (.bl true)), env, t)) ∧ ∀ H', Q (.bl true) H'
section
variable {P : Program} {w : World} {K : PySem.W.Frag} {mg : Str → Option Value} {base : Heap} {c : Ct}
theorem fn_law {x qual : Str} {st : Stmt} {f : Addr} {fd : FuncData} {N ps : List Str} {k : Nat} {cs : Cs} (F : Fun K x qual st f fd) (S : FnScope N ps (defScope st)) (hNl : ps.length ≤ N.length) (hps : ps.length = 1)
    (hbody : ∀ (cdv : Value) (A : Around) (outer : List Env) (s : Shared) (H : Hp) (E : XK), Room k (A.deeper (envOfC qual (defScope st) s.heap.objs.size f cdv)) →
      PSsv (cxOf (L2.CX P w) P w K mg base N qual (defScope st) f cdv A outer s H E) c (fun cls d _ H' => E cls d H') (defBody st) cs) :
    FnOk P w K mg base (L2.CX P w) (k + 1) f fd ps (LSp K c N.length cs) := by
  refine F.okX S (fun vs H Q E h => by obtain ⟨_, h, _⟩ := h; rw [hps]; exact h) fun cdv A outer s H vs Q E hr h => ?_
  obtain ⟨args, hl, VS, ok, tb, ⟨env, t, e⟩, post⟩ := h
  refine ⟨_, (hbody cdv A outer s H E hr).ps, H, none, _, none, rep_start (by rw [hl, ← hps]; exact hNl) VS ok trivial tb, ?_⟩
  rw [e]
  intro tp' σ' H' v l st R V
  rw [RepV.bl V]
  exact post H'
end
theorem lsp_law {K : PySem.W.Frag} {n : Nat} {cs : Cs} {H : Hp} {a : Addr} {ns : List Int} (hO : Only H) (hS : SqL K H a (ns.map V.int)) (hΦ : ∃ env t, cs ([.val (.lst (ns.map D.int))] ++ List.replicate (n - 1) .un) none = some (.rt (.val (.bl true)), env, t)) :
    LSp K ⟨[], 0⟩ n cs [.ref a] H (fun v _ => v = .bl true) fun _ _ _ => False :=
  ⟨[.val (.lst (ns.map D.int))], rfl, .cons (Rep.lst (FzL.of_only hO hS) (Reps.ints ns)) .nil, rfl, (fun p hp => by cases hp), hΦ, fun _ => rfl⟩
theorem cx_false {P : Program} {w : World} {H : Hp} {s : Shared} {e : Value} {s' : Shared} (h : L2.CX P w [] H s (fun _ _ _ => False) e s') : False := by
  obtain ⟨_, _, _, _, _, _, _, _, _, _, _, _, z⟩ := h
  exact z
end MP

/-! MPk: how the plain meaning is reckoned; the tape's two defs. -/
namespace MP
open PySem PySem.Spec PyProof.Rows L2
abbrev I (i : Int) : Sl := .val (.int i)
abbrev Bo (b : Bool) : Sl := .val (.bl b)
theorem while_step {t : Tv} {f : Cs} {n : Nat} {env : SE} {ta : TapeO} : whileC t f (n + 1) env ta = (match t env ta with
    | none => none
    | some (.error x, ta') => some (.ex x, env, ta')
    | some (.ok false, ta') => some (.nx, env, ta')
    | some (.ok true, ta') => match f env ta' with
      | some (.nx, e', t') => whileC t f n e' t'
      | some (.ct, e', t') => whileC t f n e' t'
      | some (.bk, e', t') => some (.nx, e', t')
      | r => r) := rfl
/-! ### the steps of the plain meaning -/
section
variable {α β : Type}
def kX (r : Option (Except Str α × TapeO)) (k : α → TapeO → Option (Except Str β × TapeO)) : Option (Except Str β × TapeO) := match r with
  | none => none
  | some (.error x, t) => some (.error x, t)
  | some (.ok a, t) => k a t
@[simp] theorem kX_ok {a : α} {t : TapeO} {k : α → TapeO → Option (Except Str β × TapeO)} : kX (some (.ok a, t)) k = k a t := Eq.trans rfl rfl
@[simp] theorem kX_none {k : α → TapeO → Option (Except Str β × TapeO)} : kX none k = none := Eq.trans rfl rfl
@[simp] theorem kX_err {x : Str} {t : TapeO} {k : α → TapeO → Option (Except Str β × TapeO)} : kX (some (.error x, t)) k = some (.error x, t) := Eq.trans rfl rfl
def kS (r : Option (Except Str α × TapeO)) (env : SE) (k : α → TapeO → Option (Fl × SE × TapeO)) : Option (Fl × SE × TapeO) := match r with
  | none => none
  | some (.error x, t) => some (.ex x, env, t)
  | some (.ok a, t) => k a t
@[simp] theorem kS_ok {a : α} {t : TapeO} {env : SE} {k : α → TapeO → Option (Fl × SE × TapeO)} : kS (some (.ok a, t)) env k = k a t := Eq.trans rfl rfl
@[simp] theorem kS_none {env : SE} {k : α → TapeO → Option (Fl × SE × TapeO)} : kS none env k = none := Eq.trans rfl rfl
@[simp] theorem kS_err {x : Str} {t : TapeO} {env : SE} {k : α → TapeO → Option (Fl × SE × TapeO)} : kS (some (.error x, t)) env k = some (.ex x, env, t) := Eq.trans rfl rfl
def kQ (r : Option (Fl × SE × TapeO)) (k : SE → TapeO → Option (Fl × SE × TapeO)) : Option (Fl × SE × TapeO) := match r with
  | some (.nx, e, t) => k e t
  | r => r
@[simp] theorem kQ_nx {e : SE} {t : TapeO} {k : SE → TapeO → Option (Fl × SE × TapeO)} : kQ (some (.nx, e, t)) k = k e t := Eq.trans rfl rfl
@[simp] theorem kQ_none {k : SE → TapeO → Option (Fl × SE × TapeO)} : kQ none k = none := Eq.trans rfl rfl
@[simp] theorem kQ_rt {z : Sl} {e : SE} {t : TapeO} {k : SE → TapeO → Option (Fl × SE × TapeO)} : kQ (some (.rt z, e, t)) k = some (.rt z, e, t) := Eq.trans rfl rfl
@[simp] theorem kQ_bk {e : SE} {t : TapeO} {k : SE → TapeO → Option (Fl × SE × TapeO)} : kQ (some (.bk, e, t)) k = some (.bk, e, t) := Eq.trans rfl rfl
@[simp] theorem kQ_ct {e : SE} {t : TapeO} {k : SE → TapeO → Option (Fl × SE × TapeO)} : kQ (some (.ct, e, t)) k = some (.ct, e, t) := Eq.trans rfl rfl
@[simp] theorem kQ_ex {x : Str} {e : SE} {t : TapeO} {k : SE → TapeO → Option (Fl × SE × TapeO)} : kQ (some (.ex x, e, t)) k = some (.ex x, e, t) := Eq.trans rfl rfl
/-- a turn of a loop -/
def kL (r : Option (Fl × SE × TapeO)) (k : SE → TapeO → Option (Fl × SE × TapeO)) : Option (Fl × SE × TapeO) := match r with
  | some (.nx, e, t) => k e t
  | some (.ct, e, t) => k e t
  | some (.bk, e, t) => some (.nx, e, t)
  | r => r
@[simp] theorem kL_nx {e : SE} {t : TapeO} {k : SE → TapeO → Option (Fl × SE × TapeO)} : kL (some (.nx, e, t)) k = k e t := Eq.trans rfl rfl
@[simp] theorem kL_ct {e : SE} {t : TapeO} {k : SE → TapeO → Option (Fl × SE × TapeO)} : kL (some (.ct, e, t)) k = k e t := Eq.trans rfl rfl
@[simp] theorem kL_bk {e : SE} {t : TapeO} {k : SE → TapeO → Option (Fl × SE × TapeO)} : kL (some (.bk, e, t)) k = some (.nx, e, t) := Eq.trans rfl rfl
@[simp] theorem kL_none {k : SE → TapeO → Option (Fl × SE × TapeO)} : kL none k = none := Eq.trans rfl rfl
@[simp] theorem kL_rt {z : Sl} {e : SE} {t : TapeO} {k : SE → TapeO → Option (Fl × SE × TapeO)} : kL (some (.rt z, e, t)) k = some (.rt z, e, t) := Eq.trans rfl rfl
@[simp] theorem kL_ex {x : Str} {e : SE} {t : TapeO} {k : SE → TapeO → Option (Fl × SE × TapeO)} : kL (some (.ex x, e, t)) k = some (.ex x, e, t) := Eq.trans rfl rfl
/-- the end of a def -/
def kR (ta : TapeO) (r : Option (Fl × SE × TapeO)) : Option (Except Str Sl × TapeO) := match r with
  | some (.nx, _, t) => if t.isSome = ta.isSome then some (.ok (.val .non), t) else none
  | some (.rt z, _, t) => if t.isSome = ta.isSome then some (.ok z, t) else none
  | some (.ex x, _, t) => if t.isSome = ta.isSome then some (.error x, t) else none
  | _ => none
@[simp] theorem kR_nx {e : SE} {t ta : TapeO} : kR ta (some (.nx, e, t)) = if t.isSome = ta.isSome then some (.ok (.val .non), t) else none := Eq.trans rfl rfl
@[simp] theorem kR_rt {z : Sl} {e : SE} {t ta : TapeO} : kR ta (some (.rt z, e, t)) = if t.isSome = ta.isSome then some (.ok z, t) else none := Eq.trans rfl rfl
@[simp] theorem kR_ex {x : Str} {e : SE} {t ta : TapeO} : kR ta (some (.ex x, e, t)) = if t.isSome = ta.isSome then some (.error x, t) else none := Eq.trans rfl rfl
@[simp] theorem kR_none {ta : TapeO} : kR ta none = none := Eq.trans rfl rfl
def rdS (s : Option Sl) (ta : TapeO) : Option (Except Str Sl × TapeO) := match s with
  | some (.val d) => some (.ok (.val d), ta)
  | some (.own ds) => some (.ok (.bor ds), ta)
  | some .tape => some (.ok .tape, ta)
  | _ => none
@[simp] theorem rdS_val {d : D} {ta : TapeO} : rdS (some (.val d)) ta = some (.ok (.val d), ta) := Eq.trans rfl rfl
@[simp] theorem rdS_own {d : List D} {ta : TapeO} : rdS (some (.own d)) ta = some (.ok (.bor d), ta) := Eq.trans rfl rfl
@[simp] theorem rdS_tape {ta : TapeO} : rdS (some .tape) ta = some (.ok .tape, ta) := Eq.trans rfl rfl
def rtS (s : Option Sl) (env : SE) (ta : TapeO) : Option (Fl × SE × TapeO) := match s with
  | some (.val d) => some (.rt (.val d), env, ta)
  | some (.own ds) => some (.rt (.own ds), env, ta)
  | some .tape => some (.rt .tape, env, ta)
  | _ => none
@[simp] theorem rtS_val {d : D} {env : SE} {ta : TapeO} : rtS (some (.val d)) env ta = some (.rt (.val d), env, ta) := Eq.trans rfl rfl
@[simp] theorem rtS_own {d : List D} {env : SE} {ta : TapeO} : rtS (some (.own d)) env ta = some (.rt (.own d), env, ta) := Eq.trans rfl rfl
@[simp] theorem rtS_tape {env : SE} {ta : TapeO} : rtS (some .tape) env ta = some (.rt .tape, env, ta) := Eq.trans rfl rfl
def escS : Sl → TapeO → Option (Except Str Sl × TapeO)
  | .val d, t => some (.ok (.val d), t)
  | .own ds, t => some (.ok (.val (.lst ds)), t)
  | .tape, t => some (.ok .tape, t)
  | _, _ => none
@[simp] theorem escS_val {d : D} {t : TapeO} : escS (.val d) t = some (.ok (.val d), t) := Eq.trans rfl rfl
@[simp] theorem escS_own {d : List D} {t : TapeO} : escS (.own d) t = some (.ok (.val (.lst d)), t) := Eq.trans rfl rfl
end
section
variable {f g h : Ev} {t u : Tv} {op op' : Sl → Sl → Option Sl} {fs : List Ev} {env : SE} {ta : TapeO} {i j n : Nat} {cs ds : Cs} {it : Iv} {tg : Tg}
@[simp] theorem varE_ap : varE i env ta = rdS env[i]? ta := by
  unfold varE
  rcases env[i]? with _ | s
  · rfl
  · cases s <;> rfl
@[simp] theorem cstE_ap {d : D} : cstE d env ta = some (.ok (.val d), ta) := Eq.trans rfl rfl
theorem bindE_ap {k : Sl → Ev} : bindE f k env ta = kX (f env ta) fun r t => k r env t := by
  unfold bindE
  rcases f env ta with _ | ⟨_ | _, _⟩ <;> rfl
theorem bindT_ap {k : Bool → Tv} : bindT t k env ta = kX (t env ta) fun r t => k r env t := by
  unfold bindT
  rcases t env ta with _ | ⟨_ | _, _⟩ <;> rfl
theorem onE_ap {k : Sl → Cs} : onE f k env ta = kS (f env ta) env fun r t => k r env t := by
  unfold onE
  rcases f env ta with _ | ⟨_ | _, _⟩ <;> rfl
theorem kX_ext {α β : Type} {r : Option (Except Str α × TapeO)} {k k' : α → TapeO → Option (Except Str β × TapeO)} (h : ∀ a t, k a t = k' a t) : kX r k = kX r k' := by
  have : k = k' := funext fun a => funext fun t => h a t
  rw [this]
theorem kS_ext {α : Type} {r : Option (Except Str α × TapeO)} {env : SE} {k k' : α → TapeO → Option (Fl × SE × TapeO)} (h : ∀ a t, k a t = k' a t) : kS r env k = kS r env k' := by
  have : k = k' := funext fun a => funext fun t => h a t
  rw [this]
theorem binE_ap0 : binE op f g env ta = kX (f env ta) fun x t => kX (g env t) fun y t2 => (op x y).map fun z => (.ok z, t2) := by
  unfold binE
  rw [bindE_ap]
  refine kX_ext fun x t => ?_
  rw [bindE_ap]
theorem unE_ap0 {o : Sl → Option Sl} : unE o f env ta = kX (f env ta) fun x t => (o x).map fun z => (.ok z, t) := by
  unfold unE
  rw [bindE_ap]
theorem ofE_ap0 : ofE f env ta = kX (f env ta) fun r t => (truthS r).map fun b => (.ok b, t) := by
  unfold ofE
  rcases f env ta with _ | ⟨_ | _, _⟩ <;> rfl
theorem notT_ap0 : notT t env ta = kX (t env ta) fun b t1 => some (.ok (!b), t1) := by
  unfold notT
  rw [bindT_ap]
theorem andT_ap0 : andT t u env ta = kX (t env ta) fun b t1 => if b = true then u env t1 else some (.ok false, t1) := by
  unfold andT
  rw [bindT_ap]
  refine kX_ext fun b t1 => ?_
  cases b <;> rfl
theorem orT_ap0 : orT t u env ta = kX (t env ta) fun b t1 => if b = true then some (.ok true, t1) else u env t1 := by
  unfold orT
  rw [bindT_ap]
  refine kX_ext fun b t1 => ?_
  cases b <;> rfl
def blS : Sl → Option Bool
  | .val (.bl b) => some b
  | _ => none
@[simp] theorem blS_bl {b : Bool} : blS (.val (.bl b)) = some b := rfl
def kO {α β : Type} (r : Option α) (k : α → Option β) : Option β := match r with
  | some a => k a
  | none => none
@[simp] theorem kO_some {α β : Type} {a : α} {k : α → Option β} : kO (some a) k = k a := Eq.trans rfl rfl
@[simp] theorem kO_none {α β : Type} {k : α → Option β} : kO none k = none := Eq.trans rfl rfl
theorem notE_ap0 : notE f env ta = kX (f env ta) fun x t1 => kO (blS x) fun b => some (.ok (.val (.bl (!b))), t1) := by
  unfold notE
  rw [bindE_ap]
  refine kX_ext fun x t1 => ?_
  rcases x with _ | d | _ | _ | _ <;> first | rfl | (cases d <;> rfl)
theorem andE_ap0 : andE f g env ta = kX (f env ta) fun x t1 => kO (blS x) fun b => if b = true then g env t1 else some (.ok (.val (.bl false)), t1) := by
  unfold andE
  rw [bindE_ap]
  refine kX_ext fun x t1 => ?_
  rcases x with _ | d | _ | _ | _ <;> first | rfl | (rcases d with _ | b | _ | _ | _ | _ <;> first | rfl | (cases b <;> rfl))
theorem orE_ap0 : orE f g env ta = kX (f env ta) fun x t1 => kO (blS x) fun b => if b = true then some (.ok (.val (.bl true)), t1) else g env t1 := by
  unfold orE
  rw [bindE_ap]
  refine kX_ext fun x t1 => ?_
  rcases x with _ | d | _ | _ | _ <;> first | rfl | (rcases d with _ | b | _ | _ | _ | _ <;> first | rfl | (cases b <;> rfl))
theorem ifE_ap0 : ifE t f g env ta = kX (t env ta) fun b t1 => if b = true then f env t1 else g env t1 := by
  unfold ifE
  rcases t env ta with _ | ⟨_ | b, _⟩ <;> first | rfl | (cases b <;> rfl)
@[simp] theorem evs_nil : evs [] env ta = some (.ok [], ta) := Eq.trans rfl rfl
theorem evs_cons0 : evs (f :: fs) env ta = kX (f env ta) fun r t1 => kX (evs fs env t1) fun rs t2 => some (.ok (r :: rs), t2) := by
  rw [evs]
  rcases f env ta with _ | ⟨_ | a, t⟩
  · rfl
  · rfl
  · show _ = kX (evs fs env t) _
    dsimp only
    rcases evs fs env t with _ | ⟨_ | _, _⟩ <;> rfl
theorem callE_ap0 {o : List Sl → Option Sl} : callE o fs env ta = kX (evs fs env ta) fun rs t1 => (o rs).map fun z => (.ok z, t1) := by
  unfold callE
  rcases evs fs env ta with _ | ⟨_ | _, _⟩ <;> rfl
theorem callF_ap0 {Φ : Fn} : callF Φ fs env ta = kX (evs fs env ta) fun rs t1 => if rs.all Sl.arg? = true then Φ rs t1 else none := by
  unfold callF
  rcases evs fs env ta with _ | ⟨_ | _, _⟩ <;> rfl
theorem lstE_ap0 : lstE fs env ta = kX (evs fs env ta) fun rs t1 => (vals? rs).map fun ds => (.ok (.own ds), t1) := by
  unfold lstE dispE
  rcases evs fs env ta with _ | ⟨_ | _, _⟩ <;> rfl
theorem tupE_ap0 : tupE fs env ta = kX (evs fs env ta) fun rs t1 => (vals? rs).map fun ds => (.ok (.val (.tup ds)), t1) := by
  unfold tupE dispE
  rcases evs fs env ta with _ | ⟨_ | _, _⟩ <;> rfl
@[simp] theorem vals_nil : vals? [] = some [] := rfl
@[simp] theorem vals_cons {d : D} {r : List Sl} : vals? (.val d :: r) = (vals? r).map (d :: ·) := rfl
@[simp] theorem arg_val {d : D} : Sl.arg? (.val d) = true := rfl
@[simp] theorem arg_tape : Sl.arg? .tape = true := rfl
theorem escE_ap0 : escE f env ta = kX (f env ta) escS := by
  unfold escE
  rw [bindE_ap]
  refine kX_ext fun x t1 => ?_
  cases x <;> rfl
theorem chainE_ap0 : chainE op op' f g h env ta = kX (f env ta) fun x t1 => kX (g env t1) fun y t2 => kO ((op x y).bind blS) fun b => if b = true then kX (h env t2) fun z t3 => (op' y z).map fun w => (.ok w, t3) else some (.ok (.val (.bl false)), t2) := by
  unfold chainE
  rw [bindE_ap]
  refine kX_ext fun x t1 => ?_
  rw [bindE_ap]
  refine kX_ext fun y t2 => ?_
  rcases op x y with _ | z
  · rfl
  · rcases z with _ | d | _ | _ | _ <;> first | rfl | skip
    rcases d with _ | b | _ | _ | _ | _ <;> first | rfl | skip
    cases b
    · rfl
    · dsimp only
      rw [bindE_ap]
      rfl
@[simp] theorem store_val {d : D} : Sl.store? (.val d) = some (.val d) := rfl
@[simp] theorem store_own {d : List D} : Sl.store? (.own d) = some (.own d) := rfl
@[simp] theorem store_tape : Sl.store? .tape = some .tape := rfl
theorem asgC_ap0 : asgC i f env ta = kS (f env ta) env fun r t1 => r.store?.map fun s => (.nx, env.set i s, t1) := by
  unfold asgC; rw [onE_ap]
theorem augC_ap0 : augC i op f env ta = kS (binE op (varE i) f env ta) env fun r t1 => r.store?.map fun s => (.nx, env.set i s, t1) := by unfold augC; rw [asgC_ap0]
theorem retC_ap0 : retC f env ta = kS (f env ta) env fun r t1 => r.store?.map fun s => (.rt s, env, t1) := by
  unfold retC; rw [onE_ap]
@[simp] theorem retNC_ap : retNC env ta = some (.rt (.val .non), env, ta) := Eq.trans rfl rfl
@[simp] theorem retVC_ap : retVC i env ta = rtS env[i]? env ta := by
  unfold retVC
  rcases env[i]? with _ | s
  · rfl
  · cases s <;> rfl
theorem dropC_ap0 : dropC f env ta = kS (f env ta) env fun _ t1 => some (.nx, env, t1) := by
  unfold dropC; rw [onE_ap]
@[simp] theorem skipC_ap : skipC env ta = some (.nx, env, ta) := Eq.trans rfl rfl
@[simp] theorem breakC_ap : breakC env ta = some (.bk, env, ta) := Eq.trans rfl rfl
@[simp] theorem contC_ap : contC env ta = some (.ct, env, ta) := Eq.trans rfl rfl
@[simp] theorem neverC_ap : neverC env ta = none := Eq.trans rfl rfl
@[simp] theorem seqC_ap : seqC cs ds env ta = kQ (cs env ta) ds := by
  unfold seqC
  rcases cs env ta with _ | ⟨fl, _, _⟩
  · rfl
  · cases fl <;> rfl
theorem ifC_ap0 : ifC t cs ds env ta = kS (t env ta) env fun b t1 => if b = true then cs env t1 else ds env t1 := by
  unfold ifC
  rcases t env ta with _ | ⟨_ | b, _⟩ <;> first | rfl | (cases b <;> rfl)
theorem while_ap0 : whileC t cs (n + 1) env ta = kS (t env ta) env fun b t1 => if b = true then kL (cs env t1) (whileC t cs n) else some (.nx, env, t1) := by
  rw [while_step]
  rcases t env ta with _ | ⟨_ | b, t1⟩
  · rfl
  · rfl
  · cases b
    · rfl
    · show _ = kL (cs env t1) _
      dsimp only
      rcases cs env t1 with _ | ⟨fl, _, _⟩
      · rfl
      · cases fl <;> rfl
theorem forC_ap0 : forC it tg cs env ta = kS (it env ta) env fun ds t1 => forL tg cs ds env t1 := by
  unfold forC
  rcases it env ta with _ | ⟨_ | _, _⟩ <;> rfl
@[simp] theorem forL_nil : forL tg cs [] env ta = some (.nx, env, ta) := Eq.trans rfl rfl
theorem forL_cons0 {d : D} {l : List D} : forL tg cs (d :: l) env ta = kO (tg.set d env) fun env1 => kL (cs env1 ta) (forL tg cs l) := by
  rw [forL]
  dsimp only
  rcases tg.set d env with _ | env1
  · rfl
  · show _ = kL (cs env1 ta) _
    (try dsimp only)
    rcases cs env1 ta with _ | ⟨fl, _, _⟩
    · rfl
    · cases fl <;> rfl
@[simp] theorem set_one {d : D} : Tg.set (.one j) d env = some (env.set j (.val d)) := rfl
@[simp] theorem set_tup {js : List Nat} {l : List D} : Tg.set (.tup js) (.tup l) env = if l.length = js.length then some (setAll js l env) else none := rfl
@[simp] theorem setAll_nil {l : List D} : setAll [] l env = env := by cases l <;> rfl
@[simp] theorem setAll_cons {js : List Nat} {d : D} {l : List D} : setAll (j :: js) (d :: l) env = setAll js l (env.set j (.val d)) := rfl
def frzOf : Sl → Option (List D)
  | .val (.tup ds) => some ds
  | .val (.lst ds) => some ds
  | _ => none
@[simp] theorem frzOf_tup {l : List D} : frzOf (.val (.tup l)) = some l := rfl
@[simp] theorem frzOf_lst {l : List D} : frzOf (.val (.lst l)) = some l := rfl
theorem seqF_ap0 : seqF f env ta = kX (f env ta) fun r t1 => (frzOf r).map fun l => (.ok l, t1) := by
  unfold seqF
  rcases f env ta with _ | ⟨_ | r, _⟩
  · rfl
  · rfl
  · rcases r with _ | d | _ | _ | _ <;> first | rfl | (cases d <;> rfl)
@[simp] theorem seq_tup {l : List D} : Sl.seq? (.val (.tup l)) = some l := rfl
@[simp] theorem seq_lst {l : List D} : Sl.seq? (.val (.lst l)) = some l := rfl
@[simp] theorem seq_own {l : List D} : Sl.seq? (.own l) = some l := rfl
@[simp] theorem seq_bor {l : List D} : Sl.seq? (.bor l) = some l := rfl
@[simp] theorem items_lst {l : List D} : Sl.items? (.val (.lst l)) = some l := rfl
@[simp] theorem items_own {l : List D} : Sl.items? (.own l) = some l := rfl
@[simp] theorem items_bor {l : List D} : Sl.items? (.bor l) = some l := rfl
@[simp] theorem dat_val {d : D} : Sl.dat? (.val d) = some d := rfl
@[simp] theorem dat_own {l : List D} : Sl.dat? (.own l) = some (.lst l) := rfl
@[simp] theorem dat_bor {l : List D} : Sl.dat? (.bor l) = some (.lst l) := rfl
theorem seqI_ap0 : seqI f env ta = kX (f env ta) fun r t1 => r.seq?.map fun l => (.ok l, t1) := by
  unfold seqI
  rcases f env ta with _ | ⟨_ | _, _⟩ <;> rfl
theorem argI_ap0 {o : List Sl → Option (List D)} : argI o fs env ta = kX (evs fs env ta) fun rs t1 => (o rs).map fun l => (.ok l, t1) := by
  unfold argI
  rcases evs fs env ta with _ | ⟨_ | _, _⟩ <;> rfl
def tupOf : Sl → Option (List D)
  | .val (.tup ds) => some ds
  | _ => none
@[simp] theorem tupOf_tup {l : List D} : tupOf (.val (.tup l)) = some l := rfl
theorem unpC_ap0 {js : List Nat} : unpC js f env ta = kS (f env ta) env fun r t1 => kO (tupOf r) fun l => if l.length = js.length then some (.nx, setAll js l env, t1) else none := by
  unfold unpC
  rw [onE_ap]
  refine kS_ext fun r t1 => ?_
  rcases r with _ | d | _ | _ | _ <;> first | rfl | (cases d <;> rfl)
theorem unpLC_ap0 {js : List Nat} : unpLC js f env ta = kS (f env ta) env fun r t1 => kO (listOf r) fun l => if l.length = js.length then some (.nx, setAll js l env, t1) else none := by
  unfold unpLC
  rw [onE_ap]
  refine kS_ext fun r t1 => ?_
  rcases listOf r with _ | _ <;> rfl
@[simp] theorem listOf_own {l : List D} : listOf (.own l) = some l := rfl
@[simp] theorem listOf_lst {l : List D} : listOf (.val (.lst l)) = some l := rfl
def parS (i j : Nat) (env : SE) (rs : List Sl) (t : TapeO) : Option (Fl × SE × TapeO) := match rs with
  | [p, .val d] => p.store?.map fun s => (.nx, (env.set i s).set j (.val d), t)
  | _ => none
@[simp] theorem parS_two {p : Sl} {d : D} : parS i j env [p, .val d] ta = p.store?.map fun s => (.nx, (env.set i s).set j (.val d), ta) := Eq.trans rfl rfl
theorem par2C_ap0 : par2C i j fs env ta = kS (evs fs env ta) env (parS i j env) := by
  unfold par2C
  rcases evs fs env ta with _ | ⟨_ | rs, t⟩
  · rfl
  · rfl
  · show _ = parS i j env rs t
    (try dsimp only)
    match rs with
    | [] => rfl
    | [_] => rfl
    | [p, q] =>
      dsimp only
      cases hp : p.store? <;> cases q <;> simp [parS, hp]
    | a :: b :: c :: l => cases b <;> rfl
@[simp] theorem yesT_ap : yesT env ta = some (.ok true, ta) := Eq.trans rfl rfl
@[simp] theorem compL_nil : compL tg t f [] env ta = some ([], ta) := Eq.trans rfl rfl
def kC {β : Type} (r : Option (Except Str Sl × TapeO)) (k : D → TapeO → Option β) : Option β := match r with
  | some (.ok (.val d), t) => k d t
  | _ => none
@[simp] theorem kC_val {β : Type} {d : D} {t : TapeO} {k : D → TapeO → Option β} : kC (some (.ok (.val d), t)) k = k d t := Eq.trans rfl rfl
def kD {β : Type} (r : Option (Except Str Bool × TapeO)) (k : Bool → TapeO → Option β) : Option β := match r with
  | some (.ok b, t) => k b t
  | _ => none
@[simp] theorem kD_ok {β : Type} {b : Bool} {t : TapeO} {k : Bool → TapeO → Option β} : kD (some (.ok b, t)) k = k b t := Eq.trans rfl rfl
theorem compL_cons0 {d : D} {l : List D} : compL tg t f (d :: l) env ta = kO (tg.set d env) fun env1 => kD (t env1 ta) fun b t1 => if b = true then kC (f env1 t1) fun y t2 => (compL tg t f l env t2).map fun p => (y :: p.1, p.2) else compL tg t f l env t1 := by
  rw [compL]
  rcases tg.set d env with _ | env1
  · rfl
  · show _ = kD (t env1 ta) _
    (try dsimp only)
    rcases t env1 ta with _ | ⟨_ | b, t1⟩
    · rfl
    · rfl
    · cases b
      · rfl
      · show _ = kC (f env1 t1) _
        (try dsimp only)
        rcases f env1 t1 with _ | ⟨_ | r, t2⟩
        · rfl
        · rfl
        · cases r <;> rfl
theorem compE_ap0 {vs : List Nat} : compE it vs tg t f env ta = kX (it env ta) fun l t1 => if l.length < LIM then (compL tg t f l (wipeE env vs) t1).map fun p => (.ok (.own p.1), p.2) else none := by
  unfold compE
  rcases it env ta with _ | ⟨_ | _, _⟩ <;> rfl
@[simp] theorem wipe_nil : wipeE env [] = env := rfl
@[simp] theorem wipe_cons {v : Nat} {vs : List Nat} : wipeE env (v :: vs) = (wipeE env vs).set v .un := rfl
theorem defF_ap {args : List Sl} : defF n cs args ta = kR ta (cs (args ++ List.replicate (n - args.length) .un) ta) := by
  unfold defF
  rcases cs (args ++ List.replicate (n - args.length) .un) ta with _ | ⟨fl, _, _⟩
  · rfl
  · cases fl <;> rfl
def frzS (env : SE) (i : Nat) (s : Option Sl) (ta : TapeO) : Option (Fl × SE × TapeO) := match s with
  | some (.own ds) => some (.nx, env.set i (.val (.lst ds)), ta)
  | some _ => some (.nx, env, ta)
  | none => none
@[simp] theorem frzS_own {l : List D} : frzS env i (some (.own l)) ta = some (.nx, env.set i (.val (.lst l)), ta) := Eq.trans rfl rfl
@[simp] theorem frzS_val {d : D} : frzS env i (some (.val d)) ta = some (.nx, env, ta) := Eq.trans rfl rfl
@[simp] theorem frzS_tape : frzS env i (some .tape) ta = some (.nx, env, ta) := Eq.trans rfl rfl
@[simp] theorem frzS_un : frzS env i (some .un) ta = some (.nx, env, ta) := Eq.trans rfl rfl
@[simp] theorem frzC_ap : frzC i env ta = frzS env i env[i]? ta := by
  unfold frzC
  rcases env[i]? with _ | s
  · rfl
  · cases s <;> rfl
def ownOf : Option Sl → Option (List D)
  | some (.own l) => some l
  | _ => none
@[simp] theorem ownOf_own {l : List D} : ownOf (some (.own l)) = some l := rfl
def valOf : Sl → Option D
  | .val d => some d
  | _ => none
@[simp] theorem valOf_val {d : D} : valOf (.val d) = some d := rfl
def intOf : Sl → Option Int
  | .val (.int i) => some i
  | _ => none
@[simp] theorem intOf_int {i : Int} : intOf (.val (.int i)) = some i := rfl
theorem appC_ap0 : appC i f env ta = kO (ownOf env[i]?) fun l => kS (f env ta) env fun r t1 => kO (valOf r) fun d => if l.length < LIM then some (.nx, env.set i (.own (l ++ [d])), t1) else none := by
  unfold appC
  rcases env[i]? with _ | s
  · rfl
  · cases s <;> first | rfl | skip
    show onE _ _ _ _ = kS _ _ _
    rw [onE_ap]
    refine kS_ext fun r t1 => ?_
    cases r <;> rfl
theorem setC_ap0 : setC i f g env ta = kS (f env ta) env fun r t1 => kO (ownOf env[i]?) fun l => kS (g env t1) env fun q t2 => kO (valOf r) fun d => kO (intOf q) fun k => (ixN l.length k).map fun m => (.nx, env.set i (.own (l.set m d)), t2) := by
  unfold setC
  rw [onE_ap]
  refine kS_ext fun r t1 => ?_
  (try dsimp only)
  rcases env[i]? with _ | s
  · rfl
  · cases s <;> first | rfl | skip
    show onE _ _ _ _ = kS _ _ _
    rw [onE_ap]
    refine kS_ext fun q t2 => ?_
    rcases r with _ | d | _ | _ | _ <;> first | rfl | (rcases q with _ | d2 | _ | _ | _ <;> first | rfl | (cases d2 <;> rfl))
def tgS (k : Nat) (s : Option Sl) (ta : TapeO) : Option (Except Str Sl × TapeO) := match s, ta with
  | some .tape, some t => (t.get k).map fun d => (.ok (.val d), ta)
  | _, _ => none
@[simp] theorem tgS_tape {k : Nat} {t : Tape} : tgS k (some .tape) (some t) = (t.get k).map fun d => (.ok (.val d), some t) := Eq.trans rfl rfl
@[simp] theorem tgetE_ap {k : Nat} : tgetE i k env ta = tgS k env[i]? ta := by
  unfold tgetE
  rcases env[i]? with _ | s
  · rfl
  · cases s <;> cases ta <;> rfl
def tsS (k : Nat) (env : SE) (s : Option Sl) (r : Sl) (ta : TapeO) : Option (Fl × SE × TapeO) := match s, ta, r with
  | some .tape, some t, .val (.int v) => (t.put v k).map fun t' => (.nx, env, some t')
  | _, _, _ => none
@[simp] theorem tsS_tape {k : Nat} {t : Tape} {v : Int} : tsS k env (some .tape) (.val (.int v)) (some t) = (t.put v k).map fun t' => (.nx, env, some t') := Eq.trans rfl rfl
theorem tsetC_ap0 {k : Nat} : tsetC i k f env ta = kS (f env ta) env fun r t1 => tsS k env env[i]? r t1 := by
  unfold tsetC
  rw [onE_ap]
  refine kS_ext fun r t1 => ?_
  (try dsimp only)
  rcases env[i]? with _ | s
  · rfl
  · cases s <;> cases t1 <;> rcases r with _ | d2 | _ | _ | _ <;> first | rfl | (cases d2 <;> rfl)
@[simp] theorem tapeC_ap : tapeC i env ta = tpS env i env[i]? ta := rfl
@[simp] theorem tpS_own {ns : List Int} {p l s : Int} : tpS env i (some (.own [.lst (ns.map D.int), .int p, .int l, .int s])) none = if 0 ≤ p then some (.nx, env.set i .tape, some ⟨ns, p.toNat, l, s⟩) else none := by
  unfold tpS
  dsimp only
  rw [ints?_map]
end
/-! ### the steps without a bound name: what simp reads -/
section
variable {f g h : Ev} {t u : Tv} {op op' : Sl → Sl → Option Sl} {fs : List Ev} {env env1 : SE} {ta t1 : TapeO} {i j n : Nat} {cs ds : Cs} {it : Iv} {tg : Tg} {x y : Sl} {e : Str} {b : Bool} {l : List D} {js vs : List Nat}
abbrev RE := Option (Except Str Sl × TapeO)
abbrev RB := Option (Except Str Bool × TapeO)
abbrev RA := Option (Except Str (List Sl) × TapeO)
abbrev RD := Option (Except Str (List D) × TapeO)
abbrev RC := Option (Fl × SE × TapeO)
def binK2 (op : Sl → Sl → Option Sl) (x : Sl) (r : RE) : RE := kX r fun y t1 => (op x y).map fun z => (.ok z, t1)
@[simp] theorem binK2_ok {op : Sl → Sl → Option Sl} {x : Sl} {y : Sl} {t1 : TapeO} : binK2 op x (some (.ok y, t1)) = (op x y).map fun z => (.ok z, t1) := Eq.trans rfl rfl
@[simp] theorem binK2_none {op : Sl → Sl → Option Sl} {x : Sl} : binK2 op x none = none := Eq.trans rfl rfl
@[simp] theorem binK2_err {op : Sl → Sl → Option Sl} {x : Sl} {e : Str} {t1 : TapeO} : binK2 op x (some (.error e, t1)) = some (.error e, t1) := Eq.trans rfl rfl
def binK1 (op : Sl → Sl → Option Sl) (g : Ev) (env : SE) (r : RE) : RE := kX r fun x t1 => binK2 op x (g env t1)
@[simp] theorem binK1_ok {op : Sl → Sl → Option Sl} {g : Ev} {env : SE} {x : Sl} {t1 : TapeO} : binK1 op g env (some (.ok x, t1)) = binK2 op x (g env t1) := Eq.trans rfl rfl
@[simp] theorem binK1_none {op : Sl → Sl → Option Sl} {g : Ev} {env : SE} : binK1 op g env none = none := Eq.trans rfl rfl
@[simp] theorem binK1_err {op : Sl → Sl → Option Sl} {g : Ev} {env : SE} {e : Str} {t1 : TapeO} : binK1 op g env (some (.error e, t1)) = some (.error e, t1) := Eq.trans rfl rfl
@[simp] theorem binE_ap : binE op f g env ta = binK1 op g env (f env ta) := binE_ap0
def unK (o : Sl → Option Sl) (r : RE) : RE := kX r fun x t1 => (o x).map fun z => (.ok z, t1)
@[simp] theorem unK_ok {o : Sl → Option Sl} {x : Sl} {t1 : TapeO} : unK o (some (.ok x, t1)) = (o x).map fun z => (.ok z, t1) := Eq.trans rfl rfl
@[simp] theorem unK_none {o : Sl → Option Sl} : unK o none = none := Eq.trans rfl rfl
@[simp] theorem unK_err {o : Sl → Option Sl} {e : Str} {t1 : TapeO} : unK o (some (.error e, t1)) = some (.error e, t1) := Eq.trans rfl rfl
@[simp] theorem unE_ap {o : Sl → Option Sl} : unE o f env ta = unK o (f env ta) := unE_ap0
def ofK  (r : RE) : RB := kX r fun x t1 => (truthS x).map fun b => (.ok b, t1)
@[simp] theorem ofK_ok  {x : Sl} {t1 : TapeO} : ofK  (some (.ok x, t1)) = (truthS x).map fun b => (.ok b, t1) := Eq.trans rfl rfl
@[simp] theorem ofK_none  : ofK  none = none := Eq.trans rfl rfl
@[simp] theorem ofK_err  {e : Str} {t1 : TapeO} : ofK  (some (.error e, t1)) = some (.error e, t1) := Eq.trans rfl rfl
@[simp] theorem ofE_ap : ofE f env ta = ofK (f env ta) := ofE_ap0
def notK  (r : RB) : RB := kX r fun b t1 => some (.ok (!b), t1)
@[simp] theorem notK_ok  {b : Bool} {t1 : TapeO} : notK  (some (.ok b, t1)) = some (.ok (!b), t1) := Eq.trans rfl rfl
@[simp] theorem notK_none  : notK  none = none := Eq.trans rfl rfl
@[simp] theorem notK_err  {e : Str} {t1 : TapeO} : notK  (some (.error e, t1)) = some (.error e, t1) := Eq.trans rfl rfl
@[simp] theorem notT_ap : notT t env ta = notK (t env ta) := notT_ap0
def andK (u : Tv) (env : SE) (r : RB) : RB := kX r fun b t1 => if b = true then u env t1 else some (.ok false, t1)
@[simp] theorem andK_ok {u : Tv} {env : SE} {b : Bool} {t1 : TapeO} : andK u env (some (.ok b, t1)) = if b = true then u env t1 else some (.ok false, t1) := Eq.trans rfl rfl
@[simp] theorem andK_none {u : Tv} {env : SE} : andK u env none = none := Eq.trans rfl rfl
@[simp] theorem andK_err {u : Tv} {env : SE} {e : Str} {t1 : TapeO} : andK u env (some (.error e, t1)) = some (.error e, t1) := Eq.trans rfl rfl
@[simp] theorem andT_ap : andT t u env ta = andK u env (t env ta) := andT_ap0
def orK (u : Tv) (env : SE) (r : RB) : RB := kX r fun b t1 => if b = true then some (.ok true, t1) else u env t1
@[simp] theorem orK_ok {u : Tv} {env : SE} {b : Bool} {t1 : TapeO} : orK u env (some (.ok b, t1)) = if b = true then some (.ok true, t1) else u env t1 := Eq.trans rfl rfl
@[simp] theorem orK_none {u : Tv} {env : SE} : orK u env none = none := Eq.trans rfl rfl
@[simp] theorem orK_err {u : Tv} {env : SE} {e : Str} {t1 : TapeO} : orK u env (some (.error e, t1)) = some (.error e, t1) := Eq.trans rfl rfl
@[simp] theorem orT_ap : orT t u env ta = orK u env (t env ta) := orT_ap0
def notEK  (r : RE) : RE := kX r fun x t1 => (blS x).map fun b => (.ok (.val (.bl (!b))), t1)
@[simp] theorem notEK_ok  {x : Sl} {t1 : TapeO} : notEK  (some (.ok x, t1)) = (blS x).map fun b => (.ok (.val (.bl (!b))), t1) := Eq.trans rfl rfl
@[simp] theorem notEK_none  : notEK  none = none := Eq.trans rfl rfl
@[simp] theorem notEK_err  {e : Str} {t1 : TapeO} : notEK  (some (.error e, t1)) = some (.error e, t1) := Eq.trans rfl rfl
@[simp] theorem notE_ap : notE f env ta = notEK (f env ta) := by
  rw [notE_ap0]
  unfold notEK
  refine kX_ext fun x t1 => ?_
  cases blS x <;> rfl
def andB (g : Ev) (env : SE) (t1 : TapeO) (o : Option Bool) : RE := kO o fun b => if b = true then g env t1 else some (.ok (.val (.bl false)), t1)
@[simp] theorem andB_some {g : Ev} {env : SE} {t1 : TapeO} {b : Bool} : andB g env t1 (some b) = if b = true then g env t1 else some (.ok (.val (.bl false)), t1) := Eq.trans rfl rfl
def orB (g : Ev) (env : SE) (t1 : TapeO) (o : Option Bool) : RE := kO o fun b => if b = true then some (.ok (.val (.bl true)), t1) else g env t1
@[simp] theorem orB_some {g : Ev} {env : SE} {t1 : TapeO} {b : Bool} : orB g env t1 (some b) = if b = true then some (.ok (.val (.bl true)), t1) else g env t1 := Eq.trans rfl rfl
def andEK (g : Ev) (env : SE) (r : RE) : RE := kX r fun x t1 => andB g env t1 (blS x)
@[simp] theorem andEK_ok {g : Ev} {env : SE} {x : Sl} {t1 : TapeO} : andEK g env (some (.ok x, t1)) = andB g env t1 (blS x) := Eq.trans rfl rfl
@[simp] theorem andEK_none {g : Ev} {env : SE} : andEK g env none = none := Eq.trans rfl rfl
@[simp] theorem andEK_err {g : Ev} {env : SE} {e : Str} {t1 : TapeO} : andEK g env (some (.error e, t1)) = some (.error e, t1) := Eq.trans rfl rfl
@[simp] theorem andE_ap : andE f g env ta = andEK g env (f env ta) := andE_ap0
def orEK (g : Ev) (env : SE) (r : RE) : RE := kX r fun x t1 => orB g env t1 (blS x)
@[simp] theorem orEK_ok {g : Ev} {env : SE} {x : Sl} {t1 : TapeO} : orEK g env (some (.ok x, t1)) = orB g env t1 (blS x) := Eq.trans rfl rfl
@[simp] theorem orEK_none {g : Ev} {env : SE} : orEK g env none = none := Eq.trans rfl rfl
@[simp] theorem orEK_err {g : Ev} {env : SE} {e : Str} {t1 : TapeO} : orEK g env (some (.error e, t1)) = some (.error e, t1) := Eq.trans rfl rfl
@[simp] theorem orE_ap : orE f g env ta = orEK g env (f env ta) := orE_ap0
def ifEK (f g : Ev) (env : SE) (r : RB) : RE := kX r fun b t1 => if b = true then f env t1 else g env t1
@[simp] theorem ifEK_ok {f g : Ev} {env : SE} {b : Bool} {t1 : TapeO} : ifEK f g env (some (.ok b, t1)) = if b = true then f env t1 else g env t1 := Eq.trans rfl rfl
@[simp] theorem ifEK_none {f g : Ev} {env : SE} : ifEK f g env none = none := Eq.trans rfl rfl
@[simp] theorem ifEK_err {f g : Ev} {env : SE} {e : Str} {t1 : TapeO} : ifEK f g env (some (.error e, t1)) = some (.error e, t1) := Eq.trans rfl rfl
@[simp] theorem ifE_ap : ifE t f g env ta = ifEK f g env (t env ta) := ifE_ap0
def evK2 (x : Sl) (r : RA) : RA := kX r fun rs t1 => some (.ok (x :: rs), t1)
@[simp] theorem evK2_ok {x : Sl} {rs : List Sl} {t1 : TapeO} : evK2 x (some (.ok rs, t1)) = some (.ok (x :: rs), t1) := Eq.trans rfl rfl
@[simp] theorem evK2_none {x : Sl} : evK2 x none = none := Eq.trans rfl rfl
@[simp] theorem evK2_err {x : Sl} {e : Str} {t1 : TapeO} : evK2 x (some (.error e, t1)) = some (.error e, t1) := Eq.trans rfl rfl
def evK1 (fs : List Ev) (env : SE) (r : RE) : RA := kX r fun x t1 => evK2 x (evs fs env t1)
@[simp] theorem evK1_ok {fs : List Ev} {env : SE} {x : Sl} {t1 : TapeO} : evK1 fs env (some (.ok x, t1)) = evK2 x (evs fs env t1) := Eq.trans rfl rfl
@[simp] theorem evK1_none {fs : List Ev} {env : SE} : evK1 fs env none = none := Eq.trans rfl rfl
@[simp] theorem evK1_err {fs : List Ev} {env : SE} {e : Str} {t1 : TapeO} : evK1 fs env (some (.error e, t1)) = some (.error e, t1) := Eq.trans rfl rfl
@[simp] theorem evs_cons : evs (f :: fs) env ta = evK1 fs env (f env ta) := evs_cons0
def callEK (o : List Sl → Option Sl) (r : RA) : RE := kX r fun rs t1 => (o rs).map fun z => (.ok z, t1)
@[simp] theorem callEK_ok {o : List Sl → Option Sl} {rs : List Sl} {t1 : TapeO} : callEK o (some (.ok rs, t1)) = (o rs).map fun z => (.ok z, t1) := Eq.trans rfl rfl
@[simp] theorem callEK_none {o : List Sl → Option Sl} : callEK o none = none := Eq.trans rfl rfl
@[simp] theorem callEK_err {o : List Sl → Option Sl} {e : Str} {t1 : TapeO} : callEK o (some (.error e, t1)) = some (.error e, t1) := Eq.trans rfl rfl
@[simp] theorem callE_ap {o : List Sl → Option Sl} : callE o fs env ta = callEK o (evs fs env ta) := callE_ap0
def callFK (Φ : Fn) (r : RA) : RE := kX r fun rs t1 => if rs.all Sl.arg? = true then Φ rs t1 else none
@[simp] theorem callFK_ok {Φ : Fn} {rs : List Sl} {t1 : TapeO} : callFK Φ (some (.ok rs, t1)) = if rs.all Sl.arg? = true then Φ rs t1 else none := Eq.trans rfl rfl
@[simp] theorem callFK_none {Φ : Fn} : callFK Φ none = none := Eq.trans rfl rfl
@[simp] theorem callFK_err {Φ : Fn} {e : Str} {t1 : TapeO} : callFK Φ (some (.error e, t1)) = some (.error e, t1) := Eq.trans rfl rfl
@[simp] theorem callF_ap {Φ : Fn} : callF Φ fs env ta = callFK Φ (evs fs env ta) := callF_ap0
def lstK  (r : RA) : RE := kX r fun rs t1 => (vals? rs).map fun ds => (.ok (.own ds), t1)
@[simp] theorem lstK_ok  {rs : List Sl} {t1 : TapeO} : lstK  (some (.ok rs, t1)) = (vals? rs).map fun ds => (.ok (.own ds), t1) := Eq.trans rfl rfl
@[simp] theorem lstK_none  : lstK  none = none := Eq.trans rfl rfl
@[simp] theorem lstK_err  {e : Str} {t1 : TapeO} : lstK  (some (.error e, t1)) = some (.error e, t1) := Eq.trans rfl rfl
@[simp] theorem lstE_ap : lstE fs env ta = lstK (evs fs env ta) := lstE_ap0
def tupK  (r : RA) : RE := kX r fun rs t1 => (vals? rs).map fun ds => (.ok (.val (.tup ds)), t1)
@[simp] theorem tupK_ok  {rs : List Sl} {t1 : TapeO} : tupK  (some (.ok rs, t1)) = (vals? rs).map fun ds => (.ok (.val (.tup ds)), t1) := Eq.trans rfl rfl
@[simp] theorem tupK_none  : tupK  none = none := Eq.trans rfl rfl
@[simp] theorem tupK_err  {e : Str} {t1 : TapeO} : tupK  (some (.error e, t1)) = some (.error e, t1) := Eq.trans rfl rfl
@[simp] theorem tupE_ap : tupE fs env ta = tupK (evs fs env ta) := tupE_ap0
def escK  (r : RE) : RE := kX r fun x t1 => escS x t1
@[simp] theorem escK_ok  {x : Sl} {t1 : TapeO} : escK  (some (.ok x, t1)) = escS x t1 := Eq.trans rfl rfl
@[simp] theorem escK_none  : escK  none = none := Eq.trans rfl rfl
@[simp] theorem escK_err  {e : Str} {t1 : TapeO} : escK  (some (.error e, t1)) = some (.error e, t1) := Eq.trans rfl rfl
@[simp] theorem escE_ap : escE f env ta = escK (f env ta) := escE_ap0
def chK4 (op' : Sl → Sl → Option Sl) (y : Sl) (r : RE) : RE := kX r fun z t1 => (op' y z).map fun w => (.ok w, t1)
@[simp] theorem chK4_ok {op' : Sl → Sl → Option Sl} {y : Sl} {z : Sl} {t1 : TapeO} : chK4 op' y (some (.ok z, t1)) = (op' y z).map fun w => (.ok w, t1) := Eq.trans rfl rfl
@[simp] theorem chK4_none {op' : Sl → Sl → Option Sl} {y : Sl} : chK4 op' y none = none := Eq.trans rfl rfl
@[simp] theorem chK4_err {op' : Sl → Sl → Option Sl} {y : Sl} {e : Str} {t1 : TapeO} : chK4 op' y (some (.error e, t1)) = some (.error e, t1) := Eq.trans rfl rfl
def chK3 (op' : Sl → Sl → Option Sl) (h : Ev) (env : SE) (y : Sl) (t2 : TapeO) (o : Option Bool) : RE := kO o fun b => if b = true then chK4 op' y (h env t2) else some (.ok (.val (.bl false)), t2)
@[simp] theorem chK3_some {op' : Sl → Sl → Option Sl} {h : Ev} {env : SE} {y : Sl} {t2 : TapeO} {b : Bool} : chK3 op' h env y t2 (some b) = if b = true then chK4 op' y (h env t2) else some (.ok (.val (.bl false)), t2) := Eq.trans rfl rfl
def chK2 (op op' : Sl → Sl → Option Sl) (x : Sl) (h : Ev) (env : SE) (r : RE) : RE := kX r fun y t1 => chK3 op' h env y t1 ((op x y).bind blS)
@[simp] theorem chK2_ok {op op' : Sl → Sl → Option Sl} {x : Sl} {h : Ev} {env : SE} {y : Sl} {t1 : TapeO} : chK2 op op' x h env (some (.ok y, t1)) = chK3 op' h env y t1 ((op x y).bind blS) := Eq.trans rfl rfl
@[simp] theorem chK2_none {op op' : Sl → Sl → Option Sl} {x : Sl} {h : Ev} {env : SE} : chK2 op op' x h env none = none := Eq.trans rfl rfl
@[simp] theorem chK2_err {op op' : Sl → Sl → Option Sl} {x : Sl} {h : Ev} {env : SE} {e : Str} {t1 : TapeO} : chK2 op op' x h env (some (.error e, t1)) = some (.error e, t1) := Eq.trans rfl rfl
def chK1 (op op' : Sl → Sl → Option Sl) (g h : Ev) (env : SE) (r : RE) : RE := kX r fun x t1 => chK2 op op' x h env (g env t1)
@[simp] theorem chK1_ok {op op' : Sl → Sl → Option Sl} {g h : Ev} {env : SE} {x : Sl} {t1 : TapeO} : chK1 op op' g h env (some (.ok x, t1)) = chK2 op op' x h env (g env t1) := Eq.trans rfl rfl
@[simp] theorem chK1_none {op op' : Sl → Sl → Option Sl} {g h : Ev} {env : SE} : chK1 op op' g h env none = none := Eq.trans rfl rfl
@[simp] theorem chK1_err {op op' : Sl → Sl → Option Sl} {g h : Ev} {env : SE} {e : Str} {t1 : TapeO} : chK1 op op' g h env (some (.error e, t1)) = some (.error e, t1) := Eq.trans rfl rfl
@[simp] theorem chainE_ap : chainE op op' f g h env ta = chK1 op op' g h env (f env ta) := chainE_ap0
def asgK (i : Nat) (env : SE) (r : RE) : RC := kS r env fun x t1 => x.store?.map fun s => (.nx, env.set i s, t1)
@[simp] theorem asgK_ok {i : Nat} {env : SE} {x : Sl} {t1 : TapeO} : asgK i env (some (.ok x, t1)) = x.store?.map fun s => (.nx, env.set i s, t1) := Eq.trans rfl rfl
@[simp] theorem asgK_none {i : Nat} {env : SE} : asgK i env none = none := Eq.trans rfl rfl
@[simp] theorem asgK_err {i : Nat} {env : SE} {e : Str} {t1 : TapeO} : asgK i env (some (.error e, t1)) = some (.ex e, env, t1) := Eq.trans rfl rfl
@[simp] theorem asgC_ap : asgC i f env ta = asgK i env (f env ta) := asgC_ap0
@[simp] theorem augC_ap : augC i op f env ta = asgK i env (binE op (varE i) f env ta) := augC_ap0
def retK (env : SE) (r : RE) : RC := kS r env fun x t1 => x.store?.map fun s => (.rt s, env, t1)
@[simp] theorem retK_ok {env : SE} {x : Sl} {t1 : TapeO} : retK env (some (.ok x, t1)) = x.store?.map fun s => (.rt s, env, t1) := Eq.trans rfl rfl
@[simp] theorem retK_none {env : SE} : retK env none = none := Eq.trans rfl rfl
@[simp] theorem retK_err {env : SE} {e : Str} {t1 : TapeO} : retK env (some (.error e, t1)) = some (.ex e, env, t1) := Eq.trans rfl rfl
@[simp] theorem retC_ap : retC f env ta = retK env (f env ta) := retC_ap0
def dropK (env : SE) (r : RE) : RC := kS r env fun x t1 => some (.nx, env, t1)
@[simp] theorem dropK_ok {env : SE} {x : Sl} {t1 : TapeO} : dropK env (some (.ok x, t1)) = some (.nx, env, t1) := Eq.trans rfl rfl
@[simp] theorem dropK_none {env : SE} : dropK env none = none := Eq.trans rfl rfl
@[simp] theorem dropK_err {env : SE} {e : Str} {t1 : TapeO} : dropK env (some (.error e, t1)) = some (.ex e, env, t1) := Eq.trans rfl rfl
@[simp] theorem dropC_ap : dropC f env ta = dropK env (f env ta) := dropC_ap0
def ifK (cs ds : Cs) (env : SE) (r : RB) : RC := kS r env fun b t1 => if b = true then cs env t1 else ds env t1
@[simp] theorem ifK_ok {cs ds : Cs} {env : SE} {b : Bool} {t1 : TapeO} : ifK cs ds env (some (.ok b, t1)) = if b = true then cs env t1 else ds env t1 := Eq.trans rfl rfl
@[simp] theorem ifK_none {cs ds : Cs} {env : SE} : ifK cs ds env none = none := Eq.trans rfl rfl
@[simp] theorem ifK_err {cs ds : Cs} {env : SE} {e : Str} {t1 : TapeO} : ifK cs ds env (some (.error e, t1)) = some (.ex e, env, t1) := Eq.trans rfl rfl
@[simp] theorem ifC_ap : ifC t cs ds env ta = ifK cs ds env (t env ta) := ifC_ap0
def whK (cs k : Cs) (env : SE) (r : RB) : RC := kS r env fun b t1 => if b = true then kL (cs env t1) k else some (.nx, env, t1)
@[simp] theorem whK_ok {cs k : Cs} {env : SE} {b : Bool} {t1 : TapeO} : whK cs k env (some (.ok b, t1)) = if b = true then kL (cs env t1) k else some (.nx, env, t1) := Eq.trans rfl rfl
@[simp] theorem whK_none {cs k : Cs} {env : SE} : whK cs k env none = none := Eq.trans rfl rfl
@[simp] theorem whK_err {cs k : Cs} {env : SE} {e : Str} {t1 : TapeO} : whK cs k env (some (.error e, t1)) = some (.ex e, env, t1) := Eq.trans rfl rfl
theorem while_ap : whileC t cs (n + 1) env ta = whK cs (whileC t cs n) env (t env ta) := while_ap0
def forK (tg : Tg) (cs : Cs) (env : SE) (r : RD) : RC := kS r env fun l t1 => forL tg cs l env t1
@[simp] theorem forK_ok {tg : Tg} {cs : Cs} {env : SE} {l : List D} {t1 : TapeO} : forK tg cs env (some (.ok l, t1)) = forL tg cs l env t1 := Eq.trans rfl rfl
@[simp] theorem forK_none {tg : Tg} {cs : Cs} {env : SE} : forK tg cs env none = none := Eq.trans rfl rfl
@[simp] theorem forK_err {tg : Tg} {cs : Cs} {env : SE} {e : Str} {t1 : TapeO} : forK tg cs env (some (.error e, t1)) = some (.ex e, env, t1) := Eq.trans rfl rfl
@[simp] theorem forC_ap : forC it tg cs env ta = forK tg cs env (it env ta) := forC_ap0
def forK1 (tg : Tg) (cs : Cs) (l : List D) (ta : TapeO) (o : Option SE) : RC := kO o fun env1 => kL (cs env1 ta) (forL tg cs l)
@[simp] theorem forK1_some : forK1 tg cs l ta (some env1) = kL (cs env1 ta) (forL tg cs l) := Eq.trans rfl rfl
theorem forL_cons {d : D} : forL tg cs (d :: l) env ta = forK1 tg cs l ta (tg.set d env) := forL_cons0
def seqFK  (r : RE) : RD := kX r fun x t1 => (frzOf x).map fun l => (.ok l, t1)
@[simp] theorem seqFK_ok  {x : Sl} {t1 : TapeO} : seqFK  (some (.ok x, t1)) = (frzOf x).map fun l => (.ok l, t1) := Eq.trans rfl rfl
@[simp] theorem seqFK_none  : seqFK  none = none := Eq.trans rfl rfl
@[simp] theorem seqFK_err  {e : Str} {t1 : TapeO} : seqFK  (some (.error e, t1)) = some (.error e, t1) := Eq.trans rfl rfl
@[simp] theorem seqF_ap : seqF f env ta = seqFK (f env ta) := seqF_ap0
def seqIK  (r : RE) : RD := kX r fun x t1 => x.seq?.map fun l => (.ok l, t1)
@[simp] theorem seqIK_ok  {x : Sl} {t1 : TapeO} : seqIK  (some (.ok x, t1)) = x.seq?.map fun l => (.ok l, t1) := Eq.trans rfl rfl
@[simp] theorem seqIK_none  : seqIK  none = none := Eq.trans rfl rfl
@[simp] theorem seqIK_err  {e : Str} {t1 : TapeO} : seqIK  (some (.error e, t1)) = some (.error e, t1) := Eq.trans rfl rfl
@[simp] theorem seqI_ap : seqI f env ta = seqIK (f env ta) := seqI_ap0
def argK (o : List Sl → Option (List D)) (r : RA) : RD := kX r fun rs t1 => (o rs).map fun l => (.ok l, t1)
@[simp] theorem argK_ok {o : List Sl → Option (List D)} {rs : List Sl} {t1 : TapeO} : argK o (some (.ok rs, t1)) = (o rs).map fun l => (.ok l, t1) := Eq.trans rfl rfl
@[simp] theorem argK_none {o : List Sl → Option (List D)} : argK o none = none := Eq.trans rfl rfl
@[simp] theorem argK_err {o : List Sl → Option (List D)} {e : Str} {t1 : TapeO} : argK o (some (.error e, t1)) = some (.error e, t1) := Eq.trans rfl rfl
@[simp] theorem argI_ap {o : List Sl → Option (List D)} : argI o fs env ta = argK o (evs fs env ta) := argI_ap0
def unpB (js : List Nat) (env : SE) (t1 : TapeO) (o : Option (List D)) : RC := kO o fun l => if l.length = js.length then some (.nx, setAll js l env, t1) else none
@[simp] theorem unpB_some : unpB js env t1 (some l) = if l.length = js.length then some (.nx, setAll js l env, t1) else none := Eq.trans rfl rfl
def unpK (js : List Nat) (env : SE) (r : RE) : RC := kS r env fun x t1 => unpB js env t1 (tupOf x)
@[simp] theorem unpK_ok {js : List Nat} {env : SE} {x : Sl} {t1 : TapeO} : unpK js env (some (.ok x, t1)) = unpB js env t1 (tupOf x) := Eq.trans rfl rfl
@[simp] theorem unpK_none {js : List Nat} {env : SE} : unpK js env none = none := Eq.trans rfl rfl
@[simp] theorem unpK_err {js : List Nat} {env : SE} {e : Str} {t1 : TapeO} : unpK js env (some (.error e, t1)) = some (.ex e, env, t1) := Eq.trans rfl rfl
@[simp] theorem unpC_ap : unpC js f env ta = unpK js env (f env ta) := unpC_ap0
def unpLK (js : List Nat) (env : SE) (r : RE) : RC := kS r env fun x t1 => unpB js env t1 (listOf x)
@[simp] theorem unpLK_ok {js : List Nat} {env : SE} {x : Sl} {t1 : TapeO} : unpLK js env (some (.ok x, t1)) = unpB js env t1 (listOf x) := Eq.trans rfl rfl
@[simp] theorem unpLK_none {js : List Nat} {env : SE} : unpLK js env none = none := Eq.trans rfl rfl
@[simp] theorem unpLK_err {js : List Nat} {env : SE} {e : Str} {t1 : TapeO} : unpLK js env (some (.error e, t1)) = some (.ex e, env, t1) := Eq.trans rfl rfl
@[simp] theorem unpLC_ap : unpLC js f env ta = unpLK js env (f env ta) := unpLC_ap0
def parK (i j : Nat) (env : SE) (r : RA) : RC := kS r env fun rs t1 => parS i j env rs t1
@[simp] theorem parK_ok {i j : Nat} {env : SE} {rs : List Sl} {t1 : TapeO} : parK i j env (some (.ok rs, t1)) = parS i j env rs t1 := Eq.trans rfl rfl
@[simp] theorem parK_none {i j : Nat} {env : SE} : parK i j env none = none := Eq.trans rfl rfl
@[simp] theorem parK_err {i j : Nat} {env : SE} {e : Str} {t1 : TapeO} : parK i j env (some (.error e, t1)) = some (.ex e, env, t1) := Eq.trans rfl rfl
@[simp] theorem par2C_ap : par2C i j fs env ta = parK i j env (evs fs env ta) := par2C_ap0
def cK2 (tg : Tg) (t : Tv) (f : Ev) (l : List D) (env : SE) (r : RE) : Option (List D × TapeO) := kC r fun y t2 => (compL tg t f l env t2).map fun p => (y :: p.1, p.2)
@[simp] theorem cK2_ok {d : D} : cK2 tg t f l env (some (.ok (.val d), t1)) = (compL tg t f l env t1).map fun p => (d :: p.1, p.2) := Eq.trans rfl rfl
def cK1 (tg : Tg) (t : Tv) (f : Ev) (l : List D) (env env1 : SE) (r : RB) : Option (List D × TapeO) := kD r fun b t1 => if b = true then cK2 tg t f l env (f env1 t1) else compL tg t f l env t1
@[simp] theorem cK1_ok : cK1 tg t f l env env1 (some (.ok b, t1)) = if b = true then cK2 tg t f l env (f env1 t1) else compL tg t f l env t1 := Eq.trans rfl rfl
def cK0 (tg : Tg) (t : Tv) (f : Ev) (l : List D) (env : SE) (ta : TapeO) (o : Option SE) : Option (List D × TapeO) := kO o fun env1 => cK1 tg t f l env env1 (t env1 ta)
@[simp] theorem cK0_some : cK0 tg t f l env ta (some env1) = cK1 tg t f l env env1 (t env1 ta) := Eq.trans rfl rfl
theorem compL_cons {d : D} : compL tg t f (d :: l) env ta = cK0 tg t f l env ta (tg.set d env) := compL_cons0
def compK (vs : List Nat) (tg : Tg) (t : Tv) (f : Ev) (env : SE) (r : RD) : RE := kX r fun l t1 => if l.length < LIM then (compL tg t f l (wipeE env vs) t1).map fun p => (.ok (.own p.1), p.2) else none
@[simp] theorem compK_ok {vs : List Nat} {tg : Tg} {t : Tv} {f : Ev} {env : SE} {l : List D} {t1 : TapeO} : compK vs tg t f env (some (.ok l, t1)) = if l.length < LIM then (compL tg t f l (wipeE env vs) t1).map fun p => (.ok (.own p.1), p.2) else none := Eq.trans rfl rfl
@[simp] theorem compK_none {vs : List Nat} {tg : Tg} {t : Tv} {f : Ev} {env : SE} : compK vs tg t f env none = none := Eq.trans rfl rfl
@[simp] theorem compK_err {vs : List Nat} {tg : Tg} {t : Tv} {f : Ev} {env : SE} {e : Str} {t1 : TapeO} : compK vs tg t f env (some (.error e, t1)) = some (.error e, t1) := Eq.trans rfl rfl
@[simp] theorem compE_ap : compE it vs tg t f env ta = compK vs tg t f env (it env ta) := compE_ap0
def appB (i : Nat) (env : SE) (l : List D) (t1 : TapeO) (o : Option D) : RC := kO o fun d => if l.length < LIM then some (.nx, env.set i (.own (l ++ [d])), t1) else none
@[simp] theorem appB_some {d : D} : appB i env l t1 (some d) = if l.length < LIM then some (.nx, env.set i (.own (l ++ [d])), t1) else none := Eq.trans rfl rfl
def appK2 (i : Nat) (env : SE) (l : List D) (r : RE) : RC := kS r env fun x t1 => appB i env l t1 (valOf x)
@[simp] theorem appK2_ok {i : Nat} {env : SE} {l : List D} {x : Sl} {t1 : TapeO} : appK2 i env l (some (.ok x, t1)) = appB i env l t1 (valOf x) := Eq.trans rfl rfl
@[simp] theorem appK2_none {i : Nat} {env : SE} {l : List D} : appK2 i env l none = none := Eq.trans rfl rfl
@[simp] theorem appK2_err {i : Nat} {env : SE} {l : List D} {e : Str} {t1 : TapeO} : appK2 i env l (some (.error e, t1)) = some (.ex e, env, t1) := Eq.trans rfl rfl
def appK1 (i : Nat) (f : Ev) (env : SE) (ta : TapeO) (o : Option (List D)) : RC := kO o fun l => appK2 i env l (f env ta)
@[simp] theorem appK1_some : appK1 i f env ta (some l) = appK2 i env l (f env ta) := Eq.trans rfl rfl
@[simp] theorem appC_ap : appC i f env ta = appK1 i f env ta (ownOf env[i]?) := appC_ap0
def setB (i : Nat) (env : SE) (l : List D) (d : Option D) (k : Option Int) (t2 : TapeO) : RC := kO d fun d => kO k fun k => (ixN l.length k).map fun m => (.nx, env.set i (.own (l.set m d)), t2)
@[simp] theorem setB_some {d : D} {k : Int} : setB i env l (some d) (some k) t1 = (ixN l.length k).map fun m => (.nx, env.set i (.own (l.set m d)), t1) := Eq.trans rfl rfl
def setK2 (i : Nat) (env : SE) (l : List D) (x : Sl) (r : RE) : RC := kS r env fun q t1 => setB i env l (valOf x) (intOf q) t1
@[simp] theorem setK2_ok {i : Nat} {env : SE} {l : List D} {x : Sl} {q : Sl} {t1 : TapeO} : setK2 i env l x (some (.ok q, t1)) = setB i env l (valOf x) (intOf q) t1 := Eq.trans rfl rfl
@[simp] theorem setK2_none {i : Nat} {env : SE} {l : List D} {x : Sl} : setK2 i env l x none = none := Eq.trans rfl rfl
@[simp] theorem setK2_err {i : Nat} {env : SE} {l : List D} {x : Sl} {e : Str} {t1 : TapeO} : setK2 i env l x (some (.error e, t1)) = some (.ex e, env, t1) := Eq.trans rfl rfl
def setK1 (i : Nat) (g : Ev) (env : SE) (x : Sl) (t1 : TapeO) (o : Option (List D)) : RC := kO o fun l => setK2 i env l x (g env t1)
@[simp] theorem setK1_some : setK1 i g env x t1 (some l) = setK2 i env l x (g env t1) := Eq.trans rfl rfl
def setK (i : Nat) (g : Ev) (env : SE) (r : RE) : RC := kS r env fun x t1 => setK1 i g env x t1 (ownOf env[i]?)
@[simp] theorem setK_ok {i : Nat} {g : Ev} {env : SE} {x : Sl} {t1 : TapeO} : setK i g env (some (.ok x, t1)) = setK1 i g env x t1 (ownOf env[i]?) := Eq.trans rfl rfl
@[simp] theorem setK_none {i : Nat} {g : Ev} {env : SE} : setK i g env none = none := Eq.trans rfl rfl
@[simp] theorem setK_err {i : Nat} {g : Ev} {env : SE} {e : Str} {t1 : TapeO} : setK i g env (some (.error e, t1)) = some (.ex e, env, t1) := Eq.trans rfl rfl
@[simp] theorem setC_ap : setC i f g env ta = setK i g env (f env ta) := setC_ap0
def tsetK (k : Nat) (env : SE) (s : Option Sl) (r : RE) : RC := kS r env fun x t1 => tsS k env s x t1
@[simp] theorem tsetK_ok {k : Nat} {env : SE} {s : Option Sl} {x : Sl} {t1 : TapeO} : tsetK k env s (some (.ok x, t1)) = tsS k env s x t1 := Eq.trans rfl rfl
@[simp] theorem tsetK_none {k : Nat} {env : SE} {s : Option Sl} : tsetK k env s none = none := Eq.trans rfl rfl
@[simp] theorem tsetK_err {k : Nat} {env : SE} {s : Option Sl} {e : Str} {t1 : TapeO} : tsetK k env s (some (.error e, t1)) = some (.ex e, env, t1) := Eq.trans rfl rfl
@[simp] theorem tsetC_ap {k : Nat} : tsetC i k f env ta = tsetK k env env[i]? (f env ta) := tsetC_ap0
end
/-! ### operations -/
theorem eq_int (i j : Int) : eqS (.val (.int i)) (.val (.int j)) = some (.val (.bl (decide (i = j)))) := by
  unfold eqS eqC
  simp [Sl.dat?, D.py, SeqAt.shaped, PyData.canLay0, PyData.depth, PyData.eqv]
  by_cases h : i = j <;> simp [h]
theorem ne_int (i j : Int) : neS (.val (.int i)) (.val (.int j)) = some (.val (.bl (!decide (i = j)))) := by
  unfold neS eqC
  simp [Sl.dat?, D.py, SeqAt.shaped, PyData.canLay0, PyData.depth, PyData.eqv]
  by_cases h : i = j <;> simp [h]
theorem add_int (i j : Int) : addS (.val (.int i)) (.val (.int j)) = some (.val (.int (i + j))) := rfl
theorem sub_int (i j : Int) : subS (.val (.int i)) (.val (.int j)) = some (.val (.int (i - j))) := rfl
theorem iadd_int' (i j : Int) : iaddS (.val (.int i)) (.val (.int j)) = some (.val (.int (i + j))) := rfl
theorem lt_int (i j : Int) : ltS (.val (.int i)) (.val (.int j)) = some (.val (.bl (decide (i < j)))) := rfl
theorem le_int (i j : Int) : leS (.val (.int i)) (.val (.int j)) = some (.val (.bl (decide (i ≤ j)))) := rfl
theorem gt_int (i j : Int) : gtS (.val (.int i)) (.val (.int j)) = some (.val (.bl (decide (j < i)))) := rfl
theorem ge_int (i j : Int) : geS (.val (.int i)) (.val (.int j)) = some (.val (.bl (decide (j ≤ i)))) := rfl
theorem mod_int {i j : Int} (h : 0 < j) : modS (.val (.int i)) (.val (.int j)) = some (.val (.int (i % j))) := by
  unfold modS opI; simp [h]
theorem log2_lt {n k : Nat} (h : n < 2 ^ k) (hk : 0 < k) : n.log2 < k := by
  by_cases hz : n = 0
  · subst hz; simpa using hk
  · exact (Nat.log2_lt hz).mpr h
theorem mulOk_of {i j : Int} (h1 : -(2 ^ 64) < i) (h2 : i < 2 ^ 64) (h3 : -(2 ^ 64) < j) (h4 : j < 2 ^ 64) : mulOk i j = true := by
  unfold mulOk
  have a : i.natAbs < 2 ^ 64 := by omega
  have b : j.natAbs < 2 ^ 64 := by omega
  have := log2_lt a (by decide)
  have := log2_lt b (by decide)
  simp; omega
theorem mul_int {i j : Int} (h1 : -(2 ^ 64) < i) (h2 : i < 2 ^ 64) (h3 : -(2 ^ 64) < j) (h4 : j < 2 ^ 64) : mulS (.val (.int i)) (.val (.int j)) = some (.val (.int (i * j))) := by
  unfold mulS opI; simp [mulOk_of h1 h2 h3 h4]
theorem divOk_of {j : Int} (h1 : 0 < j) (h2 : j < 2 ^ 64) : divOk j = true := by
  unfold divOk
  have a : j.natAbs < 2 ^ 64 := by omega
  have := log2_lt a (by decide)
  simp; omega
theorem fdiv_int {i j : Int} (h1 : 0 < j) (h2 : j < 2 ^ 64) : fdivS (.val (.int i)) (.val (.int j)) = some (.val (.int (i / j))) := by
  unfold fdivS opI; simp [divOk_of h1 h2]
theorem pow_int {i j : Int} (h1 : 0 ≤ j) (h2 : j ≤ 1000000) (h3 : i.natAbs < 2 ^ 64) : powS (.val (.int i)) (.val (.int j)) = some (.val (.int (i ^ j.toNat))) := by
  unfold powS opI powOk; simp [h1, h2, h3]
theorem ix_at {x : Sl} {ds : List D} {i : Int} {d : D} (e : x.seq? = some ds) (h0 : 0 ≤ i) (h : ds[i.toNat]? = some d) : ixS x (.val (.int i)) = some (.val d) := by
  unfold ixS
  rw [e]
  have hl : i.toNat < ds.length := by
    rcases Nat.lt_or_ge i.toNat ds.length with q | q
    · exact q
    · rw [List.getElem?_eq_none q] at h; cases h
  show (atI ds i).map Sl.val = _
  unfold atI ixN
  rw [if_pos h0, if_pos (by omega)]
  show (ds[i.toNat]?).map Sl.val = _
  rw [h]; rfl
theorem mapInt_get {ns : List Int} {i : Nat} (h : i < ns.length) : (ns.map D.int)[i]? = some (D.int ns[i]) := by simp [h]

/-! ### the tape's defs -/
def beginC : Cs :=
  (seqC (asgC 1 (cstE (.int 1)))
  (seqC (forC (seqF (varE 0)) (.one 2) (asgC 1 (binE modS (binE addS (binE addS (binE mulS (varE 1) (cstE (.int 69621))) (binE modS (callE intS [(varE 2)]) (cstE (.int 2147483629)))) (cstE (.int 7))) (cstE (.int 2147483647)))))
  (retC (lstE [(escE (callE listS [(varE 0)])), (cstE (.int 0)), (cstE (.int 0)), (varE 1)]))))
def takeC : Cs :=
  (seqC (ifC (andT (ofE (binE eqS (tgetE 0 2) (cstE (.int 0)))) (ofE (binE ltS (tgetE 0 1) (callE lenS [(tgetE 0 0)])))) (seqC (tsetC 0 2 (callE absS [(callE intS [(binE ixS (tgetE 0 0) (tgetE 0 1))])]))
  (seqC (tsetC 0 1 (binE addS (tgetE 0 1) (cstE (.int 1))))
  (ifC (ofE (binE ltS (tgetE 0 2) (binE powS (cstE (.int 10)) (cstE (.int 18))))) (seqC (asgC 2 (callE intS [(tgetE 0 2)]))
  (seqC (tsetC 0 2 (cstE (.int 0)))
  (retC (binE modS (varE 2) (varE 1))))) skipC))) skipC)
  (seqC (ifC (ofE (binE gtS (tgetE 0 2) (cstE (.int 0)))) (seqC (asgC 3 (binE modS (callE intS [(tgetE 0 2)]) (varE 1)))
  (seqC (tsetC 0 2 (binE fdivS (callE intS [(tgetE 0 2)]) (varE 1)))
  (retVC 3))) skipC)
  (seqC (tsetC 0 3 (binE modS (callE intS [(binE addS (binE mulS (tgetE 0 3) (cstE (.int 48271))) (cstE (.int 11)))]) (cstE (.int 2147483647))))
  (retC (binE modS (callE intS [(binE fdivS (tgetE 0 3) (cstE (.int 3)))]) (varE 1))))))
def beginF : Fn := defF 3 beginC
def takeF : Fn := defF 4 takeC
structure TOk (t : Tape) : Prop where
  left : 0 ≤ t.left
  s0 : 0 ≤ t.seed
  s1 : t.seed < 2147483647
@[simp] theorem int_call (i : Int) : intS [.val (.int i)] = some (.val (.int i)) := rfl
@[simp] theorem abs_call (i : Int) : absS [.val (.int i)] = some (.val (.int (if i < 0 then -i else i))) := rfl
@[simp] theorem len_call {x : Sl} {l : List D} (h : x.seq? = some l) : lenS [x] = some (.val (.int l.length)) := by
  unfold lenS; dsimp only; rw [h]
@[simp] theorem truth_bl (b : Bool) : truthS (.val (.bl b)) = some b := rfl
@[simp] theorem truth_int (i : Int) : truthS (.val (.int i)) = some (i != 0) := rfl
theorem begin_loop (sc : Sl) : ∀ (ns : List Int) (seed : Int) (z : Sl), 0 ≤ seed → seed < 2147483647 →
    ∃ seed' z', 0 ≤ seed' ∧ seed' < 2147483647 ∧ forL (.one 2) (asgC 1 (binE modS (binE addS (binE addS (binE mulS (varE 1) (cstE (.int 69621))) (binE modS (callE intS [(varE 2)]) (cstE (.int 2147483629)))) (cstE (.int 7))) (cstE (.int 2147483647)))) (ns.map D.int) [sc, .val (.int seed), z] none = some (.nx, [sc, .val (.int seed'), z'], none)
  | [], seed, z, h0, h1 => ⟨seed, z, h0, h1, rfl⟩
  | n :: ns, seed, z, h0, h1 => by
    have hm := @mul_int seed 69621 (by omega) (by omega) (by omega) (by omega)
    obtain ⟨s', z', a, b, e⟩ := begin_loop sc ns ((seed * 69621 + n % 2147483629 + 7) % 2147483647) (.val (.int n)) (Int.emod_nonneg _ (by decide)) (Int.emod_lt_of_pos _ (by decide))
    refine ⟨s', z', a, b, ?_⟩
    rw [List.map_cons, forL_cons]
    simp [hm, mod_int, add_int, e]
theorem begin_ok (ns : List Int) : ∃ seed, 0 ≤ seed ∧ seed < 2147483647 ∧ beginF [.val (.lst (ns.map D.int))] none = some (.ok (.own [.lst (ns.map D.int), .int 0, .int 0, .int seed]), none) := by
  obtain ⟨s', z', a, b, e⟩ := begin_loop (.val (.lst (ns.map D.int))) ns 1 .un (by decide) (by decide)
  refine ⟨s', a, b, ?_⟩
  unfold beginF beginC
  rw [defF_ap]
  simp [e, listS]
theorem take_ok (t : Tape) (hT : TOk t) (m : Int) (h1 : 1 ≤ m) (h2 : m < 2 ^ 62) :
    ∃ d t', 0 ≤ d ∧ d < m ∧ TOk t' ∧ takeF [.tape, .val (.int m)] (some t) = some (.ok (.val (.int d)), some t') := by
  obtain ⟨hl, h0, hs⟩ := hT
  have mp : 0 < m := by omega
  have fd := fun i => @fdiv_int i m mp (by omega)
  have mo := fun i => @mod_int i m mp
  have f3 := fun i => @fdiv_int i 3 (by decide) (by decide)
  have m7 := fun i => @mod_int i 2147483647 (by decide)
  have p18 := @pow_int 10 18 (by decide) (by decide) (by decide)
  have mm := @mul_int t.seed 48271 (by omega) (by omega) (by omega) (by omega)
  have nn : ∀ i, 0 ≤ i % m := fun i => Int.emod_nonneg _ (by omega)
  have ll : ∀ i, i % m < m := fun i => Int.emod_lt_of_pos _ mp
  have mid : ∀ t' : Tape, 0 ≤ t'.left → t'.seed = t.seed → ∃ d t'' e', 0 ≤ d ∧ d < m ∧ TOk t'' ∧
      (seqC (ifC (ofE (binE gtS (tgetE 0 2) (cstE (.int 0)))) (seqC (asgC 3 (binE modS (callE intS [(tgetE 0 2)]) (varE 1)))
        (seqC (tsetC 0 2 (binE fdivS (callE intS [(tgetE 0 2)]) (varE 1)))
        (retVC 3))) skipC)
        (seqC (tsetC 0 3 (binE modS (callE intS [(binE addS (binE mulS (tgetE 0 3) (cstE (.int 48271))) (cstE (.int 11)))]) (cstE (.int 2147483647))))
        (retC (binE modS (callE intS [(binE fdivS (tgetE 0 3) (cstE (.int 3)))]) (varE 1))))) [.tape, .val (.int m), .un, .un] (some t') = some (.rt (.val (.int d)), e', some t'') := by
    intro t' e1 e2
    by_cases hz : t'.left = 0
    · refine ⟨((t.seed * 48271 + 11) % 2147483647 / 3) % m, { t' with seed := (t.seed * 48271 + 11) % 2147483647 }, [.tape, .val (.int m), .un, .un], nn _, ll _, ⟨by simp [hz], Int.emod_nonneg _ (by decide), Int.emod_lt_of_pos _ (by decide)⟩, ?_⟩
      simp [Tape.get, Tape.put, gt_int, hz, e2, mm, add_int, m7, f3, mo]
    · have hp : 0 < t'.left := by omega
      refine ⟨t'.left % m, { t' with left := t'.left / m }, [.tape, .val (.int m), .un, .val (.int (t'.left % m))], nn _, ll _, ⟨Int.ediv_nonneg e1 (by omega), by simp [e2, h0], by simp [e2, hs]⟩, ?_⟩
      simp [Tape.get, Tape.put, gt_int, hp, mo, fd]
  unfold takeF takeC
  rw [defF_ap]
  by_cases hc : t.left = 0 ∧ t.pos < t.scr.length
  · obtain ⟨hz, hp⟩ := hc
    have hg : ixS (.val (.lst (t.scr.map D.int))) (.val (.int (t.pos : Int))) = some (.val (.int t.scr[t.pos])) := ix_at rfl (by omega) (by simp [hp])
    have hp' : ((t.pos : Int) + 1).toNat = t.pos + 1 := by omega
    have hp2 : (0 : Int) ≤ (t.pos : Int) + 1 := by omega
    by_cases hlt : (if t.scr[t.pos] < 0 then -t.scr[t.pos] else t.scr[t.pos]) < 1000000000000000000
    · refine ⟨(if t.scr[t.pos] < 0 then -t.scr[t.pos] else t.scr[t.pos]) % m, { t with pos := t.pos + 1, left := 0 }, nn _, ll _, ⟨Int.le_refl _, h0, hs⟩, ?_⟩
      simp [Tape.get, Tape.put, eq_int, lt_int, hz, hp, hg, add_int, hp2, hp', p18, hlt, mo]
    · obtain ⟨d, t'', e', a, b, c, e⟩ := mid { t with pos := t.pos + 1, left := (if t.scr[t.pos] < 0 then -t.scr[t.pos] else t.scr[t.pos]) } (by
        have hq : (0 : Int) ≤ if t.scr[t.pos] < 0 then -t.scr[t.pos] else t.scr[t.pos] := by split <;> omega
        exact hq) rfl
      refine ⟨d, t'', a, b, c, ?_⟩
      rw [seqC_ap]
      have e0 : ifC (andT (ofE (binE eqS (tgetE 0 2) (cstE (.int 0)))) (ofE (binE ltS (tgetE 0 1) (callE lenS [(tgetE 0 0)])))) (seqC (tsetC 0 2 (callE absS [(callE intS [(binE ixS (tgetE 0 0) (tgetE 0 1))])]))
          (seqC (tsetC 0 1 (binE addS (tgetE 0 1) (cstE (.int 1))))
          (ifC (ofE (binE ltS (tgetE 0 2) (binE powS (cstE (.int 10)) (cstE (.int 18))))) (seqC (asgC 2 (callE intS [(tgetE 0 2)]))
          (seqC (tsetC 0 2 (cstE (.int 0)))
          (retC (binE modS (varE 2) (varE 1))))) skipC))) skipC [.tape, .val (.int m), .un, .un] (some t) = some (.nx, [.tape, .val (.int m), .un, .un], some { t with pos := t.pos + 1, left := (if t.scr[t.pos] < 0 then -t.scr[t.pos] else t.scr[t.pos]) }) := by
        simp [Tape.get, Tape.put, eq_int, lt_int, hz, hp, hg, add_int, hp2, hp', p18, hlt]
      show kR _ (kQ (ifC _ _ _ [.tape, .val (.int m), .un, .un] (some t)) _) = _
      rw [e0, kQ_nx, e]
      rfl
  · obtain ⟨d, t'', e', a, b, c, e⟩ := mid t hl rfl
    refine ⟨d, t'', a, b, c, ?_⟩
    rw [seqC_ap]
    have e0 : ifC (andT (ofE (binE eqS (tgetE 0 2) (cstE (.int 0)))) (ofE (binE ltS (tgetE 0 1) (callE lenS [(tgetE 0 0)])))) (seqC (tsetC 0 2 (callE absS [(callE intS [(binE ixS (tgetE 0 0) (tgetE 0 1))])]))
        (seqC (tsetC 0 1 (binE addS (tgetE 0 1) (cstE (.int 1))))
        (ifC (ofE (binE ltS (tgetE 0 2) (binE powS (cstE (.int 10)) (cstE (.int 18))))) (seqC (asgC 2 (callE intS [(tgetE 0 2)]))
        (seqC (tsetC 0 2 (cstE (.int 0)))
        (retC (binE modS (varE 2) (varE 1))))) skipC))) skipC [.tape, .val (.int m), .un, .un] (some t) = some (.nx, [.tape, .val (.int m), .un, .un], some t) := by
      by_cases z : t.left = 0
      · have h' : ¬ t.pos < t.scr.length := fun q => hc ⟨z, q⟩
        simp [Tape.get, eq_int, lt_int, z, h']
      · simp [Tape.get, eq_int, z]
    show kR _ (kQ (ifC _ _ _ [.tape, .val (.int m), .un, .un] (some t)) _) = _
    rw [e0, kQ_nx, e]
    rfl
open Classical in
noncomputable def takeP (t : Tape) (m : Int) : Int × Tape := if h : TOk t ∧ 1 ≤ m ∧ m < 2 ^ 62 then ⟨(take_ok t h.1 m h.2.1 h.2.2).choose, (take_ok t h.1 m h.2.1 h.2.2).choose_spec.choose⟩ else ⟨0, t⟩
noncomputable def takeV (t : Tape) (m : Int) : Int := (takeP t m).1
noncomputable def takeT (t : Tape) (m : Int) : Tape := (takeP t m).2
theorem take_all {t : Tape} {m : Int} (hT : TOk t) (h1 : 1 ≤ m) (h2 : m < 2 ^ 62) : 0 ≤ takeV t m ∧ takeV t m < m ∧ TOk (takeT t m) ∧ takeF [.tape, .val (.int m)] (some t) = some (.ok (.val (.int (takeV t m))), some (takeT t m)) := by
  have h : TOk t ∧ 1 ≤ m ∧ m < 2 ^ 62 := ⟨hT, h1, h2⟩
  have e : takeP t m = ⟨(take_ok t h.1 m h.2.1 h.2.2).choose, (take_ok t h.1 m h.2.1 h.2.2).choose_spec.choose⟩ := by unfold takeP; rw [dif_pos h]
  unfold takeV takeT
  rw [e]
  exact (take_ok t h.1 m h.2.1 h.2.2).choose_spec.choose_spec
theorem take_tok {t : Tape} {m : Int} (hT : TOk t) (h1 : 1 ≤ m) (h2 : m < 2 ^ 62) : TOk (takeT t m) := (take_all hT h1 h2).2.2.1
theorem take_eq {t : Tape} {m : Int} (hT : TOk t) (h1 : 1 ≤ m) (h2 : m < 2 ^ 62) : takeF [.tape, .val (.int m)] (some t) = some (.ok (.val (.int (takeV t m))), some (takeT t m)) := (take_all hT h1 h2).2.2.2
theorem take_nn {t : Tape} {m : Int} (hT : TOk t) (h1 : 1 ≤ m) (h2 : m < 2 ^ 62) : 0 ≤ takeV t m := (take_all hT h1 h2).1
theorem take_lt {t : Tape} {m : Int} (hT : TOk t) (h1 : 1 ≤ m) (h2 : m < 2 ^ 62) : takeV t m < m := (take_all hT h1 h2).2.1
def endsTrue (r : Option (Fl × SE × TapeO)) : Prop := ∃ env t, r = some (.rt (.val (.bl true)), env, t)
@[simp] theorem ends_rt {b : Bool} {e : SE} {t : TapeO} : endsTrue (some (.rt (.val (.bl b)), e, t)) ↔ b = true := by
  constructor
  · rintro ⟨env, t, h⟩
    cases h; rfl
  · rintro rfl
    exact ⟨e, t, rfl⟩
end MP

namespace MP
open PySem PySem.Spec PyProof.Rows L2
namespace K44
def top (i : Nat) : Stmt := PySem.Challenge.pw_secrethall_k44_whole_powers_of_all_membe.main.body.getD i (.Pass ⟨0, 0, 0, 0⟩)
def FUEL : Nat := 100000
/-! _law_begin(script): 0 script, 1 seed, 2 cell -/
def N__law_begin : List Str := ["script", "seed", "cell"]
def C__law_begin : Cs :=
  (seqC (asgC 1 (cstE (.int 1)))
  (seqC (forC (seqF (varE 0)) (.one 2) (asgC 1 (binE modS (binE addS (binE addS (binE mulS (varE 1) (cstE (.int 69621))) (binE modS (callE intS [(varE 2)]) (cstE (.int 2147483629)))) (cstE (.int 7))) (cstE (.int 2147483647)))))
  (retC (lstE [(escE (callE listS [(varE 0)])), (cstE (.int 0)), (cstE (.int 0)), (varE 1)]))))
def F__law_begin : Fn := defF 3 C__law_begin
/-! _law_take(d, many): 0 d, 1 many, 2 small, 3 digit -/
def N__law_take : List Str := ["d", "many", "small", "digit"]
def C__law_take : Cs :=
  (seqC (ifC (andT (ofE (binE eqS (tgetE 0 2) (cstE (.int 0)))) (ofE (binE ltS (tgetE 0 1) (callE lenS [(tgetE 0 0)])))) (seqC (tsetC 0 2 (callE absS [(callE intS [(binE ixS (tgetE 0 0) (tgetE 0 1))])]))
  (seqC (tsetC 0 1 (binE addS (tgetE 0 1) (cstE (.int 1))))
  (ifC (ofE (binE ltS (tgetE 0 2) (binE powS (cstE (.int 10)) (cstE (.int 18))))) (seqC (asgC 2 (callE intS [(tgetE 0 2)]))
  (seqC (tsetC 0 2 (cstE (.int 0)))
  (retC (binE modS (varE 2) (varE 1))))) skipC))) skipC)
  (seqC (ifC (ofE (binE gtS (tgetE 0 2) (cstE (.int 0)))) (seqC (asgC 3 (binE modS (callE intS [(tgetE 0 2)]) (varE 1)))
  (seqC (tsetC 0 2 (binE fdivS (callE intS [(tgetE 0 2)]) (varE 1)))
  (retVC 3))) skipC)
  (seqC (tsetC 0 3 (binE modS (callE intS [(binE addS (binE mulS (tgetE 0 3) (cstE (.int 48271))) (cstE (.int 11)))]) (cstE (.int 2147483647))))
  (retC (binE modS (callE intS [(binE fdivS (tgetE 0 3) (cstE (.int 3)))]) (varE 1))))))
def F__law_take : Fn := defF 4 C__law_take
/-! _law_group(d): 0 d, 1 rows -/
def N__law_group : List Str := ["d", "rows"]
def C__law_group : Cs :=
  (seqC (asgC 1 (lstE [(tupE [(cstE (.int 5)), (cstE (.int 2)), (cstE (.int 4))]), (tupE [(cstE (.int 7)), (cstE (.int 3)), (cstE (.int 2))]), (tupE [(cstE (.int 11)), (cstE (.int 5)), (cstE (.int 3))]), (tupE [(cstE (.int 13)), (cstE (.int 3)), (cstE (.int 3))]), (tupE [(cstE (.int 23)), (cstE (.int 11)), (cstE (.int 2))]), (tupE [(cstE (.int 29)), (cstE (.int 7)), (cstE (.int 7))]), (tupE [(cstE (.int 31)), (cstE (.int 5)), (cstE (.int 2))]), (tupE [(cstE (.int 47)), (cstE (.int 23)), (cstE (.int 2))]), (tupE [(cstE (.int 7)), (cstE (.int 2)), (cstE (.int 6))]), (tupE [(cstE (.int 3)), (cstE (.int 2)), (cstE (.int 2))])]))
  (retC (binE ixS (varE 1) (callF F__law_take [(varE 0), (cstE (.int 10))]))))
def F__law_group : Fn := defF 2 C__law_group
/-! is_prime(number): 0 number, 1 one -/
def N_is_prime : List Str := ["number", "one"]
def C_is_prime : Cs :=
  (seqC (ifC (ofE (binE ltS (varE 0) (cstE (.int 2)))) (retC (cstE (.bl false))) skipC)
  (seqC (asgC 1 (cstE (.int 2)))
  (seqC (whileC (ofE (binE leS (binE mulS (varE 1) (varE 1)) (varE 0))) (seqC (ifC (ofE (binE eqS (binE modS (varE 0) (varE 1)) (cstE (.int 0)))) (retC (cstE (.bl false))) skipC)
  (augC 1 iaddS (cstE (.int 1)))) FUEL)
  (retC (cstE (.bl true))))))
def F_is_prime : Fn := defF 2 C_is_prime
/-! power_in(p, base, times): 0 p, 1 base, 2 times, 3 found -/
def N_power_in : List Str := ["p", "base", "times", "found"]
def C_power_in : Cs :=
  (seqC (asgC 3 (cstE (.int 1)))
  (seqC (augC 1 modS (varE 0))
  (seqC (whileC (ofE (binE gtS (varE 2) (cstE (.int 0)))) (seqC (ifC (ofE (binE eqS (binE modS (varE 2) (cstE (.int 2))) (cstE (.int 1)))) (asgC 3 (binE modS (binE mulS (varE 3) (varE 1)) (varE 0))) skipC)
  (seqC (asgC 1 (binE modS (binE mulS (varE 1) (varE 1)) (varE 0)))
  (augC 2 fdivS (cstE (.int 2))))) FUEL)
  (retVC 3))))
def F_power_in : Fn := defF 4 C_power_in
/-! check(group): 0 group, 1 p, 2 q, 3 g -/
def N_check : List Str := ["group", "p", "q", "g"]
def C_check : Cs :=
  (seqC (unpC [1, 2, 3] (varE 0))
  (seqC (ifC (orT (notT (ofE (chainE leS leS (cstE (.int 3)) (varE 1) (cstE (.int 400))))) (notT (ofE (callF F_is_prime [(varE 1)])))) neverC skipC)
  (seqC (ifC (orT (notT (ofE (callF F_is_prime [(varE 2)]))) (ofE (binE neS (binE modS (binE subS (varE 1) (cstE (.int 1))) (varE 2)) (cstE (.int 0))))) neverC skipC)
  (ifC (orT (notT (ofE (chainE leS ltS (cstE (.int 2)) (varE 3) (varE 1)))) (ofE (binE neS (callF F_power_in [(varE 1), (varE 3), (varE 2)]) (cstE (.int 1))))) neverC skipC))))
def F_check : Fn := defF 4 C_check
/-! members(group): 0 group, 1 found, 2 now, 3 _ -/
def N_members : List Str := ["group", "found", "now", "_"]
def C_members : Cs :=
  (seqC (dropC (callF F_check [(varE 0)]))
  (seqC (asgC 1 (lstE []))
  (seqC (asgC 2 (cstE (.int 1)))
  (seqC (forC (argI rg1S [(binE ixS (varE 0) (cstE (.int 1)))]) (.one 3) (seqC (appC 1 (varE 2))
  (asgC 2 (binE modS (binE mulS (varE 2) (binE ixS (varE 0) (cstE (.int 2)))) (binE ixS (varE 0) (cstE (.int 0)))))))
  (retC (callE tupleS [(callE sortedS [(varE 1)])]))))))
def F_members : Fn := defF 4 C_members
/-! check_key(group, key): 0 group, 1 key -/
def N_check_key : List Str := ["group", "key"]
def C_check_key : Cs :=
  (seqC (dropC (callF F_check [(varE 0)]))
  (ifC (notT (ofE (chainE leS ltS (cstE (.int 0)) (varE 1) (binE ixS (varE 0) (cstE (.int 1)))))) neverC skipC))
def F_check_key : Fn := defF 2 C_check_key
/-! agreed(group, own, other): 0 group, 1 own, 2 other, 3 p, 4 _, 5 g, 6 first, 7 second -/
def N_agreed : List Str := ["group", "own", "other", "p", "_", "g", "first", "second"]
def C_agreed : Cs :=
  (seqC (dropC (callF F_check_key [(varE 0), (varE 1)]))
  (seqC (dropC (callF F_check_key [(varE 0), (varE 2)]))
  (seqC (unpC [3, 4, 5] (varE 0))
  (seqC (par2C 6 7 [(callF F_power_in [(varE 3), (varE 5), (varE 1)]), (callF F_power_in [(varE 3), (varE 5), (varE 2)])])
  (retC (tupE [(varE 6), (varE 7), (callF F_power_in [(varE 3), (varE 7), (varE 1)])]))))))
def F_agreed : Fn := defF 8 C_agreed
/-! power(group, base, times): 0 group, 1 base, 2 times -/
def N_power : List Str := ["group", "base", "times"]
def C_power : Cs :=
  (seqC (dropC (callF F_check [(varE 0)]))
  (seqC (ifC (notT (ofE (chainE leS ltS (cstE (.int 1)) (varE 1) (binE ixS (varE 0) (cstE (.int 0)))))) neverC skipC)
  (retC (callF F_power_in [(binE ixS (varE 0) (cstE (.int 0))), (varE 1), (binE modS (varE 2) (binE subS (binE ixS (varE 0) (cstE (.int 0))) (cstE (.int 1))))]))))
def F_power : Fn := defF 3 C_power
/-! check_member(group, one): 0 group, 1 one -/
def N_check_member : List Str := ["group", "one"]
def C_check_member : Cs :=
  (seqC (dropC (callF F_check [(varE 0)]))
  (ifC (orT (notT (ofE (chainE leS ltS (cstE (.int 1)) (varE 1) (binE ixS (varE 0) (cstE (.int 0)))))) (ofE (binE neS (callF F_power_in [(binE ixS (varE 0) (cstE (.int 0))), (varE 1), (binE ixS (varE 0) (cstE (.int 1)))]) (cstE (.int 1))))) neverC skipC))
def F_check_member : Fn := defF 2 C_check_member
/-! lock(group, public, message, drawn): 0 group, 1 public, 2 message, 3 drawn, 4 p, 5 _, 6 g -/
def N_lock : List Str := ["group", "public", "message", "drawn", "p", "_", "g"]
def C_lock : Cs :=
  (seqC (dropC (callF F_check_member [(varE 0), (varE 1)]))
  (seqC (dropC (callF F_check_member [(varE 0), (varE 2)]))
  (seqC (dropC (callF F_check_key [(varE 0), (varE 3)]))
  (seqC (unpC [4, 5, 6] (varE 0))
  (retC (tupE [(callF F_power_in [(varE 4), (varE 6), (varE 3)]), (binE modS (binE mulS (varE 2) (callF F_power_in [(varE 4), (varE 1), (varE 3)])) (varE 4))]))))))
def F_lock : Fn := defF 7 C_lock
/-! is_right(group, public, row): 0 group, 1 public, 2 row, 3 first, 4 asked, 5 told, 6 p, 7 _, 8 g -/
def N_is_right : List Str := ["group", "public", "row", "first", "asked", "told", "p", "_", "g"]
def C_is_right : Cs :=
  (seqC (dropC (callF F_check_member [(varE 0), (varE 1)]))
  (seqC (unpC [3, 4, 5] (varE 2))
  (seqC (ifC (notT (andT (ofE (chainE leS ltS (cstE (.int 1)) (varE 3) (binE ixS (varE 0) (cstE (.int 0))))) (andT (ofE (chainE leS ltS (cstE (.int 0)) (varE 4) (binE ixS (varE 0) (cstE (.int 1))))) (ofE (chainE leS ltS (cstE (.int 0)) (varE 5) (binE ixS (varE 0) (cstE (.int 1)))))))) (retC (cstE (.bl false))) skipC)
  (seqC (unpC [6, 7, 8] (varE 0))
  (retC (binE eqS (callF F_power_in [(varE 6), (varE 8), (varE 5)]) (binE modS (binE mulS (varE 3) (callF F_power_in [(varE 6), (varE 1), (varE 4)])) (varE 6))))))))
def F_is_right : Fn := defF 9 C_is_right
/-! same_log(group, second, key, drawn, asked): 0 group, 1 second, 2 key, 3 drawn, 4 asked, 5 p, 6 _, 7 g -/
def N_same_log : List Str := ["group", "second", "key", "drawn", "asked", "p", "_", "g"]
def C_same_log : Cs :=
  (seqC (dropC (callF F_check_member [(varE 0), (varE 1)]))
  (seqC (dropC (callF F_check_key [(varE 0), (varE 2)]))
  (seqC (dropC (callF F_check_key [(varE 0), (varE 3)]))
  (seqC (dropC (callF F_check_key [(varE 0), (varE 4)]))
  (seqC (unpC [5, 6, 7] (varE 0))
  (retC (tupE [(callF F_power_in [(varE 5), (varE 7), (varE 3)]), (callF F_power_in [(varE 5), (varE 1), (varE 3)]), (varE 4), (binE modS (binE addS (varE 3) (binE mulS (varE 4) (varE 2))) (binE ixS (varE 0) (cstE (.int 1))))])))))))
def F_same_log : Fn := defF 8 C_same_log
/-! is_same_log(group, second, public, other, row): 0 group, 1 second, 2 public, 3 other, 4 row, 5 one, 6 left, 7 right, 8 asked, 9 told, 10 p, 11 q, 12 g -/
def N_is_same_log : List Str := ["group", "second", "public", "other", "row", "one", "left", "right", "asked", "told", "p", "q", "g"]
def C_is_same_log : Cs :=
  (seqC (forC (seqF (tupE [(varE 1), (varE 2), (varE 3)])) (.one 5) (dropC (callF F_check_member [(varE 0), (varE 5)])))
  (seqC (unpC [6, 7, 8, 9] (varE 4))
  (seqC (unpC [10, 11, 12] (varE 0))
  (seqC (ifC (notT (andT (ofE (chainE leS ltS (cstE (.int 0)) (varE 8) (varE 11))) (andT (ofE (chainE leS ltS (cstE (.int 0)) (varE 9) (varE 11))) (andT (ofE (chainE leS ltS (cstE (.int 1)) (varE 6) (varE 10))) (ofE (chainE leS ltS (cstE (.int 1)) (varE 7) (varE 10))))))) (retC (cstE (.bl false))) skipC)
  (seqC (asgC 5 (binE eqS (callF F_power_in [(varE 10), (varE 12), (varE 9)]) (binE modS (binE mulS (varE 6) (callF F_power_in [(varE 10), (varE 2), (varE 8)])) (varE 10))))
  (retC (andE (varE 5) (binE eqS (callF F_power_in [(varE 10), (varE 1), (varE 9)]) (binE modS (binE mulS (varE 7) (callF F_power_in [(varE 10), (varE 3), (varE 8)])) (varE 10))))))))))
def F_is_same_log : Fn := defF 13 C_is_same_log
/-! _law_power(p, base, times): 0 p, 1 base, 2 times, 3 found, 4 k -/
def N__law_power : List Str := ["p", "base", "times", "found", "k"]
def C__law_power : Cs :=
  (seqC (asgC 3 (cstE (.int 1)))
  (seqC (forC (argI rg1S [(varE 2)]) (.one 4) (asgC 3 (binE modS (callE intS [(binE mulS (varE 3) (varE 1))]) (varE 0))))
  (retVC 3)))
def F__law_power : Fn := defF 5 C__law_power
/-! unlock(group, key, pair): 0 group, 1 key, 2 pair, 3 p, 4 q, 5 _ -/
def N_unlock : List Str := ["group", "key", "pair", "p", "q", "_"]
def C_unlock : Cs :=
  (seqC (dropC (callF F_check_key [(varE 0), (varE 1)]))
  (seqC (dropC (callF F_check_member [(varE 0), (binE ixS (varE 2) (cstE (.int 0)))]))
  (seqC (dropC (callF F_check_member [(varE 0), (binE ixS (varE 2) (cstE (.int 1)))]))
  (seqC (unpC [3, 4, 5] (varE 0))
  (retC (binE modS (binE mulS (binE ixS (varE 2) (cstE (.int 1))) (callF F_power_in [(varE 3), (binE ixS (varE 2) (cstE (.int 0))), (binE subS (varE 4) (varE 1))])) (varE 3)))))))
def F_unlock : Fn := defF 6 C_unlock
/-! joined(group, one, other): 0 group, 1 one, 2 other, 3 part -/
def N_joined : List Str := ["group", "one", "other", "part"]
def C_joined : Cs :=
  (seqC (forC (seqF (binE addS (varE 1) (varE 2))) (.one 3) (dropC (callF F_check_member [(varE 0), (varE 3)])))
  (retC (tupE [(binE modS (binE mulS (binE ixS (varE 1) (cstE (.int 0))) (binE ixS (varE 2) (cstE (.int 0)))) (binE ixS (varE 0) (cstE (.int 0)))), (binE modS (binE mulS (binE ixS (varE 1) (cstE (.int 1))) (binE ixS (varE 2) (cstE (.int 1)))) (binE ixS (varE 0) (cstE (.int 0))))])))
def F_joined : Fn := defF 4 C_joined
/-! pledge(group, second, message, drawn): 0 group, 1 second, 2 message, 3 drawn, 4 p, 5 _, 6 g -/
def N_pledge : List Str := ["group", "second", "message", "drawn", "p", "_", "g"]
def C_pledge : Cs :=
  (seqC (dropC (callF F_check_member [(varE 0), (varE 1)]))
  (seqC (dropC (callF F_check_key [(varE 0), (varE 2)]))
  (seqC (dropC (callF F_check_key [(varE 0), (varE 3)]))
  (seqC (unpC [4, 5, 6] (varE 0))
  (retC (binE modS (binE mulS (callF F_power_in [(varE 4), (varE 6), (varE 2)]) (callF F_power_in [(varE 4), (varE 1), (varE 3)])) (varE 4)))))))
def F_pledge : Fn := defF 7 C_pledge
/-! begin(group, drawn): 0 group, 1 drawn -/
def N_begin : List Str := ["group", "drawn"]
def C_begin : Cs :=
  (seqC (dropC (callF F_check_key [(varE 0), (varE 1)]))
  (retC (callF F_power_in [(binE ixS (varE 0) (cstE (.int 0))), (binE ixS (varE 0) (cstE (.int 2))), (varE 1)])))
def F_begin : Fn := defF 2 C_begin
/-! answer(group, key, drawn, asked): 0 group, 1 key, 2 drawn, 3 asked -/
def N_answer : List Str := ["group", "key", "drawn", "asked"]
def C_answer : Cs :=
  (seqC (dropC (callF F_check_key [(varE 0), (varE 1)]))
  (seqC (dropC (callF F_check_key [(varE 0), (varE 2)]))
  (seqC (dropC (callF F_check_key [(varE 0), (varE 3)]))
  (retC (binE modS (binE addS (varE 2) (binE mulS (varE 3) (varE 1))) (binE ixS (varE 0) (cstE (.int 1))))))))
def F_answer : Fn := defF 4 C_answer
/-! log_of(group, one): 0 group, 1 one, 2 now, 3 times -/
def N_log_of : List Str := ["group", "one", "now", "times"]
def C_log_of : Cs :=
  (seqC (dropC (callF F_check_member [(varE 0), (varE 1)]))
  (seqC (asgC 2 (cstE (.int 1)))
  (seqC (forC (argI rg1S [(binE ixS (varE 0) (cstE (.int 1)))]) (.one 3) (seqC (ifC (ofE (binE eqS (varE 2) (varE 1))) (retVC 3) skipC)
  (asgC 2 (binE modS (binE mulS (varE 2) (binE ixS (varE 0) (cstE (.int 2)))) (binE ixS (varE 0) (cstE (.int 0)))))))
  (retC (cstE .non)))))
def F_log_of : Fn := defF 4 C_log_of
/-! relocked(group, public, pair, drawn): 0 group, 1 public, 2 pair, 3 drawn, 4 part -/
def N_relocked : List Str := ["group", "public", "pair", "drawn", "part"]
def C_relocked : Cs :=
  (seqC (forC (seqF (binE addS (tupE [(varE 1)]) (callE tupleS [(varE 2)]))) (.one 4) (dropC (callF F_check_member [(varE 0), (varE 4)])))
  (retC (callF F_joined [(varE 0), (varE 2), (callF F_lock [(varE 0), (varE 1), (cstE (.int 1)), (varE 3)])])))
def F_relocked : Fn := defF 5 C_relocked
/-! key_of(group, public, one, other): 0 group, 1 public, 2 one, 3 other, 4 q -/
def N_key_of : List Str := ["group", "public", "one", "other", "q"]
def C_key_of : Cs :=
  (seqC (dropC (callF F_check_member [(varE 0), (varE 1)]))
  (seqC (ifC (notT (andT (ofE (callF F_is_right [(varE 0), (varE 1), (varE 2)])) (ofE (callF F_is_right [(varE 0), (varE 1), (varE 3)])))) (retC (cstE .non)) skipC)
  (seqC (ifC (orT (ofE (binE neS (binE ixS (varE 2) (cstE (.int 0))) (binE ixS (varE 3) (cstE (.int 0))))) (ofE (binE eqS (binE ixS (varE 2) (cstE (.int 1))) (binE ixS (varE 3) (cstE (.int 1)))))) (retC (cstE .non)) skipC)
  (seqC (asgC 4 (binE ixS (varE 0) (cstE (.int 1))))
  (retC (binE modS (binE mulS (binE subS (binE ixS (varE 2) (cstE (.int 2))) (binE ixS (varE 3) (cstE (.int 2)))) (callF F_power_in [(varE 4), (binE modS (binE subS (binE ixS (varE 2) (cstE (.int 1))) (binE ixS (varE 3) (cstE (.int 1)))) (varE 4)), (binE subS (varE 4) (cstE (.int 2)))])) (varE 4)))))))
def F_key_of : Fn := defF 5 C_key_of
/-! made_row(group, public, asked, told): 0 group, 1 public, 2 asked, 3 told, 4 p, 5 q, 6 g -/
def N_made_row : List Str := ["group", "public", "asked", "told", "p", "q", "g"]
def C_made_row : Cs :=
  (seqC (dropC (callF F_check_member [(varE 0), (varE 1)]))
  (seqC (dropC (callF F_check_key [(varE 0), (varE 2)]))
  (seqC (dropC (callF F_check_key [(varE 0), (varE 3)]))
  (seqC (unpC [4, 5, 6] (varE 0))
  (retC (tupE [(binE modS (binE mulS (callF F_power_in [(varE 4), (varE 6), (varE 3)]) (callF F_power_in [(varE 4), (varE 1), (binE subS (varE 5) (varE 2))])) (varE 4)), (varE 2), (varE 3)]))))))
def F_made_row : Fn := defF 7 C_made_row
/-! law(script): 0 script, 1 d, 2 group, 3 p, 4 q, 5 g, 6 own, 7 t, 8 base, 9 a, 10 b, 11 c, 12 e, 13 x, 14 y, 15 z, 16 first, 17 second, 18 both, 19 public, 20 pair, 21 other, 22 third, 23 one, 24 two, 25 row, 26 far, 27 shown, 28 k -/
def N_law : List Str := ["script", "d", "group", "p", "q", "g", "own", "t", "base", "a", "b", "c", "e", "x", "y", "z", "first", "second", "both", "public", "pair", "other", "third", "one", "two", "row", "far", "shown", "k"]
def C_law : Cs :=
  (seqC (asgC 1 (callF F__law_begin [(varE 0)]))
  (seqC (seqC (tapeC 1) (asgC 2 (callF F__law_group [(varE 1)])))
  (seqC (unpC [3, 4, 5] (varE 2))
  (seqC (asgC 6 (callF F_members [(varE 2)]))
  (seqC (asgC 7 (binE addS (cstE (.int 1)) (callF F__law_take [(varE 1), (binE subS (varE 4) (cstE (.int 1)))])))
  (seqC (asgC 8 (tupE [(varE 3), (varE 4), (callF F__law_power [(varE 3), (varE 5), (varE 7)])]))
  (seqC (unpLC [9, 10, 11, 12] (compE (argI rg1S [(cstE (.int 4))]) [28] (.one 28) yesT (callF F__law_take [(varE 1), (varE 4)])))
  (seqC (unpLC [13, 14, 15] (compE (argI rg1S [(cstE (.int 3))]) [28] (.one 28) yesT (binE ixS (varE 6) (callF F__law_take [(varE 1), (varE 4)]))))
  (seqC (ifC (orT (ofE (binE neS (callF F_members [(varE 8)]) (varE 6))) (orT (ofE (binE neS (callE sortedS [(compE (seqI (varE 6)) [23] (.one 23) yesT (callF F_power [(varE 2), (varE 23), (varE 7)]))]) (callE listS [(varE 6)]))) (ofE (binE neS (binE modS (callE intS [(binE subS (binE mulS (callF F_log_of [(varE 8), (varE 13)]) (varE 7)) (callF F_log_of [(varE 2), (varE 13)]))]) (varE 4)) (cstE (.int 0)))))) (retC (cstE (.bl false))) skipC)
  (seqC (ifC (orT (ofE (binE neS (callF F_log_of [(varE 2), (binE modS (callE intS [(binE mulS (varE 13) (varE 14))]) (varE 3))]) (binE modS (callE intS [(binE addS (callF F_log_of [(varE 2), (varE 13)]) (callF F_log_of [(varE 2), (varE 14)]))]) (varE 4)))) (ofE (binE neS (callF F_power [(varE 2), (callF F_power [(varE 2), (varE 13), (varE 9)]), (varE 10)]) (callF F_power [(varE 2), (varE 13), (binE mulS (varE 9) (varE 10))])))) (retC (cstE (.bl false))) skipC)
  (seqC (ifC (ofE (binE neS (callF F_power [(varE 2), (varE 13), (unE negS (varE 9))]) (callF F_power [(varE 2), (callF F_power [(varE 2), (varE 13), (varE 9)]), (binE subS (varE 3) (cstE (.int 2)))]))) (retC (cstE (.bl false))) skipC)
  (seqC (unpC [16, 17, 18] (callF F_agreed [(varE 2), (varE 9), (varE 10)]))
  (seqC (ifC (orT (ofE (binE neS (callF F_agreed [(varE 8), (varE 9), (varE 10)]) (callE tupleS [(compE (seqI (tupE [(varE 16), (varE 17), (varE 18)])) [23] (.one 23) yesT (callF F_power [(varE 2), (varE 23), (varE 7)]))]))) (ofE (binE neS (callF F_log_of [(varE 2), (varE 18)]) (binE modS (callE intS [(binE mulS (varE 9) (varE 10))]) (varE 4))))) (retC (cstE (.bl false))) skipC)
  (seqC (ifC (ofE (binE neS (binE ixS (callF F_agreed [(varE 2), (binE modS (callE intS [(binE addS (varE 9) (varE 11))]) (varE 4)), (varE 10)]) (cstE (.int 2))) (binE modS (callE intS [(binE mulS (varE 18) (binE ixS (callF F_agreed [(varE 2), (varE 11), (varE 10)]) (cstE (.int 2))))]) (varE 3)))) (retC (cstE (.bl false))) skipC)
  (seqC (asgC 19 (callF F_power [(varE 2), (varE 5), (varE 9)]))
  (seqC (par2C 20 21 [(callF F_lock [(varE 2), (varE 19), (varE 13), (varE 10)]), (callF F_lock [(varE 2), (varE 19), (varE 14), (varE 11)])])
  (seqC (ifC (ofE (binE neS (callF F_lock [(varE 8), (callF F_power [(varE 2), (varE 19), (varE 7)]), (callF F_power [(varE 2), (varE 13), (varE 7)]), (varE 10)]) (callE tupleS [(compE (seqI (varE 20)) [23] (.one 23) yesT (callF F_power [(varE 2), (varE 23), (varE 7)]))]))) (retC (cstE (.bl false))) skipC)
  (seqC (ifC (ofE (binE neS (callF F_unlock [(varE 8), (varE 9), (callE tupleS [(compE (seqI (varE 20)) [23] (.one 23) yesT (callF F_power [(varE 2), (varE 23), (varE 7)]))])]) (callF F_power [(varE 2), (varE 13), (varE 7)]))) (retC (cstE (.bl false))) skipC)
  (seqC (asgC 22 (callF F_lock [(varE 2), (varE 19), (varE 15), (varE 12)]))
  (seqC (ifC (orT (ofE (binE neS (callF F_joined [(varE 2), (varE 20), (varE 21)]) (callF F_joined [(varE 2), (varE 21), (varE 20)]))) (ofE (binE neS (callF F_joined [(varE 2), (callF F_joined [(varE 2), (varE 20), (varE 21)]), (varE 22)]) (callF F_joined [(varE 2), (varE 20), (callF F_joined [(varE 2), (varE 21), (varE 22)])])))) (retC (cstE (.bl false))) skipC)
  (seqC (ifC (ofE (binE neS (callF F_joined [(varE 2), (varE 20), (tupE [(cstE (.int 1)), (cstE (.int 1))])]) (varE 20))) (retC (cstE (.bl false))) skipC)
  (seqC (ifC (ofE (binE neS (callF F_joined [(varE 2), (varE 20), (varE 21)]) (callF F_lock [(varE 2), (varE 19), (binE modS (callE intS [(binE mulS (varE 13) (varE 14))]) (varE 3)), (binE modS (callE intS [(binE addS (varE 10) (varE 11))]) (varE 4))]))) (retC (cstE (.bl false))) skipC)
  (seqC (ifC (orT (ofE (binE neS (callF F_relocked [(varE 2), (varE 19), (callF F_relocked [(varE 2), (varE 19), (varE 20), (varE 11)]), (varE 12)]) (callF F_relocked [(varE 2), (varE 19), (varE 20), (binE modS (callE intS [(binE addS (varE 11) (varE 12))]) (varE 4))]))) (ofE (binE neS (callF F_relocked [(varE 2), (varE 19), (varE 20), (cstE (.int 0))]) (varE 20)))) (retC (cstE (.bl false))) skipC)
  (seqC (ifC (orT (ofE (binE neS (binE modS (binE mulS (callF F_unlock [(varE 2), (binE modS (callE intS [(binE addS (varE 9) (varE 11))]) (varE 4)), (varE 20)]) (callF F_power [(varE 2), (binE ixS (varE 20) (cstE (.int 0))), (varE 11)])) (varE 3)) (callF F_unlock [(varE 2), (varE 9), (varE 20)]))) (ofE (binE neS (callF F_unlock [(varE 2), (cstE (.int 0)), (varE 20)]) (binE ixS (varE 20) (cstE (.int 1)))))) (retC (cstE (.bl false))) skipC)
  (seqC (par2C 23 24 [(callF F_pledge [(varE 2), (varE 15), (varE 9), (varE 10)]), (callF F_pledge [(varE 2), (varE 15), (varE 11), (varE 12)])])
  (seqC (ifC (orT (ofE (binE neS (binE modS (callE intS [(binE mulS (varE 23) (varE 24))]) (varE 3)) (callF F_pledge [(varE 2), (varE 15), (binE modS (callE intS [(binE addS (varE 9) (varE 11))]) (varE 4)), (binE modS (callE intS [(binE addS (varE 10) (varE 12))]) (varE 4))]))) (orT (ofE (binE neS (callF F_pledge [(varE 8), (callF F_power [(varE 2), (varE 15), (varE 7)]), (varE 9), (varE 10)]) (callF F_power [(varE 2), (varE 23), (varE 7)]))) (ofE (binE neS (callF F_pledge [(varE 2), (varE 15), (varE 9), (cstE (.int 0))]) (varE 19))))) (retC (cstE (.bl false))) skipC)
  (seqC (ifC (ofE (binE neS (callF F_pledge [(varE 2), (varE 5), (varE 9), (varE 10)]) (callF F_power [(varE 2), (varE 5), (binE addS (varE 9) (varE 10))]))) (retC (cstE (.bl false))) skipC)
  (seqC (asgC 25 (tupE [(callF F_begin [(varE 2), (varE 10)]), (varE 11), (callF F_answer [(varE 2), (varE 9), (varE 10), (varE 11)])]))
  (seqC (asgC 26 (tupE [(callF F_begin [(varE 2), (varE 10)]), (varE 12), (callF F_answer [(varE 2), (varE 9), (varE 10), (varE 12)])]))
  (seqC (ifC (orT (notT (ofE (callF F_is_right [(varE 2), (varE 19), (varE 25)]))) (notT (ofE (callF F_is_right [(varE 8), (callF F_power [(varE 2), (varE 19), (varE 7)]), (tupE [(callF F_power [(varE 2), (binE ixS (varE 25) (cstE (.int 0))), (varE 7)]), (binE ixS (varE 25) (cstE (.int 1))), (binE ixS (varE 25) (cstE (.int 2)))])])))) (retC (cstE (.bl false))) skipC)
  (seqC (ifC (ofE (callF F_is_right [(varE 2), (varE 19), (tupE [(binE ixS (varE 25) (cstE (.int 0))), (binE ixS (varE 25) (cstE (.int 1))), (binE modS (callE intS [(binE addS (binE ixS (varE 25) (cstE (.int 2))) (cstE (.int 1)))]) (varE 4))])])) (retC (cstE (.bl false))) skipC)
  (seqC (ifC (orT (ofE (binE neS (callF F_key_of [(varE 2), (varE 19), (varE 25), (varE 26)]) (ifE (ofE (binE neS (varE 11) (varE 12))) (varE 9) (cstE .non)))) (orT (ofE (binE neS (callF F_made_row [(varE 2), (varE 19), (varE 11), (binE ixS (varE 25) (cstE (.int 2)))]) (varE 25))) (ofE (binE neS (callF F_answer [(varE 2), (varE 9), (binE modS (callE intS [(binE addS (varE 10) (varE 12))]) (varE 4)), (varE 11)]) (binE modS (callE intS [(binE addS (callF F_answer [(varE 2), (varE 9), (varE 10), (varE 11)]) (varE 12))]) (varE 4)))))) (retC (cstE (.bl false))) skipC)
  (seqC (asgC 27 (callF F_same_log [(varE 2), (varE 15), (varE 9), (varE 10), (varE 11)]))
  (seqC (ifC (orT (notT (ofE (callF F_is_same_log [(varE 2), (varE 15), (varE 19), (callF F_power [(varE 2), (varE 15), (varE 9)]), (varE 27)]))) (orT (ofE (binE neS (binE ixS (varE 27) (cstE (.int 0))) (callF F_begin [(varE 2), (varE 10)]))) (ofE (binE neS (binE ixS (varE 27) (cstE (.int 3))) (binE ixS (varE 25) (cstE (.int 2))))))) (retC (cstE (.bl false))) skipC)
  (seqC (ifC (andT (ofE (binE neS (varE 15) (cstE (.int 1)))) (ofE (binE neS (callF F_is_same_log [(varE 2), (varE 15), (varE 19), (callF F_power [(varE 2), (varE 15), (binE addS (varE 9) (cstE (.int 1)))]), (varE 27)]) (binE eqS (varE 11) (cstE (.int 0)))))) (retC (cstE (.bl false))) skipC)
  (retC (callF F_is_same_log [(varE 8), (callF F_power [(varE 2), (varE 15), (varE 7)]), (callF F_power [(varE 2), (varE 19), (varE 7)]), (callF F_power [(varE 2), (varE 15), (binE mulS (varE 9) (varE 7))]), (tupE [(callF F_power [(varE 2), (binE ixS (varE 27) (cstE (.int 0))), (varE 7)]), (callF F_power [(varE 2), (binE ixS (varE 27) (cstE (.int 1))), (varE 7)]), (varE 11), (binE ixS (varE 27) (cstE (.int 3)))])])))))))))))))))))))))))))))))))))))))
def F_law : Fn := defF 29 C_law
structure Env (K : PySem.W.Frag) (mg : Str → Option Value) where
  a__law_begin : Addr
  fd__law_begin : FuncData
  F__law_begin : Fun K "_law_begin" "_law_begin" (top 27) a__law_begin fd__law_begin
  m__law_begin : mg "_law_begin" = some (.ref a__law_begin)
  k__law_begin : PySem.W.keepIn K (.ref a__law_begin) = true
  b__law_begin : Binds K fd__law_begin ["script"] []
  a__law_take : Addr
  fd__law_take : FuncData
  F__law_take : Fun K "_law_take" "_law_take" (top 28) a__law_take fd__law_take
  m__law_take : mg "_law_take" = some (.ref a__law_take)
  k__law_take : PySem.W.keepIn K (.ref a__law_take) = true
  b__law_take : Binds K fd__law_take ["d", "many"] []
  a__law_group : Addr
  fd__law_group : FuncData
  F__law_group : Fun K "_law_group" "_law_group" (top 30) a__law_group fd__law_group
  m__law_group : mg "_law_group" = some (.ref a__law_group)
  k__law_group : PySem.W.keepIn K (.ref a__law_group) = true
  b__law_group : Binds K fd__law_group ["d"] []
  a_is_prime : Addr
  fd_is_prime : FuncData
  F_is_prime : Fun K "is_prime" "is_prime" (top 4) a_is_prime fd_is_prime
  m_is_prime : mg "is_prime" = some (.ref a_is_prime)
  k_is_prime : PySem.W.keepIn K (.ref a_is_prime) = true
  b_is_prime : Binds K fd_is_prime ["number"] []
  a_power_in : Addr
  fd_power_in : FuncData
  F_power_in : Fun K "power_in" "power_in" (top 6) a_power_in fd_power_in
  m_power_in : mg "power_in" = some (.ref a_power_in)
  k_power_in : PySem.W.keepIn K (.ref a_power_in) = true
  b_power_in : Binds K fd_power_in ["p", "base", "times"] []
  a_check : Addr
  fd_check : FuncData
  F_check : Fun K "check" "check" (top 5) a_check fd_check
  m_check : mg "check" = some (.ref a_check)
  k_check : PySem.W.keepIn K (.ref a_check) = true
  b_check : Binds K fd_check ["group"] []
  a_members : Addr
  fd_members : FuncData
  F_members : Fun K "members" "members" (top 8) a_members fd_members
  m_members : mg "members" = some (.ref a_members)
  k_members : PySem.W.keepIn K (.ref a_members) = true
  b_members : Binds K fd_members ["group"] []
  a_check_key : Addr
  fd_check_key : FuncData
  F_check_key : Fun K "check_key" "check_key" (top 11) a_check_key fd_check_key
  m_check_key : mg "check_key" = some (.ref a_check_key)
  k_check_key : PySem.W.keepIn K (.ref a_check_key) = true
  b_check_key : Binds K fd_check_key ["group", "key"] []
  a_agreed : Addr
  fd_agreed : FuncData
  F_agreed : Fun K "agreed" "agreed" (top 12) a_agreed fd_agreed
  m_agreed : mg "agreed" = some (.ref a_agreed)
  k_agreed : PySem.W.keepIn K (.ref a_agreed) = true
  b_agreed : Binds K fd_agreed ["group", "own", "other"] []
  a_power : Addr
  fd_power : FuncData
  F_power : Fun K "power" "power" (top 7) a_power fd_power
  m_power : mg "power" = some (.ref a_power)
  k_power : PySem.W.keepIn K (.ref a_power) = true
  b_power : Binds K fd_power ["group", "base", "times"] []
  a_check_member : Addr
  fd_check_member : FuncData
  F_check_member : Fun K "check_member" "check_member" (top 9) a_check_member fd_check_member
  m_check_member : mg "check_member" = some (.ref a_check_member)
  k_check_member : PySem.W.keepIn K (.ref a_check_member) = true
  b_check_member : Binds K fd_check_member ["group", "one"] []
  a_lock : Addr
  fd_lock : FuncData
  F_lock : Fun K "lock" "lock" (top 13) a_lock fd_lock
  m_lock : mg "lock" = some (.ref a_lock)
  k_lock : PySem.W.keepIn K (.ref a_lock) = true
  b_lock : Binds K fd_lock ["group", "public", "message", "drawn"] []
  a_is_right : Addr
  fd_is_right : FuncData
  F_is_right : Fun K "is_right" "is_right" (top 21) a_is_right fd_is_right
  m_is_right : mg "is_right" = some (.ref a_is_right)
  k_is_right : PySem.W.keepIn K (.ref a_is_right) = true
  b_is_right : Binds K fd_is_right ["group", "public", "row"] []
  a_same_log : Addr
  fd_same_log : FuncData
  F_same_log : Fun K "same_log" "same_log" (top 24) a_same_log fd_same_log
  m_same_log : mg "same_log" = some (.ref a_same_log)
  k_same_log : PySem.W.keepIn K (.ref a_same_log) = true
  b_same_log : Binds K fd_same_log ["group", "second", "key", "drawn", "asked"] []
  a_is_same_log : Addr
  fd_is_same_log : FuncData
  F_is_same_log : Fun K "is_same_log" "is_same_log" (top 25) a_is_same_log fd_is_same_log
  m_is_same_log : mg "is_same_log" = some (.ref a_is_same_log)
  k_is_same_log : PySem.W.keepIn K (.ref a_is_same_log) = true
  b_is_same_log : Binds K fd_is_same_log ["group", "second", "public", "other", "row"] []
  a__law_power : Addr
  fd__law_power : FuncData
  F__law_power : Fun K "_law_power" "_law_power" (top 29) a__law_power fd__law_power
  m__law_power : mg "_law_power" = some (.ref a__law_power)
  k__law_power : PySem.W.keepIn K (.ref a__law_power) = true
  b__law_power : Binds K fd__law_power ["p", "base", "times"] []
  a_unlock : Addr
  fd_unlock : FuncData
  F_unlock : Fun K "unlock" "unlock" (top 14) a_unlock fd_unlock
  m_unlock : mg "unlock" = some (.ref a_unlock)
  k_unlock : PySem.W.keepIn K (.ref a_unlock) = true
  b_unlock : Binds K fd_unlock ["group", "key", "pair"] []
  a_joined : Addr
  fd_joined : FuncData
  F_joined : Fun K "joined" "joined" (top 15) a_joined fd_joined
  m_joined : mg "joined" = some (.ref a_joined)
  k_joined : PySem.W.keepIn K (.ref a_joined) = true
  b_joined : Binds K fd_joined ["group", "one", "other"] []
  a_pledge : Addr
  fd_pledge : FuncData
  F_pledge : Fun K "pledge" "pledge" (top 17) a_pledge fd_pledge
  m_pledge : mg "pledge" = some (.ref a_pledge)
  k_pledge : PySem.W.keepIn K (.ref a_pledge) = true
  b_pledge : Binds K fd_pledge ["group", "second", "message", "drawn"] []
  a_begin : Addr
  fd_begin : FuncData
  F_begin : Fun K "begin" "begin" (top 19) a_begin fd_begin
  m_begin : mg "begin" = some (.ref a_begin)
  k_begin : PySem.W.keepIn K (.ref a_begin) = true
  b_begin : Binds K fd_begin ["group", "drawn"] []
  a_answer : Addr
  fd_answer : FuncData
  F_answer : Fun K "answer" "answer" (top 20) a_answer fd_answer
  m_answer : mg "answer" = some (.ref a_answer)
  k_answer : PySem.W.keepIn K (.ref a_answer) = true
  b_answer : Binds K fd_answer ["group", "key", "drawn", "asked"] []
  a_log_of : Addr
  fd_log_of : FuncData
  F_log_of : Fun K "log_of" "log_of" (top 10) a_log_of fd_log_of
  m_log_of : mg "log_of" = some (.ref a_log_of)
  k_log_of : PySem.W.keepIn K (.ref a_log_of) = true
  b_log_of : Binds K fd_log_of ["group", "one"] []
  a_relocked : Addr
  fd_relocked : FuncData
  F_relocked : Fun K "relocked" "relocked" (top 16) a_relocked fd_relocked
  m_relocked : mg "relocked" = some (.ref a_relocked)
  k_relocked : PySem.W.keepIn K (.ref a_relocked) = true
  b_relocked : Binds K fd_relocked ["group", "public", "pair", "drawn"] []
  a_key_of : Addr
  fd_key_of : FuncData
  F_key_of : Fun K "key_of" "key_of" (top 23) a_key_of fd_key_of
  m_key_of : mg "key_of" = some (.ref a_key_of)
  k_key_of : PySem.W.keepIn K (.ref a_key_of) = true
  b_key_of : Binds K fd_key_of ["group", "public", "one", "other"] []
  a_made_row : Addr
  fd_made_row : FuncData
  F_made_row : Fun K "made_row" "made_row" (top 22) a_made_row fd_made_row
  m_made_row : mg "made_row" = some (.ref a_made_row)
  k_made_row : PySem.W.keepIn K (.ref a_made_row) = true
  b_made_row : Binds K fd_made_row ["group", "public", "asked", "told"] []
  a_law : Addr
  fd_law : FuncData
  F_law : Fun K "law" "law" (top 31) a_law fd_law
  m_law : mg "law" = some (.ref a_law)
  k_law : PySem.W.keepIn K (.ref a_law) = true
  b_law : Binds K fd_law ["script"] []
  n_abs : mg "abs" = none
  n_int : mg "int" = none
  n_len : mg "len" = none
  n_list : mg "list" = none
  n_range : mg "range" = none
  n_sorted : mg "sorted" = none
  n_tuple : mg "tuple" = none
  g_MOST : ∃ t, mg "MOST" = some (.int 400 t)
section
variable {P : Program} {w : World} {K : PySem.W.Frag} {mg : Str → Option Value} {base : Heap}
theorem ok__law_begin (E : Env K mg) : FnOk P w K mg base (L2.CX P w) 1 E.a__law_begin E.fd__law_begin ["script"] (FSp K ⟨[], 0⟩ 1 F__law_begin) := by
  have S : FnScope N__law_begin ["script"] (defScope (top 27)) := ⟨rfl, rfl, rfl, by decide +kernel, rfl, by decide +kernel, by decide +kernel⟩
  refine fn_def (N := N__law_begin) (cs := C__law_begin) E.F__law_begin S (by decide) fun cdv A outer s H Ex hr => ?_
  refine ss_cons ?_ ?_
  · skip
    exact s_asg (i := 1) S.nd v_int
  refine ss_cons ?_ ?_
  · skip
    refine s_for (passes_of rfl) (i_seqF (v_var (i := 0))) (pg_name (i := 2) S.nd rfl (by first | exact Or.inl rfl | exact Or.inr rfl)) ?_
    refine ss_one ?_
    · skip
      exact s_asg (i := 1) S.nd (v_op op_mod ok_mod (v_op op_addAll ok_add (v_op op_addAll ok_add (v_op op_mulW ok_mul (v_var (i := 1)) v_int) (v_op op_mod ok_mod (v_callTy call_int1 co_int E.n_int (a_cons (v_var (i := 2)) a_nil)) v_int)) v_int) v_int)
  refine ss_one ?_
  · skip
    exact s_ret (v_lst (a_cons (v_esc (v_callTy call_list_of co_list E.n_list (a_cons (v_var (i := 0)) a_nil))) (a_cons v_int (a_cons v_int (a_cons (v_var (i := 1)) a_nil)))))
theorem ok__law_take (E : Env K mg) : FnOk P w K mg base (L2.CX P w) 1 E.a__law_take E.fd__law_take ["d", "many"] (FSp K ⟨[], 0⟩ 2 F__law_take) := by
  have S : FnScope N__law_take ["d", "many"] (defScope (top 28)) := ⟨rfl, rfl, rfl, by decide +kernel, rfl, by decide +kernel, by decide +kernel⟩
  refine fn_def (N := N__law_take) (cs := C__law_take) E.F__law_take S (by decide) fun cdv A outer s H Ex hr => ?_
  refine ss_cons ?_ ?_
  · skip
    refine s_if (t_w (w_and (t_cmp (op_eqD hr.units) ok_eq bl_eq (v_tget (i := 0) (k := 2)) v_int) (w_and1 (t_cmp op_lt ok_lt bl_lt (v_tget (i := 0) (k := 1)) (v_callB call_len_seq co_len E.n_len (a_cons (v_tget (i := 0) (k := 0)) a_nil)))))) ?_ ?_
    · skip
      refine ss_cons ?_ ?_
      · skip
        exact s_tset (i := 0) (k := 2) (v_callB call_abs co_abs E.n_abs (a_cons (v_callTy call_int1 co_int E.n_int (a_cons (v_ix (v_tget (i := 0) (k := 0)) (v_tget (i := 0) (k := 1))) a_nil)) a_nil))
      refine ss_cons ?_ ?_
      · skip
        exact s_tset (i := 0) (k := 1) (v_op op_addAll ok_add (v_tget (i := 0) (k := 1)) v_int)
      refine ss_one ?_
      · skip
        refine s_if (t_cmp op_lt ok_lt bl_lt (v_tget (i := 0) (k := 2)) (v_op op_pow ok_pow v_int v_int)) ?_ ?_
        · skip
          refine ss_cons ?_ ?_
          · skip
            exact s_asg (i := 2) S.nd (v_callTy call_int1 co_int E.n_int (a_cons (v_tget (i := 0) (k := 2)) a_nil))
          refine ss_cons ?_ ?_
          · skip
            exact s_tset (i := 0) (k := 2) v_int
          refine ss_one ?_
          · skip
            exact s_ret (v_op op_mod ok_mod (v_var (i := 2)) (v_var (i := 1)))
        · skip
          exact ss_nil
    · skip
      exact ss_nil
  refine ss_cons ?_ ?_
  · skip
    refine s_if (t_cmp op_gt ok_gt bl_gt (v_tget (i := 0) (k := 2)) v_int) ?_ ?_
    · skip
      refine ss_cons ?_ ?_
      · skip
        exact s_asg (i := 3) S.nd (v_op op_mod ok_mod (v_callTy call_int1 co_int E.n_int (a_cons (v_tget (i := 0) (k := 2)) a_nil)) (v_var (i := 1)))
      refine ss_cons ?_ ?_
      · skip
        exact s_tset (i := 0) (k := 2) (v_op op_fdivW ok_fdiv (v_callTy call_int1 co_int E.n_int (a_cons (v_tget (i := 0) (k := 2)) a_nil)) (v_var (i := 1)))
      refine ss_one ?_
      · skip
        exact s_retV (i := 3)
    · skip
      exact ss_nil
  refine ss_cons ?_ ?_
  · skip
    exact s_tset (i := 0) (k := 3) (v_op op_mod ok_mod (v_callTy call_int1 co_int E.n_int (a_cons (v_op op_addAll ok_add (v_op op_mulW ok_mul (v_tget (i := 0) (k := 3)) v_int) v_int) a_nil)) v_int)
  refine ss_one ?_
  · skip
    exact s_ret (v_op op_mod ok_mod (v_callTy call_int1 co_int E.n_int (a_cons (v_op op_fdivW ok_fdiv (v_tget (i := 0) (k := 3)) v_int) a_nil)) (v_var (i := 1)))
theorem ok__law_group (E : Env K mg) : FnOk P w K mg base (L2.CX P w) 2 E.a__law_group E.fd__law_group ["d"] (FSp K ⟨[], 0⟩ 1 F__law_group) := by
  have S : FnScope N__law_group ["d"] (defScope (top 30)) := ⟨rfl, rfl, rfl, by decide +kernel, rfl, by decide +kernel, by decide +kernel⟩
  refine fn_def (N := N__law_group) (cs := C__law_group) E.F__law_group S (by decide) fun cdv A outer s H Ex hr => ?_
  refine ss_cons ?_ ?_
  · skip
    exact s_asg (i := 1) S.nd (v_lst (a_cons (v_tup (a_cons v_int (a_cons v_int (a_cons v_int a_nil)))) (a_cons (v_tup (a_cons v_int (a_cons v_int (a_cons v_int a_nil)))) (a_cons (v_tup (a_cons v_int (a_cons v_int (a_cons v_int a_nil)))) (a_cons (v_tup (a_cons v_int (a_cons v_int (a_cons v_int a_nil)))) (a_cons (v_tup (a_cons v_int (a_cons v_int (a_cons v_int a_nil)))) (a_cons (v_tup (a_cons v_int (a_cons v_int (a_cons v_int a_nil)))) (a_cons (v_tup (a_cons v_int (a_cons v_int (a_cons v_int a_nil)))) (a_cons (v_tup (a_cons v_int (a_cons v_int (a_cons v_int a_nil)))) (a_cons (v_tup (a_cons v_int (a_cons v_int (a_cons v_int a_nil)))) (a_cons (v_tup (a_cons v_int (a_cons v_int (a_cons v_int a_nil)))) a_nil)))))))))))
  refine ss_one ?_
  · skip
    exact s_ret (v_ix (v_var (i := 1)) (v_call (ok__law_take E) (takes_of rfl rfl rfl rfl) (hr.mono (by decide)) E.m__law_take E.k__law_take E.b__law_take (a_cons (v_var (i := 0)) (a_cons v_int a_nil))))
theorem ok_is_prime (E : Env K mg) : FnOk P w K mg base (L2.CX P w) 1 E.a_is_prime E.fd_is_prime ["number"] (FSp K ⟨[], 0⟩ 1 F_is_prime) := by
  have S : FnScope N_is_prime ["number"] (defScope (top 4)) := ⟨rfl, rfl, rfl, by decide +kernel, rfl, by decide +kernel, by decide +kernel⟩
  refine fn_def (N := N_is_prime) (cs := C_is_prime) E.F_is_prime S (by decide) fun cdv A outer s H Ex hr => ?_
  refine ss_cons ?_ ?_
  · skip
    refine s_if (t_cmp op_lt ok_lt bl_lt (v_var (i := 0)) v_int) ?_ ?_
    · skip
      refine ss_one ?_
      · skip
        exact s_ret v_bl
    · skip
      exact ss_nil
  refine ss_cons ?_ ?_
  · skip
    exact s_asg (i := 1) S.nd v_int
  refine ss_cons ?_ ?_
  · skip
    refine s_while FUEL (passes_of rfl) (t_cmp op_le ok_le bl_le (v_op op_mulW ok_mul (v_var (i := 1)) (v_var (i := 1))) (v_var (i := 0))) ?_
    refine ss_cons ?_ ?_
    · skip
      refine s_if (t_cmp (op_eqD hr.units) ok_eq bl_eq (v_op op_mod ok_mod (v_var (i := 0)) (v_var (i := 1))) v_int) ?_ ?_
      · skip
        refine ss_one ?_
        · skip
          exact s_ret v_bl
      · skip
        exact ss_nil
    refine ss_one ?_
    · skip
      exact s_aug (i := 1) iop_add ok_iadd S.nd v_int
  refine ss_one ?_
  · skip
    exact s_ret v_bl
theorem ok_power_in (E : Env K mg) : FnOk P w K mg base (L2.CX P w) 1 E.a_power_in E.fd_power_in ["p", "base", "times"] (FSp K ⟨[], 0⟩ 3 F_power_in) := by
  have S : FnScope N_power_in ["p", "base", "times"] (defScope (top 6)) := ⟨rfl, rfl, rfl, by decide +kernel, rfl, by decide +kernel, by decide +kernel⟩
  refine fn_def (N := N_power_in) (cs := C_power_in) E.F_power_in S (by decide) fun cdv A outer s H Ex hr => ?_
  refine ss_cons ?_ ?_
  · skip
    exact s_asg (i := 3) S.nd v_int
  refine ss_cons ?_ ?_
  · skip
    exact s_aug (i := 1) iop_mod ok_mod S.nd (v_var (i := 0))
  refine ss_cons ?_ ?_
  · skip
    refine s_while FUEL (passes_of rfl) (t_cmp op_gt ok_gt bl_gt (v_var (i := 2)) v_int) ?_
    refine ss_cons ?_ ?_
    · skip
      refine s_if (t_cmp (op_eqD hr.units) ok_eq bl_eq (v_op op_mod ok_mod (v_var (i := 2)) v_int) v_int) ?_ ?_
      · skip
        refine ss_one ?_
        · skip
          exact s_asg (i := 3) S.nd (v_op op_mod ok_mod (v_op op_mulW ok_mul (v_var (i := 3)) (v_var (i := 1))) (v_var (i := 0)))
      · skip
        exact ss_nil
    refine ss_cons ?_ ?_
    · skip
      exact s_asg (i := 1) S.nd (v_op op_mod ok_mod (v_op op_mulW ok_mul (v_var (i := 1)) (v_var (i := 1))) (v_var (i := 0)))
    refine ss_one ?_
    · skip
      exact s_aug (i := 2) iop_fdivW ok_fdiv S.nd v_int
  refine ss_one ?_
  · skip
    exact s_retV (i := 3)
theorem ok_check (E : Env K mg) : FnOk P w K mg base (L2.CX P w) 2 E.a_check E.fd_check ["group"] (FSp K ⟨[], 0⟩ 1 F_check) := by
  have S : FnScope N_check ["group"] (defScope (top 5)) := ⟨rfl, rfl, rfl, by decide +kernel, rfl, by decide +kernel, by decide +kernel⟩
  refine fn_def (N := N_check) (cs := C_check) E.F_check S (by decide) fun cdv A outer s H Ex hr => ?_
  refine ss_cons ?_ ?_
  · skip
    exact s_unp (js := [1, 2, 3]) (v_var (i := 0)) (pg_tup rfl (pgs_cons (pg_name (i := 1) S.nd rfl (by first | exact Or.inl rfl | exact Or.inr rfl)) (pgs_cons (pg_name (i := 2) S.nd rfl (by first | exact Or.inl rfl | exact Or.inr rfl)) (pgs_cons (pg_name (i := 3) S.nd rfl (by first | exact Or.inl rfl | exact Or.inr rfl)) pgs_nil))))
  refine ss_cons ?_ ?_
  · skip
    refine s_if (t_w (w_or (t_not (t_chain op_le op_le ok_le ok_le bl_le v_int (v_var (i := 1)) (v_gint E.g_MOST))) (w_or1 (t_not (t_val (v_call (ok_is_prime E) (takes_of rfl rfl rfl rfl) (hr.mono (by decide)) E.m_is_prime E.k_is_prime E.b_is_prime (a_cons (v_var (i := 1)) a_nil))))))) ?_ ?_
    · skip
      exact ss_never
    · skip
      exact ss_nil
  refine ss_cons ?_ ?_
  · skip
    refine s_if (t_w (w_or (t_not (t_val (v_call (ok_is_prime E) (takes_of rfl rfl rfl rfl) (hr.mono (by decide)) E.m_is_prime E.k_is_prime E.b_is_prime (a_cons (v_var (i := 2)) a_nil)))) (w_or1 (t_cmp (op_neD hr.units) ok_ne bl_ne (v_op op_mod ok_mod (v_op op_sub ok_sub (v_var (i := 1)) v_int) (v_var (i := 2))) v_int)))) ?_ ?_
    · skip
      exact ss_never
    · skip
      exact ss_nil
  refine ss_one ?_
  · skip
    refine s_if (t_w (w_or (t_not (t_chain op_le op_lt ok_le ok_lt bl_lt v_int (v_var (i := 3)) (v_var (i := 1)))) (w_or1 (t_cmp (op_neD hr.units) ok_ne bl_ne (v_call (ok_power_in E) (takes_of rfl rfl rfl rfl) (hr.mono (by decide)) E.m_power_in E.k_power_in E.b_power_in (a_cons (v_var (i := 1)) (a_cons (v_var (i := 3)) (a_cons (v_var (i := 2)) a_nil)))) v_int)))) ?_ ?_
    · skip
      exact ss_never
    · skip
      exact ss_nil
theorem ok_members (E : Env K mg) : FnOk P w K mg base (L2.CX P w) 3 E.a_members E.fd_members ["group"] (FSp K ⟨[], 0⟩ 1 F_members) := by
  have S : FnScope N_members ["group"] (defScope (top 8)) := ⟨rfl, rfl, rfl, by decide +kernel, rfl, by decide +kernel, by decide +kernel⟩
  refine fn_def (N := N_members) (cs := C_members) E.F_members S (by decide) fun cdv A outer s H Ex hr => ?_
  refine ss_cons ?_ ?_
  · skip
    exact s_drop (v_call (ok_check E) (takes_of rfl rfl rfl rfl) (hr.mono (by decide)) E.m_check E.k_check E.b_check (a_cons (v_var (i := 0)) a_nil))
  refine ss_cons ?_ ?_
  · skip
    exact s_asg (i := 1) S.nd (v_lst a_nil)
  refine ss_cons ?_ ?_
  · skip
    exact s_asg (i := 2) S.nd v_int
  refine ss_cons ?_ ?_
  · skip
    refine s_for (passes_of rfl) (i_range1 E.n_range (a_cons (v_ix (v_var (i := 0)) v_int) a_nil)) (pg_name (i := 3) S.nd rfl (by first | exact Or.inl rfl | exact Or.inr rfl)) ?_
    refine ss_cons ?_ ?_
    · skip
      exact s_app (i := 1) (v_var (i := 2))
    refine ss_one ?_
    · skip
      exact s_asg (i := 2) S.nd (v_op op_mod ok_mod (v_op op_mulW ok_mul (v_var (i := 2)) (v_ix (v_var (i := 0)) v_int)) (v_ix (v_var (i := 0)) v_int))
  refine ss_one ?_
  · skip
    exact s_ret (v_callTy call_tuple_of co_tuple E.n_tuple (a_cons (v_callB cr_sortedI co_sorted E.n_sorted (a_cons (v_var (i := 1)) a_nil)) a_nil))
theorem ok_check_key (E : Env K mg) : FnOk P w K mg base (L2.CX P w) 3 E.a_check_key E.fd_check_key ["group", "key"] (FSp K ⟨[], 0⟩ 2 F_check_key) := by
  have S : FnScope N_check_key ["group", "key"] (defScope (top 11)) := ⟨rfl, rfl, rfl, by decide +kernel, rfl, by decide +kernel, by decide +kernel⟩
  refine fn_def (N := N_check_key) (cs := C_check_key) E.F_check_key S (by decide) fun cdv A outer s H Ex hr => ?_
  refine ss_cons ?_ ?_
  · skip
    exact s_drop (v_call (ok_check E) (takes_of rfl rfl rfl rfl) (hr.mono (by decide)) E.m_check E.k_check E.b_check (a_cons (v_var (i := 0)) a_nil))
  refine ss_one ?_
  · skip
    refine s_if (t_not (t_chain op_le op_lt ok_le ok_lt bl_lt v_int (v_var (i := 1)) (v_ix (v_var (i := 0)) v_int))) ?_ ?_
    · skip
      exact ss_never
    · skip
      exact ss_nil
theorem ok_agreed (E : Env K mg) : FnOk P w K mg base (L2.CX P w) 4 E.a_agreed E.fd_agreed ["group", "own", "other"] (FSp K ⟨[], 0⟩ 3 F_agreed) := by
  have S : FnScope N_agreed ["group", "own", "other"] (defScope (top 12)) := ⟨rfl, rfl, rfl, by decide +kernel, rfl, by decide +kernel, by decide +kernel⟩
  refine fn_def (N := N_agreed) (cs := C_agreed) E.F_agreed S (by decide) fun cdv A outer s H Ex hr => ?_
  refine ss_cons ?_ ?_
  · skip
    exact s_drop (v_call (ok_check_key E) (takes_of rfl rfl rfl rfl) (hr.mono (by decide)) E.m_check_key E.k_check_key E.b_check_key (a_cons (v_var (i := 0)) (a_cons (v_var (i := 1)) a_nil)))
  refine ss_cons ?_ ?_
  · skip
    exact s_drop (v_call (ok_check_key E) (takes_of rfl rfl rfl rfl) (hr.mono (by decide)) E.m_check_key E.k_check_key E.b_check_key (a_cons (v_var (i := 0)) (a_cons (v_var (i := 2)) a_nil)))
  refine ss_cons ?_ ?_
  · skip
    exact s_unp (js := [3, 4, 5]) (v_var (i := 0)) (pg_tup rfl (pgs_cons (pg_name (i := 3) S.nd rfl (by first | exact Or.inl rfl | exact Or.inr rfl)) (pgs_cons (pg_name (i := 4) S.nd rfl (by first | exact Or.inl rfl | exact Or.inr rfl)) (pgs_cons (pg_name (i := 5) S.nd rfl (by first | exact Or.inl rfl | exact Or.inr rfl)) pgs_nil))))
  refine ss_cons ?_ ?_
  · skip
    exact s_par2 (i := 6) (j := 7) S.nd (a_cons (v_call (ok_power_in E) (takes_of rfl rfl rfl rfl) (hr.mono (by decide)) E.m_power_in E.k_power_in E.b_power_in (a_cons (v_var (i := 3)) (a_cons (v_var (i := 5)) (a_cons (v_var (i := 1)) a_nil)))) (a_cons (v_call (ok_power_in E) (takes_of rfl rfl rfl rfl) (hr.mono (by decide)) E.m_power_in E.k_power_in E.b_power_in (a_cons (v_var (i := 3)) (a_cons (v_var (i := 5)) (a_cons (v_var (i := 2)) a_nil)))) a_nil)) (hw := by rfl)
  refine ss_one ?_
  · skip
    exact s_ret (v_tup (a_cons (v_var (i := 6)) (a_cons (v_var (i := 7)) (a_cons (v_call (ok_power_in E) (takes_of rfl rfl rfl rfl) (hr.mono (by decide)) E.m_power_in E.k_power_in E.b_power_in (a_cons (v_var (i := 3)) (a_cons (v_var (i := 7)) (a_cons (v_var (i := 1)) a_nil)))) a_nil))))
theorem ok_power (E : Env K mg) : FnOk P w K mg base (L2.CX P w) 3 E.a_power E.fd_power ["group", "base", "times"] (FSp K ⟨[], 0⟩ 3 F_power) := by
  have S : FnScope N_power ["group", "base", "times"] (defScope (top 7)) := ⟨rfl, rfl, rfl, by decide +kernel, rfl, by decide +kernel, by decide +kernel⟩
  refine fn_def (N := N_power) (cs := C_power) E.F_power S (by decide) fun cdv A outer s H Ex hr => ?_
  refine ss_cons ?_ ?_
  · skip
    exact s_drop (v_call (ok_check E) (takes_of rfl rfl rfl rfl) (hr.mono (by decide)) E.m_check E.k_check E.b_check (a_cons (v_var (i := 0)) a_nil))
  refine ss_cons ?_ ?_
  · skip
    refine s_if (t_not (t_chain op_le op_lt ok_le ok_lt bl_lt v_int (v_var (i := 1)) (v_ix (v_var (i := 0)) v_int))) ?_ ?_
    · skip
      exact ss_never
    · skip
      exact ss_nil
  refine ss_one ?_
  · skip
    exact s_ret (v_call (ok_power_in E) (takes_of rfl rfl rfl rfl) (hr.mono (by decide)) E.m_power_in E.k_power_in E.b_power_in (a_cons (v_ix (v_var (i := 0)) v_int) (a_cons (v_var (i := 1)) (a_cons (v_op op_mod ok_mod (v_var (i := 2)) (v_op op_sub ok_sub (v_ix (v_var (i := 0)) v_int) v_int)) a_nil))))
theorem ok_check_member (E : Env K mg) : FnOk P w K mg base (L2.CX P w) 3 E.a_check_member E.fd_check_member ["group", "one"] (FSp K ⟨[], 0⟩ 2 F_check_member) := by
  have S : FnScope N_check_member ["group", "one"] (defScope (top 9)) := ⟨rfl, rfl, rfl, by decide +kernel, rfl, by decide +kernel, by decide +kernel⟩
  refine fn_def (N := N_check_member) (cs := C_check_member) E.F_check_member S (by decide) fun cdv A outer s H Ex hr => ?_
  refine ss_cons ?_ ?_
  · skip
    exact s_drop (v_call (ok_check E) (takes_of rfl rfl rfl rfl) (hr.mono (by decide)) E.m_check E.k_check E.b_check (a_cons (v_var (i := 0)) a_nil))
  refine ss_one ?_
  · skip
    refine s_if (t_w (w_or (t_not (t_chain op_le op_lt ok_le ok_lt bl_lt v_int (v_var (i := 1)) (v_ix (v_var (i := 0)) v_int))) (w_or1 (t_cmp (op_neD hr.units) ok_ne bl_ne (v_call (ok_power_in E) (takes_of rfl rfl rfl rfl) (hr.mono (by decide)) E.m_power_in E.k_power_in E.b_power_in (a_cons (v_ix (v_var (i := 0)) v_int) (a_cons (v_var (i := 1)) (a_cons (v_ix (v_var (i := 0)) v_int) a_nil)))) v_int)))) ?_ ?_
    · skip
      exact ss_never
    · skip
      exact ss_nil
theorem ok_lock (E : Env K mg) : FnOk P w K mg base (L2.CX P w) 4 E.a_lock E.fd_lock ["group", "public", "message", "drawn"] (FSp K ⟨[], 0⟩ 4 F_lock) := by
  have S : FnScope N_lock ["group", "public", "message", "drawn"] (defScope (top 13)) := ⟨rfl, rfl, rfl, by decide +kernel, rfl, by decide +kernel, by decide +kernel⟩
  refine fn_def (N := N_lock) (cs := C_lock) E.F_lock S (by decide) fun cdv A outer s H Ex hr => ?_
  refine ss_cons ?_ ?_
  · skip
    exact s_drop (v_call (ok_check_member E) (takes_of rfl rfl rfl rfl) (hr.mono (by decide)) E.m_check_member E.k_check_member E.b_check_member (a_cons (v_var (i := 0)) (a_cons (v_var (i := 1)) a_nil)))
  refine ss_cons ?_ ?_
  · skip
    exact s_drop (v_call (ok_check_member E) (takes_of rfl rfl rfl rfl) (hr.mono (by decide)) E.m_check_member E.k_check_member E.b_check_member (a_cons (v_var (i := 0)) (a_cons (v_var (i := 2)) a_nil)))
  refine ss_cons ?_ ?_
  · skip
    exact s_drop (v_call (ok_check_key E) (takes_of rfl rfl rfl rfl) (hr.mono (by decide)) E.m_check_key E.k_check_key E.b_check_key (a_cons (v_var (i := 0)) (a_cons (v_var (i := 3)) a_nil)))
  refine ss_cons ?_ ?_
  · skip
    exact s_unp (js := [4, 5, 6]) (v_var (i := 0)) (pg_tup rfl (pgs_cons (pg_name (i := 4) S.nd rfl (by first | exact Or.inl rfl | exact Or.inr rfl)) (pgs_cons (pg_name (i := 5) S.nd rfl (by first | exact Or.inl rfl | exact Or.inr rfl)) (pgs_cons (pg_name (i := 6) S.nd rfl (by first | exact Or.inl rfl | exact Or.inr rfl)) pgs_nil))))
  refine ss_one ?_
  · skip
    exact s_ret (v_tup (a_cons (v_call (ok_power_in E) (takes_of rfl rfl rfl rfl) (hr.mono (by decide)) E.m_power_in E.k_power_in E.b_power_in (a_cons (v_var (i := 4)) (a_cons (v_var (i := 6)) (a_cons (v_var (i := 3)) a_nil)))) (a_cons (v_op op_mod ok_mod (v_op op_mulW ok_mul (v_var (i := 2)) (v_call (ok_power_in E) (takes_of rfl rfl rfl rfl) (hr.mono (by decide)) E.m_power_in E.k_power_in E.b_power_in (a_cons (v_var (i := 4)) (a_cons (v_var (i := 1)) (a_cons (v_var (i := 3)) a_nil))))) (v_var (i := 4))) a_nil)))
theorem ok_is_right (E : Env K mg) : FnOk P w K mg base (L2.CX P w) 4 E.a_is_right E.fd_is_right ["group", "public", "row"] (FSp K ⟨[], 0⟩ 3 F_is_right) := by
  have S : FnScope N_is_right ["group", "public", "row"] (defScope (top 21)) := ⟨rfl, rfl, rfl, by decide +kernel, rfl, by decide +kernel, by decide +kernel⟩
  refine fn_def (N := N_is_right) (cs := C_is_right) E.F_is_right S (by decide) fun cdv A outer s H Ex hr => ?_
  refine ss_cons ?_ ?_
  · skip
    exact s_drop (v_call (ok_check_member E) (takes_of rfl rfl rfl rfl) (hr.mono (by decide)) E.m_check_member E.k_check_member E.b_check_member (a_cons (v_var (i := 0)) (a_cons (v_var (i := 1)) a_nil)))
  refine ss_cons ?_ ?_
  · skip
    exact s_unp (js := [3, 4, 5]) (v_var (i := 2)) (pg_tup rfl (pgs_cons (pg_name (i := 3) S.nd rfl (by first | exact Or.inl rfl | exact Or.inr rfl)) (pgs_cons (pg_name (i := 4) S.nd rfl (by first | exact Or.inl rfl | exact Or.inr rfl)) (pgs_cons (pg_name (i := 5) S.nd rfl (by first | exact Or.inl rfl | exact Or.inr rfl)) pgs_nil))))
  refine ss_cons ?_ ?_
  · skip
    refine s_if (t_not (t_w (w_and (t_chain op_le op_lt ok_le ok_lt bl_lt v_int (v_var (i := 3)) (v_ix (v_var (i := 0)) v_int)) (w_and (t_chain op_le op_lt ok_le ok_lt bl_lt v_int (v_var (i := 4)) (v_ix (v_var (i := 0)) v_int)) (w_and1 (t_chain op_le op_lt ok_le ok_lt bl_lt v_int (v_var (i := 5)) (v_ix (v_var (i := 0)) v_int))))))) ?_ ?_
    · skip
      refine ss_one ?_
      · skip
        exact s_ret v_bl
    · skip
      exact ss_nil
  refine ss_cons ?_ ?_
  · skip
    exact s_unp (js := [6, 7, 8]) (v_var (i := 0)) (pg_tup rfl (pgs_cons (pg_name (i := 6) S.nd rfl (by first | exact Or.inl rfl | exact Or.inr rfl)) (pgs_cons (pg_name (i := 7) S.nd rfl (by first | exact Or.inl rfl | exact Or.inr rfl)) (pgs_cons (pg_name (i := 8) S.nd rfl (by first | exact Or.inl rfl | exact Or.inr rfl)) pgs_nil))))
  refine ss_one ?_
  · skip
    exact s_ret (v_cmp (op_eqD hr.units) ok_eq (v_call (ok_power_in E) (takes_of rfl rfl rfl rfl) (hr.mono (by decide)) E.m_power_in E.k_power_in E.b_power_in (a_cons (v_var (i := 6)) (a_cons (v_var (i := 8)) (a_cons (v_var (i := 5)) a_nil)))) (v_op op_mod ok_mod (v_op op_mulW ok_mul (v_var (i := 3)) (v_call (ok_power_in E) (takes_of rfl rfl rfl rfl) (hr.mono (by decide)) E.m_power_in E.k_power_in E.b_power_in (a_cons (v_var (i := 6)) (a_cons (v_var (i := 1)) (a_cons (v_var (i := 4)) a_nil))))) (v_var (i := 6))))
theorem ok_same_log (E : Env K mg) : FnOk P w K mg base (L2.CX P w) 4 E.a_same_log E.fd_same_log ["group", "second", "key", "drawn", "asked"] (FSp K ⟨[], 0⟩ 5 F_same_log) := by
  have S : FnScope N_same_log ["group", "second", "key", "drawn", "asked"] (defScope (top 24)) := ⟨rfl, rfl, rfl, by decide +kernel, rfl, by decide +kernel, by decide +kernel⟩
  refine fn_def (N := N_same_log) (cs := C_same_log) E.F_same_log S (by decide) fun cdv A outer s H Ex hr => ?_
  refine ss_cons ?_ ?_
  · skip
    exact s_drop (v_call (ok_check_member E) (takes_of rfl rfl rfl rfl) (hr.mono (by decide)) E.m_check_member E.k_check_member E.b_check_member (a_cons (v_var (i := 0)) (a_cons (v_var (i := 1)) a_nil)))
  refine ss_cons ?_ ?_
  · skip
    exact s_drop (v_call (ok_check_key E) (takes_of rfl rfl rfl rfl) (hr.mono (by decide)) E.m_check_key E.k_check_key E.b_check_key (a_cons (v_var (i := 0)) (a_cons (v_var (i := 2)) a_nil)))
  refine ss_cons ?_ ?_
  · skip
    exact s_drop (v_call (ok_check_key E) (takes_of rfl rfl rfl rfl) (hr.mono (by decide)) E.m_check_key E.k_check_key E.b_check_key (a_cons (v_var (i := 0)) (a_cons (v_var (i := 3)) a_nil)))
  refine ss_cons ?_ ?_
  · skip
    exact s_drop (v_call (ok_check_key E) (takes_of rfl rfl rfl rfl) (hr.mono (by decide)) E.m_check_key E.k_check_key E.b_check_key (a_cons (v_var (i := 0)) (a_cons (v_var (i := 4)) a_nil)))
  refine ss_cons ?_ ?_
  · skip
    exact s_unp (js := [5, 6, 7]) (v_var (i := 0)) (pg_tup rfl (pgs_cons (pg_name (i := 5) S.nd rfl (by first | exact Or.inl rfl | exact Or.inr rfl)) (pgs_cons (pg_name (i := 6) S.nd rfl (by first | exact Or.inl rfl | exact Or.inr rfl)) (pgs_cons (pg_name (i := 7) S.nd rfl (by first | exact Or.inl rfl | exact Or.inr rfl)) pgs_nil))))
  refine ss_one ?_
  · skip
    exact s_ret (v_tup (a_cons (v_call (ok_power_in E) (takes_of rfl rfl rfl rfl) (hr.mono (by decide)) E.m_power_in E.k_power_in E.b_power_in (a_cons (v_var (i := 5)) (a_cons (v_var (i := 7)) (a_cons (v_var (i := 3)) a_nil)))) (a_cons (v_call (ok_power_in E) (takes_of rfl rfl rfl rfl) (hr.mono (by decide)) E.m_power_in E.k_power_in E.b_power_in (a_cons (v_var (i := 5)) (a_cons (v_var (i := 1)) (a_cons (v_var (i := 3)) a_nil)))) (a_cons (v_var (i := 4)) (a_cons (v_op op_mod ok_mod (v_op op_addAll ok_add (v_var (i := 3)) (v_op op_mulW ok_mul (v_var (i := 4)) (v_var (i := 2)))) (v_ix (v_var (i := 0)) v_int)) a_nil)))))
theorem ok_is_same_log (E : Env K mg) : FnOk P w K mg base (L2.CX P w) 4 E.a_is_same_log E.fd_is_same_log ["group", "second", "public", "other", "row"] (FSp K ⟨[], 0⟩ 5 F_is_same_log) := by
  have S : FnScope N_is_same_log ["group", "second", "public", "other", "row"] (defScope (top 25)) := ⟨rfl, rfl, rfl, by decide +kernel, rfl, by decide +kernel, by decide +kernel⟩
  refine fn_def (N := N_is_same_log) (cs := C_is_same_log) E.F_is_same_log S (by decide) fun cdv A outer s H Ex hr => ?_
  refine ss_cons ?_ ?_
  · skip
    refine s_for (passes_of rfl) (i_seqF (v_tup (a_cons (v_var (i := 1)) (a_cons (v_var (i := 2)) (a_cons (v_var (i := 3)) a_nil))))) (pg_name (i := 5) S.nd rfl (by first | exact Or.inl rfl | exact Or.inr rfl)) ?_
    refine ss_one ?_
    · skip
      exact s_drop (v_call (ok_check_member E) (takes_of rfl rfl rfl rfl) (hr.mono (by decide)) E.m_check_member E.k_check_member E.b_check_member (a_cons (v_var (i := 0)) (a_cons (v_var (i := 5)) a_nil)))
  refine ss_cons ?_ ?_
  · skip
    exact s_unp (js := [6, 7, 8, 9]) (v_var (i := 4)) (pg_tup rfl (pgs_cons (pg_name (i := 6) S.nd rfl (by first | exact Or.inl rfl | exact Or.inr rfl)) (pgs_cons (pg_name (i := 7) S.nd rfl (by first | exact Or.inl rfl | exact Or.inr rfl)) (pgs_cons (pg_name (i := 8) S.nd rfl (by first | exact Or.inl rfl | exact Or.inr rfl)) (pgs_cons (pg_name (i := 9) S.nd rfl (by first | exact Or.inl rfl | exact Or.inr rfl)) pgs_nil)))))
  refine ss_cons ?_ ?_
  · skip
    exact s_unp (js := [10, 11, 12]) (v_var (i := 0)) (pg_tup rfl (pgs_cons (pg_name (i := 10) S.nd rfl (by first | exact Or.inl rfl | exact Or.inr rfl)) (pgs_cons (pg_name (i := 11) S.nd rfl (by first | exact Or.inl rfl | exact Or.inr rfl)) (pgs_cons (pg_name (i := 12) S.nd rfl (by first | exact Or.inl rfl | exact Or.inr rfl)) pgs_nil))))
  refine ss_cons ?_ ?_
  · skip
    refine s_if (t_not (t_w (w_and (t_chain op_le op_lt ok_le ok_lt bl_lt v_int (v_var (i := 8)) (v_var (i := 11))) (w_and (t_chain op_le op_lt ok_le ok_lt bl_lt v_int (v_var (i := 9)) (v_var (i := 11))) (w_and (t_chain op_le op_lt ok_le ok_lt bl_lt v_int (v_var (i := 6)) (v_var (i := 10))) (w_and1 (t_chain op_le op_lt ok_le ok_lt bl_lt v_int (v_var (i := 7)) (v_var (i := 10))))))))) ?_ ?_
    · skip
      refine ss_one ?_
      · skip
        exact s_ret v_bl
    · skip
      exact ss_nil
  refine ss_cons ?_ ?_
  · skip
    exact s_asg (i := 5) S.nd (v_cmp (op_eqD hr.units) ok_eq (v_call (ok_power_in E) (takes_of rfl rfl rfl rfl) (hr.mono (by decide)) E.m_power_in E.k_power_in E.b_power_in (a_cons (v_var (i := 10)) (a_cons (v_var (i := 12)) (a_cons (v_var (i := 9)) a_nil)))) (v_op op_mod ok_mod (v_op op_mulW ok_mul (v_var (i := 6)) (v_call (ok_power_in E) (takes_of rfl rfl rfl rfl) (hr.mono (by decide)) E.m_power_in E.k_power_in E.b_power_in (a_cons (v_var (i := 10)) (a_cons (v_var (i := 2)) (a_cons (v_var (i := 8)) a_nil))))) (v_var (i := 10))))
  refine ss_one ?_
  · skip
    exact s_ret (v_and (v_var (i := 5)) (v_one (v_cmp (op_eqD hr.units) ok_eq (v_call (ok_power_in E) (takes_of rfl rfl rfl rfl) (hr.mono (by decide)) E.m_power_in E.k_power_in E.b_power_in (a_cons (v_var (i := 10)) (a_cons (v_var (i := 1)) (a_cons (v_var (i := 9)) a_nil)))) (v_op op_mod ok_mod (v_op op_mulW ok_mul (v_var (i := 7)) (v_call (ok_power_in E) (takes_of rfl rfl rfl rfl) (hr.mono (by decide)) E.m_power_in E.k_power_in E.b_power_in (a_cons (v_var (i := 10)) (a_cons (v_var (i := 3)) (a_cons (v_var (i := 8)) a_nil))))) (v_var (i := 10))))))
theorem ok__law_power (E : Env K mg) : FnOk P w K mg base (L2.CX P w) 1 E.a__law_power E.fd__law_power ["p", "base", "times"] (FSp K ⟨[], 0⟩ 3 F__law_power) := by
  have S : FnScope N__law_power ["p", "base", "times"] (defScope (top 29)) := ⟨rfl, rfl, rfl, by decide +kernel, rfl, by decide +kernel, by decide +kernel⟩
  refine fn_def (N := N__law_power) (cs := C__law_power) E.F__law_power S (by decide) fun cdv A outer s H Ex hr => ?_
  refine ss_cons ?_ ?_
  · skip
    exact s_asg (i := 3) S.nd v_int
  refine ss_cons ?_ ?_
  · skip
    refine s_for (passes_of rfl) (i_range1 E.n_range (a_cons (v_var (i := 2)) a_nil)) (pg_name (i := 4) S.nd rfl (by first | exact Or.inl rfl | exact Or.inr rfl)) ?_
    refine ss_one ?_
    · skip
      exact s_asg (i := 3) S.nd (v_op op_mod ok_mod (v_callTy call_int1 co_int E.n_int (a_cons (v_op op_mulW ok_mul (v_var (i := 3)) (v_var (i := 1))) a_nil)) (v_var (i := 0)))
  refine ss_one ?_
  · skip
    exact s_retV (i := 3)
theorem ok_unlock (E : Env K mg) : FnOk P w K mg base (L2.CX P w) 4 E.a_unlock E.fd_unlock ["group", "key", "pair"] (FSp K ⟨[], 0⟩ 3 F_unlock) := by
  have S : FnScope N_unlock ["group", "key", "pair"] (defScope (top 14)) := ⟨rfl, rfl, rfl, by decide +kernel, rfl, by decide +kernel, by decide +kernel⟩
  refine fn_def (N := N_unlock) (cs := C_unlock) E.F_unlock S (by decide) fun cdv A outer s H Ex hr => ?_
  refine ss_cons ?_ ?_
  · skip
    exact s_drop (v_call (ok_check_key E) (takes_of rfl rfl rfl rfl) (hr.mono (by decide)) E.m_check_key E.k_check_key E.b_check_key (a_cons (v_var (i := 0)) (a_cons (v_var (i := 1)) a_nil)))
  refine ss_cons ?_ ?_
  · skip
    exact s_drop (v_call (ok_check_member E) (takes_of rfl rfl rfl rfl) (hr.mono (by decide)) E.m_check_member E.k_check_member E.b_check_member (a_cons (v_var (i := 0)) (a_cons (v_ix (v_var (i := 2)) v_int) a_nil)))
  refine ss_cons ?_ ?_
  · skip
    exact s_drop (v_call (ok_check_member E) (takes_of rfl rfl rfl rfl) (hr.mono (by decide)) E.m_check_member E.k_check_member E.b_check_member (a_cons (v_var (i := 0)) (a_cons (v_ix (v_var (i := 2)) v_int) a_nil)))
  refine ss_cons ?_ ?_
  · skip
    exact s_unp (js := [3, 4, 5]) (v_var (i := 0)) (pg_tup rfl (pgs_cons (pg_name (i := 3) S.nd rfl (by first | exact Or.inl rfl | exact Or.inr rfl)) (pgs_cons (pg_name (i := 4) S.nd rfl (by first | exact Or.inl rfl | exact Or.inr rfl)) (pgs_cons (pg_name (i := 5) S.nd rfl (by first | exact Or.inl rfl | exact Or.inr rfl)) pgs_nil))))
  refine ss_one ?_
  · skip
    exact s_ret (v_op op_mod ok_mod (v_op op_mulW ok_mul (v_ix (v_var (i := 2)) v_int) (v_call (ok_power_in E) (takes_of rfl rfl rfl rfl) (hr.mono (by decide)) E.m_power_in E.k_power_in E.b_power_in (a_cons (v_var (i := 3)) (a_cons (v_ix (v_var (i := 2)) v_int) (a_cons (v_op op_sub ok_sub (v_var (i := 4)) (v_var (i := 1))) a_nil))))) (v_var (i := 3)))
theorem ok_joined (E : Env K mg) : FnOk P w K mg base (L2.CX P w) 4 E.a_joined E.fd_joined ["group", "one", "other"] (FSp K ⟨[], 0⟩ 3 F_joined) := by
  have S : FnScope N_joined ["group", "one", "other"] (defScope (top 15)) := ⟨rfl, rfl, rfl, by decide +kernel, rfl, by decide +kernel, by decide +kernel⟩
  refine fn_def (N := N_joined) (cs := C_joined) E.F_joined S (by decide) fun cdv A outer s H Ex hr => ?_
  refine ss_cons ?_ ?_
  · skip
    refine s_for (passes_of rfl) (i_seqF (v_op op_addAll ok_add (v_var (i := 1)) (v_var (i := 2)))) (pg_name (i := 3) S.nd rfl (by first | exact Or.inl rfl | exact Or.inr rfl)) ?_
    refine ss_one ?_
    · skip
      exact s_drop (v_call (ok_check_member E) (takes_of rfl rfl rfl rfl) (hr.mono (by decide)) E.m_check_member E.k_check_member E.b_check_member (a_cons (v_var (i := 0)) (a_cons (v_var (i := 3)) a_nil)))
  refine ss_one ?_
  · skip
    exact s_ret (v_tup (a_cons (v_op op_mod ok_mod (v_op op_mulW ok_mul (v_ix (v_var (i := 1)) v_int) (v_ix (v_var (i := 2)) v_int)) (v_ix (v_var (i := 0)) v_int)) (a_cons (v_op op_mod ok_mod (v_op op_mulW ok_mul (v_ix (v_var (i := 1)) v_int) (v_ix (v_var (i := 2)) v_int)) (v_ix (v_var (i := 0)) v_int)) a_nil)))
theorem ok_pledge (E : Env K mg) : FnOk P w K mg base (L2.CX P w) 4 E.a_pledge E.fd_pledge ["group", "second", "message", "drawn"] (FSp K ⟨[], 0⟩ 4 F_pledge) := by
  have S : FnScope N_pledge ["group", "second", "message", "drawn"] (defScope (top 17)) := ⟨rfl, rfl, rfl, by decide +kernel, rfl, by decide +kernel, by decide +kernel⟩
  refine fn_def (N := N_pledge) (cs := C_pledge) E.F_pledge S (by decide) fun cdv A outer s H Ex hr => ?_
  refine ss_cons ?_ ?_
  · skip
    exact s_drop (v_call (ok_check_member E) (takes_of rfl rfl rfl rfl) (hr.mono (by decide)) E.m_check_member E.k_check_member E.b_check_member (a_cons (v_var (i := 0)) (a_cons (v_var (i := 1)) a_nil)))
  refine ss_cons ?_ ?_
  · skip
    exact s_drop (v_call (ok_check_key E) (takes_of rfl rfl rfl rfl) (hr.mono (by decide)) E.m_check_key E.k_check_key E.b_check_key (a_cons (v_var (i := 0)) (a_cons (v_var (i := 2)) a_nil)))
  refine ss_cons ?_ ?_
  · skip
    exact s_drop (v_call (ok_check_key E) (takes_of rfl rfl rfl rfl) (hr.mono (by decide)) E.m_check_key E.k_check_key E.b_check_key (a_cons (v_var (i := 0)) (a_cons (v_var (i := 3)) a_nil)))
  refine ss_cons ?_ ?_
  · skip
    exact s_unp (js := [4, 5, 6]) (v_var (i := 0)) (pg_tup rfl (pgs_cons (pg_name (i := 4) S.nd rfl (by first | exact Or.inl rfl | exact Or.inr rfl)) (pgs_cons (pg_name (i := 5) S.nd rfl (by first | exact Or.inl rfl | exact Or.inr rfl)) (pgs_cons (pg_name (i := 6) S.nd rfl (by first | exact Or.inl rfl | exact Or.inr rfl)) pgs_nil))))
  refine ss_one ?_
  · skip
    exact s_ret (v_op op_mod ok_mod (v_op op_mulW ok_mul (v_call (ok_power_in E) (takes_of rfl rfl rfl rfl) (hr.mono (by decide)) E.m_power_in E.k_power_in E.b_power_in (a_cons (v_var (i := 4)) (a_cons (v_var (i := 6)) (a_cons (v_var (i := 2)) a_nil)))) (v_call (ok_power_in E) (takes_of rfl rfl rfl rfl) (hr.mono (by decide)) E.m_power_in E.k_power_in E.b_power_in (a_cons (v_var (i := 4)) (a_cons (v_var (i := 1)) (a_cons (v_var (i := 3)) a_nil))))) (v_var (i := 4)))
theorem ok_begin (E : Env K mg) : FnOk P w K mg base (L2.CX P w) 4 E.a_begin E.fd_begin ["group", "drawn"] (FSp K ⟨[], 0⟩ 2 F_begin) := by
  have S : FnScope N_begin ["group", "drawn"] (defScope (top 19)) := ⟨rfl, rfl, rfl, by decide +kernel, rfl, by decide +kernel, by decide +kernel⟩
  refine fn_def (N := N_begin) (cs := C_begin) E.F_begin S (by decide) fun cdv A outer s H Ex hr => ?_
  refine ss_cons ?_ ?_
  · skip
    exact s_drop (v_call (ok_check_key E) (takes_of rfl rfl rfl rfl) (hr.mono (by decide)) E.m_check_key E.k_check_key E.b_check_key (a_cons (v_var (i := 0)) (a_cons (v_var (i := 1)) a_nil)))
  refine ss_one ?_
  · skip
    exact s_ret (v_call (ok_power_in E) (takes_of rfl rfl rfl rfl) (hr.mono (by decide)) E.m_power_in E.k_power_in E.b_power_in (a_cons (v_ix (v_var (i := 0)) v_int) (a_cons (v_ix (v_var (i := 0)) v_int) (a_cons (v_var (i := 1)) a_nil))))
theorem ok_answer (E : Env K mg) : FnOk P w K mg base (L2.CX P w) 4 E.a_answer E.fd_answer ["group", "key", "drawn", "asked"] (FSp K ⟨[], 0⟩ 4 F_answer) := by
  have S : FnScope N_answer ["group", "key", "drawn", "asked"] (defScope (top 20)) := ⟨rfl, rfl, rfl, by decide +kernel, rfl, by decide +kernel, by decide +kernel⟩
  refine fn_def (N := N_answer) (cs := C_answer) E.F_answer S (by decide) fun cdv A outer s H Ex hr => ?_
  refine ss_cons ?_ ?_
  · skip
    exact s_drop (v_call (ok_check_key E) (takes_of rfl rfl rfl rfl) (hr.mono (by decide)) E.m_check_key E.k_check_key E.b_check_key (a_cons (v_var (i := 0)) (a_cons (v_var (i := 1)) a_nil)))
  refine ss_cons ?_ ?_
  · skip
    exact s_drop (v_call (ok_check_key E) (takes_of rfl rfl rfl rfl) (hr.mono (by decide)) E.m_check_key E.k_check_key E.b_check_key (a_cons (v_var (i := 0)) (a_cons (v_var (i := 2)) a_nil)))
  refine ss_cons ?_ ?_
  · skip
    exact s_drop (v_call (ok_check_key E) (takes_of rfl rfl rfl rfl) (hr.mono (by decide)) E.m_check_key E.k_check_key E.b_check_key (a_cons (v_var (i := 0)) (a_cons (v_var (i := 3)) a_nil)))
  refine ss_one ?_
  · skip
    exact s_ret (v_op op_mod ok_mod (v_op op_addAll ok_add (v_var (i := 2)) (v_op op_mulW ok_mul (v_var (i := 3)) (v_var (i := 1)))) (v_ix (v_var (i := 0)) v_int))
theorem ok_log_of (E : Env K mg) : FnOk P w K mg base (L2.CX P w) 4 E.a_log_of E.fd_log_of ["group", "one"] (FSp K ⟨[], 0⟩ 2 F_log_of) := by
  have S : FnScope N_log_of ["group", "one"] (defScope (top 10)) := ⟨rfl, rfl, rfl, by decide +kernel, rfl, by decide +kernel, by decide +kernel⟩
  refine fn_def (N := N_log_of) (cs := C_log_of) E.F_log_of S (by decide) fun cdv A outer s H Ex hr => ?_
  refine ss_cons ?_ ?_
  · skip
    exact s_drop (v_call (ok_check_member E) (takes_of rfl rfl rfl rfl) (hr.mono (by decide)) E.m_check_member E.k_check_member E.b_check_member (a_cons (v_var (i := 0)) (a_cons (v_var (i := 1)) a_nil)))
  refine ss_cons ?_ ?_
  · skip
    exact s_asg (i := 2) S.nd v_int
  refine ss_cons ?_ ?_
  · skip
    refine s_for (passes_of rfl) (i_range1 E.n_range (a_cons (v_ix (v_var (i := 0)) v_int) a_nil)) (pg_name (i := 3) S.nd rfl (by first | exact Or.inl rfl | exact Or.inr rfl)) ?_
    refine ss_cons ?_ ?_
    · skip
      refine s_if (t_cmp (op_eqD hr.units) ok_eq bl_eq (v_var (i := 2)) (v_var (i := 1))) ?_ ?_
      · skip
        refine ss_one ?_
        · skip
          exact s_retV (i := 3)
      · skip
        exact ss_nil
    refine ss_one ?_
    · skip
      exact s_asg (i := 2) S.nd (v_op op_mod ok_mod (v_op op_mulW ok_mul (v_var (i := 2)) (v_ix (v_var (i := 0)) v_int)) (v_ix (v_var (i := 0)) v_int))
  refine ss_one ?_
  · skip
    exact s_ret v_non
theorem ok_relocked (E : Env K mg) : FnOk P w K mg base (L2.CX P w) 5 E.a_relocked E.fd_relocked ["group", "public", "pair", "drawn"] (FSp K ⟨[], 0⟩ 4 F_relocked) := by
  have S : FnScope N_relocked ["group", "public", "pair", "drawn"] (defScope (top 16)) := ⟨rfl, rfl, rfl, by decide +kernel, rfl, by decide +kernel, by decide +kernel⟩
  refine fn_def (N := N_relocked) (cs := C_relocked) E.F_relocked S (by decide) fun cdv A outer s H Ex hr => ?_
  refine ss_cons ?_ ?_
  · skip
    refine s_for (passes_of rfl) (i_seqF (v_op op_addAll ok_add (v_tup (a_cons (v_var (i := 1)) a_nil)) (v_callTy call_tuple_of co_tuple E.n_tuple (a_cons (v_var (i := 2)) a_nil)))) (pg_name (i := 4) S.nd rfl (by first | exact Or.inl rfl | exact Or.inr rfl)) ?_
    refine ss_one ?_
    · skip
      exact s_drop (v_call (ok_check_member E) (takes_of rfl rfl rfl rfl) (hr.mono (by decide)) E.m_check_member E.k_check_member E.b_check_member (a_cons (v_var (i := 0)) (a_cons (v_var (i := 4)) a_nil)))
  refine ss_one ?_
  · skip
    exact s_ret (v_call (ok_joined E) (takes_of rfl rfl rfl rfl) (hr.mono (by decide)) E.m_joined E.k_joined E.b_joined (a_cons (v_var (i := 0)) (a_cons (v_var (i := 2)) (a_cons (v_call (ok_lock E) (takes_of rfl rfl rfl rfl) (hr.mono (by decide)) E.m_lock E.k_lock E.b_lock (a_cons (v_var (i := 0)) (a_cons (v_var (i := 1)) (a_cons v_int (a_cons (v_var (i := 3)) a_nil))))) a_nil))))
theorem ok_key_of (E : Env K mg) : FnOk P w K mg base (L2.CX P w) 5 E.a_key_of E.fd_key_of ["group", "public", "one", "other"] (FSp K ⟨[], 0⟩ 4 F_key_of) := by
  have S : FnScope N_key_of ["group", "public", "one", "other"] (defScope (top 23)) := ⟨rfl, rfl, rfl, by decide +kernel, rfl, by decide +kernel, by decide +kernel⟩
  refine fn_def (N := N_key_of) (cs := C_key_of) E.F_key_of S (by decide) fun cdv A outer s H Ex hr => ?_
  refine ss_cons ?_ ?_
  · skip
    exact s_drop (v_call (ok_check_member E) (takes_of rfl rfl rfl rfl) (hr.mono (by decide)) E.m_check_member E.k_check_member E.b_check_member (a_cons (v_var (i := 0)) (a_cons (v_var (i := 1)) a_nil)))
  refine ss_cons ?_ ?_
  · skip
    refine s_if (t_not (t_w (w_and (t_val (v_call (ok_is_right E) (takes_of rfl rfl rfl rfl) (hr.mono (by decide)) E.m_is_right E.k_is_right E.b_is_right (a_cons (v_var (i := 0)) (a_cons (v_var (i := 1)) (a_cons (v_var (i := 2)) a_nil))))) (w_and1 (t_val (v_call (ok_is_right E) (takes_of rfl rfl rfl rfl) (hr.mono (by decide)) E.m_is_right E.k_is_right E.b_is_right (a_cons (v_var (i := 0)) (a_cons (v_var (i := 1)) (a_cons (v_var (i := 3)) a_nil))))))))) ?_ ?_
    · skip
      refine ss_one ?_
      · skip
        exact s_ret v_non
    · skip
      exact ss_nil
  refine ss_cons ?_ ?_
  · skip
    refine s_if (t_w (w_or (t_cmp (op_neD hr.units) ok_ne bl_ne (v_ix (v_var (i := 2)) v_int) (v_ix (v_var (i := 3)) v_int)) (w_or1 (t_cmp (op_eqD hr.units) ok_eq bl_eq (v_ix (v_var (i := 2)) v_int) (v_ix (v_var (i := 3)) v_int))))) ?_ ?_
    · skip
      refine ss_one ?_
      · skip
        exact s_ret v_non
    · skip
      exact ss_nil
  refine ss_cons ?_ ?_
  · skip
    exact s_asg (i := 4) S.nd (v_ix (v_var (i := 0)) v_int)
  refine ss_one ?_
  · skip
    exact s_ret (v_op op_mod ok_mod (v_op op_mulW ok_mul (v_op op_sub ok_sub (v_ix (v_var (i := 2)) v_int) (v_ix (v_var (i := 3)) v_int)) (v_call (ok_power_in E) (takes_of rfl rfl rfl rfl) (hr.mono (by decide)) E.m_power_in E.k_power_in E.b_power_in (a_cons (v_var (i := 4)) (a_cons (v_op op_mod ok_mod (v_op op_sub ok_sub (v_ix (v_var (i := 2)) v_int) (v_ix (v_var (i := 3)) v_int)) (v_var (i := 4))) (a_cons (v_op op_sub ok_sub (v_var (i := 4)) v_int) a_nil))))) (v_var (i := 4)))
theorem ok_made_row (E : Env K mg) : FnOk P w K mg base (L2.CX P w) 4 E.a_made_row E.fd_made_row ["group", "public", "asked", "told"] (FSp K ⟨[], 0⟩ 4 F_made_row) := by
  have S : FnScope N_made_row ["group", "public", "asked", "told"] (defScope (top 22)) := ⟨rfl, rfl, rfl, by decide +kernel, rfl, by decide +kernel, by decide +kernel⟩
  refine fn_def (N := N_made_row) (cs := C_made_row) E.F_made_row S (by decide) fun cdv A outer s H Ex hr => ?_
  refine ss_cons ?_ ?_
  · skip
    exact s_drop (v_call (ok_check_member E) (takes_of rfl rfl rfl rfl) (hr.mono (by decide)) E.m_check_member E.k_check_member E.b_check_member (a_cons (v_var (i := 0)) (a_cons (v_var (i := 1)) a_nil)))
  refine ss_cons ?_ ?_
  · skip
    exact s_drop (v_call (ok_check_key E) (takes_of rfl rfl rfl rfl) (hr.mono (by decide)) E.m_check_key E.k_check_key E.b_check_key (a_cons (v_var (i := 0)) (a_cons (v_var (i := 2)) a_nil)))
  refine ss_cons ?_ ?_
  · skip
    exact s_drop (v_call (ok_check_key E) (takes_of rfl rfl rfl rfl) (hr.mono (by decide)) E.m_check_key E.k_check_key E.b_check_key (a_cons (v_var (i := 0)) (a_cons (v_var (i := 3)) a_nil)))
  refine ss_cons ?_ ?_
  · skip
    exact s_unp (js := [4, 5, 6]) (v_var (i := 0)) (pg_tup rfl (pgs_cons (pg_name (i := 4) S.nd rfl (by first | exact Or.inl rfl | exact Or.inr rfl)) (pgs_cons (pg_name (i := 5) S.nd rfl (by first | exact Or.inl rfl | exact Or.inr rfl)) (pgs_cons (pg_name (i := 6) S.nd rfl (by first | exact Or.inl rfl | exact Or.inr rfl)) pgs_nil))))
  refine ss_one ?_
  · skip
    exact s_ret (v_tup (a_cons (v_op op_mod ok_mod (v_op op_mulW ok_mul (v_call (ok_power_in E) (takes_of rfl rfl rfl rfl) (hr.mono (by decide)) E.m_power_in E.k_power_in E.b_power_in (a_cons (v_var (i := 4)) (a_cons (v_var (i := 6)) (a_cons (v_var (i := 3)) a_nil)))) (v_call (ok_power_in E) (takes_of rfl rfl rfl rfl) (hr.mono (by decide)) E.m_power_in E.k_power_in E.b_power_in (a_cons (v_var (i := 4)) (a_cons (v_var (i := 1)) (a_cons (v_op op_sub ok_sub (v_var (i := 5)) (v_var (i := 2))) a_nil))))) (v_var (i := 4))) (a_cons (v_var (i := 2)) (a_cons (v_var (i := 3)) a_nil))))
theorem ok_law (E : Env K mg) : FnOk P w K mg base (L2.CX P w) 6 E.a_law E.fd_law ["script"] (LSp K ⟨[], 0⟩ 29 C_law) := by
  have S : FnScope N_law ["script"] (defScope (top 31)) := ⟨rfl, rfl, rfl, by decide +kernel, rfl, by decide +kernel, by decide +kernel⟩
  refine fn_law (N := N_law) (cs := C_law) E.F_law S (by decide) rfl fun cdv A outer s H Ex hr => ?_
  refine ss_cons ?_ ?_
  · skip
    exact s_asg (i := 1) S.nd (v_call (ok__law_begin E) (takes_of rfl rfl rfl rfl) (hr.mono (by decide)) E.m__law_begin E.k__law_begin E.b__law_begin (a_cons (v_var (i := 0)) a_nil))
  refine ss_cons ?_ ?_
  · skip
    refine s_tape ?_
    exact s_asg (i := 2) S.nd (v_call (ok__law_group E) (takes_of rfl rfl rfl rfl) (hr.mono (by decide)) E.m__law_group E.k__law_group E.b__law_group (a_cons (v_var (i := 1)) a_nil))
  refine ss_cons ?_ ?_
  · skip
    exact s_unp (js := [3, 4, 5]) (v_var (i := 2)) (pg_tup rfl (pgs_cons (pg_name (i := 3) S.nd rfl (by first | exact Or.inl rfl | exact Or.inr rfl)) (pgs_cons (pg_name (i := 4) S.nd rfl (by first | exact Or.inl rfl | exact Or.inr rfl)) (pgs_cons (pg_name (i := 5) S.nd rfl (by first | exact Or.inl rfl | exact Or.inr rfl)) pgs_nil))))
  refine ss_cons ?_ ?_
  · skip
    exact s_asg (i := 6) S.nd (v_call (ok_members E) (takes_of rfl rfl rfl rfl) (hr.mono (by decide)) E.m_members E.k_members E.b_members (a_cons (v_var (i := 2)) a_nil))
  refine ss_cons ?_ ?_
  · skip
    exact s_asg (i := 7) S.nd (v_op op_addAll ok_add v_int (v_call (ok__law_take E) (takes_of rfl rfl rfl rfl) (hr.mono (by decide)) E.m__law_take E.k__law_take E.b__law_take (a_cons (v_var (i := 1)) (a_cons (v_op op_sub ok_sub (v_var (i := 4)) v_int) a_nil))))
  refine ss_cons ?_ ?_
  · skip
    exact s_asg (i := 8) S.nd (v_tup (a_cons (v_var (i := 3)) (a_cons (v_var (i := 4)) (a_cons (v_call (ok__law_power E) (takes_of rfl rfl rfl rfl) (hr.mono (by decide)) E.m__law_power E.k__law_power E.b__law_power (a_cons (v_var (i := 3)) (a_cons (v_var (i := 5)) (a_cons (v_var (i := 7)) a_nil)))) a_nil))))
  refine ss_cons ?_ ?_
  · skip
    exact s_unpL (js := [9, 10, 11, 12]) (v_comp S.nd (i_range1 E.n_range (a_cons v_int a_nil)) [("k", 28)] (by show blkC N_law (defScope (top 31)) _ _ = true; decide +kernel) (fun _ _ _ _ _ => (pg_name (i := 28) S.nd rfl (by first | exact Or.inl rfl | exact Or.inr rfl))) (fun _ _ _ _ _ => c_nil) (fun _ _ _ _ _ => (v_call (ok__law_take E) takes0 (hr.mono (by decide)) E.m__law_take E.k__law_take E.b__law_take (a_cons (v_var (i := 1)) (a_cons (v_var (i := 4)) a_nil))))) (pg_lst rfl (pgs_cons (pg_name (i := 9) S.nd rfl (by first | exact Or.inl rfl | exact Or.inr rfl)) (pgs_cons (pg_name (i := 10) S.nd rfl (by first | exact Or.inl rfl | exact Or.inr rfl)) (pgs_cons (pg_name (i := 11) S.nd rfl (by first | exact Or.inl rfl | exact Or.inr rfl)) (pgs_cons (pg_name (i := 12) S.nd rfl (by first | exact Or.inl rfl | exact Or.inr rfl)) pgs_nil)))))
  refine ss_cons ?_ ?_
  · skip
    exact s_unpL (js := [13, 14, 15]) (v_comp S.nd (i_range1 E.n_range (a_cons v_int a_nil)) [("k", 28)] (by show blkC N_law (defScope (top 31)) _ _ = true; decide +kernel) (fun _ _ _ _ _ => (pg_name (i := 28) S.nd rfl (by first | exact Or.inl rfl | exact Or.inr rfl))) (fun _ _ _ _ _ => c_nil) (fun _ _ _ _ _ => (v_ix (v_var (i := 6)) (v_call (ok__law_take E) takes0 (hr.mono (by decide)) E.m__law_take E.k__law_take E.b__law_take (a_cons (v_var (i := 1)) (a_cons (v_var (i := 4)) a_nil)))))) (pg_lst rfl (pgs_cons (pg_name (i := 13) S.nd rfl (by first | exact Or.inl rfl | exact Or.inr rfl)) (pgs_cons (pg_name (i := 14) S.nd rfl (by first | exact Or.inl rfl | exact Or.inr rfl)) (pgs_cons (pg_name (i := 15) S.nd rfl (by first | exact Or.inl rfl | exact Or.inr rfl)) pgs_nil))))
  refine ss_cons ?_ ?_
  · skip
    refine s_if (t_w (w_or (t_cmp (op_neD hr.units) ok_ne bl_ne (v_call (ok_members E) (takes_of rfl rfl rfl rfl) (hr.mono (by decide)) E.m_members E.k_members E.b_members (a_cons (v_var (i := 8)) a_nil)) (v_var (i := 6))) (w_or (t_cmp (op_neD hr.units) ok_ne bl_ne (v_callB cr_sortedI co_sorted E.n_sorted (a_cons (v_comp S.nd (i_seq (v_var (i := 6))) [("one", 23)] (by show blkC N_law (defScope (top 31)) _ _ = true; decide +kernel) (fun _ _ _ _ _ => (pg_name (i := 23) S.nd rfl (by first | exact Or.inl rfl | exact Or.inr rfl))) (fun _ _ _ _ _ => c_nil) (fun _ _ _ _ _ => (v_call (ok_power E) takes0 (hr.mono (by decide)) E.m_power E.k_power E.b_power (a_cons (v_var (i := 2)) (a_cons (v_var (i := 23)) (a_cons (v_var (i := 7)) a_nil)))))) a_nil)) (v_callTy call_list_of co_list E.n_list (a_cons (v_var (i := 6)) a_nil))) (w_or1 (t_cmp (op_neD hr.units) ok_ne bl_ne (v_op op_mod ok_mod (v_callTy call_int1 co_int E.n_int (a_cons (v_op op_sub ok_sub (v_op op_mulW ok_mul (v_call (ok_log_of E) (takes_of rfl rfl rfl rfl) (hr.mono (by decide)) E.m_log_of E.k_log_of E.b_log_of (a_cons (v_var (i := 8)) (a_cons (v_var (i := 13)) a_nil))) (v_var (i := 7))) (v_call (ok_log_of E) (takes_of rfl rfl rfl rfl) (hr.mono (by decide)) E.m_log_of E.k_log_of E.b_log_of (a_cons (v_var (i := 2)) (a_cons (v_var (i := 13)) a_nil)))) a_nil)) (v_var (i := 4))) v_int))))) ?_ ?_
    · skip
      refine ss_one ?_
      · skip
        exact s_ret v_bl
    · skip
      exact ss_nil
  refine ss_cons ?_ ?_
  · skip
    refine s_if (t_w (w_or (t_cmp (op_neD hr.units) ok_ne bl_ne (v_call (ok_log_of E) (takes_of rfl rfl rfl rfl) (hr.mono (by decide)) E.m_log_of E.k_log_of E.b_log_of (a_cons (v_var (i := 2)) (a_cons (v_op op_mod ok_mod (v_callTy call_int1 co_int E.n_int (a_cons (v_op op_mulW ok_mul (v_var (i := 13)) (v_var (i := 14))) a_nil)) (v_var (i := 3))) a_nil))) (v_op op_mod ok_mod (v_callTy call_int1 co_int E.n_int (a_cons (v_op op_addAll ok_add (v_call (ok_log_of E) (takes_of rfl rfl rfl rfl) (hr.mono (by decide)) E.m_log_of E.k_log_of E.b_log_of (a_cons (v_var (i := 2)) (a_cons (v_var (i := 13)) a_nil))) (v_call (ok_log_of E) (takes_of rfl rfl rfl rfl) (hr.mono (by decide)) E.m_log_of E.k_log_of E.b_log_of (a_cons (v_var (i := 2)) (a_cons (v_var (i := 14)) a_nil)))) a_nil)) (v_var (i := 4)))) (w_or1 (t_cmp (op_neD hr.units) ok_ne bl_ne (v_call (ok_power E) (takes_of rfl rfl rfl rfl) (hr.mono (by decide)) E.m_power E.k_power E.b_power (a_cons (v_var (i := 2)) (a_cons (v_call (ok_power E) (takes_of rfl rfl rfl rfl) (hr.mono (by decide)) E.m_power E.k_power E.b_power (a_cons (v_var (i := 2)) (a_cons (v_var (i := 13)) (a_cons (v_var (i := 9)) a_nil)))) (a_cons (v_var (i := 10)) a_nil)))) (v_call (ok_power E) (takes_of rfl rfl rfl rfl) (hr.mono (by decide)) E.m_power E.k_power E.b_power (a_cons (v_var (i := 2)) (a_cons (v_var (i := 13)) (a_cons (v_op op_mulW ok_mul (v_var (i := 9)) (v_var (i := 10))) a_nil)))))))) ?_ ?_
    · skip
      refine ss_one ?_
      · skip
        exact s_ret v_bl
    · skip
      exact ss_nil
  refine ss_cons ?_ ?_
  · skip
    refine s_if (t_cmp (op_neD hr.units) ok_ne bl_ne (v_call (ok_power E) (takes_of rfl rfl rfl rfl) (hr.mono (by decide)) E.m_power E.k_power E.b_power (a_cons (v_var (i := 2)) (a_cons (v_var (i := 13)) (a_cons (v_neg (v_var (i := 9))) a_nil)))) (v_call (ok_power E) (takes_of rfl rfl rfl rfl) (hr.mono (by decide)) E.m_power E.k_power E.b_power (a_cons (v_var (i := 2)) (a_cons (v_call (ok_power E) (takes_of rfl rfl rfl rfl) (hr.mono (by decide)) E.m_power E.k_power E.b_power (a_cons (v_var (i := 2)) (a_cons (v_var (i := 13)) (a_cons (v_var (i := 9)) a_nil)))) (a_cons (v_op op_sub ok_sub (v_var (i := 3)) v_int) a_nil))))) ?_ ?_
    · skip
      refine ss_one ?_
      · skip
        exact s_ret v_bl
    · skip
      exact ss_nil
  refine ss_cons ?_ ?_
  · skip
    exact s_unp (js := [16, 17, 18]) (v_call (ok_agreed E) (takes_of rfl rfl rfl rfl) (hr.mono (by decide)) E.m_agreed E.k_agreed E.b_agreed (a_cons (v_var (i := 2)) (a_cons (v_var (i := 9)) (a_cons (v_var (i := 10)) a_nil)))) (pg_tup rfl (pgs_cons (pg_name (i := 16) S.nd rfl (by first | exact Or.inl rfl | exact Or.inr rfl)) (pgs_cons (pg_name (i := 17) S.nd rfl (by first | exact Or.inl rfl | exact Or.inr rfl)) (pgs_cons (pg_name (i := 18) S.nd rfl (by first | exact Or.inl rfl | exact Or.inr rfl)) pgs_nil))))
  refine ss_cons ?_ ?_
  · skip
    refine s_if (t_w (w_or (t_cmp (op_neD hr.units) ok_ne bl_ne (v_call (ok_agreed E) (takes_of rfl rfl rfl rfl) (hr.mono (by decide)) E.m_agreed E.k_agreed E.b_agreed (a_cons (v_var (i := 8)) (a_cons (v_var (i := 9)) (a_cons (v_var (i := 10)) a_nil)))) (v_callTy call_tuple_of co_tuple E.n_tuple (a_cons (v_comp S.nd (i_seq (v_tup (a_cons (v_var (i := 16)) (a_cons (v_var (i := 17)) (a_cons (v_var (i := 18)) a_nil))))) [("one", 23)] (by show blkC N_law (defScope (top 31)) _ _ = true; decide +kernel) (fun _ _ _ _ _ => (pg_name (i := 23) S.nd rfl (by first | exact Or.inl rfl | exact Or.inr rfl))) (fun _ _ _ _ _ => c_nil) (fun _ _ _ _ _ => (v_call (ok_power E) takes0 (hr.mono (by decide)) E.m_power E.k_power E.b_power (a_cons (v_var (i := 2)) (a_cons (v_var (i := 23)) (a_cons (v_var (i := 7)) a_nil)))))) a_nil))) (w_or1 (t_cmp (op_neD hr.units) ok_ne bl_ne (v_call (ok_log_of E) (takes_of rfl rfl rfl rfl) (hr.mono (by decide)) E.m_log_of E.k_log_of E.b_log_of (a_cons (v_var (i := 2)) (a_cons (v_var (i := 18)) a_nil))) (v_op op_mod ok_mod (v_callTy call_int1 co_int E.n_int (a_cons (v_op op_mulW ok_mul (v_var (i := 9)) (v_var (i := 10))) a_nil)) (v_var (i := 4))))))) ?_ ?_
    · skip
      refine ss_one ?_
      · skip
        exact s_ret v_bl
    · skip
      exact ss_nil
  refine ss_cons ?_ ?_
  · skip
    refine s_if (t_cmp (op_neD hr.units) ok_ne bl_ne (v_ix (v_call (ok_agreed E) (takes_of rfl rfl rfl rfl) (hr.mono (by decide)) E.m_agreed E.k_agreed E.b_agreed (a_cons (v_var (i := 2)) (a_cons (v_op op_mod ok_mod (v_callTy call_int1 co_int E.n_int (a_cons (v_op op_addAll ok_add (v_var (i := 9)) (v_var (i := 11))) a_nil)) (v_var (i := 4))) (a_cons (v_var (i := 10)) a_nil)))) v_int) (v_op op_mod ok_mod (v_callTy call_int1 co_int E.n_int (a_cons (v_op op_mulW ok_mul (v_var (i := 18)) (v_ix (v_call (ok_agreed E) (takes_of rfl rfl rfl rfl) (hr.mono (by decide)) E.m_agreed E.k_agreed E.b_agreed (a_cons (v_var (i := 2)) (a_cons (v_var (i := 11)) (a_cons (v_var (i := 10)) a_nil)))) v_int)) a_nil)) (v_var (i := 3)))) ?_ ?_
    · skip
      refine ss_one ?_
      · skip
        exact s_ret v_bl
    · skip
      exact ss_nil
  refine ss_cons ?_ ?_
  · skip
    exact s_asg (i := 19) S.nd (v_call (ok_power E) (takes_of rfl rfl rfl rfl) (hr.mono (by decide)) E.m_power E.k_power E.b_power (a_cons (v_var (i := 2)) (a_cons (v_var (i := 5)) (a_cons (v_var (i := 9)) a_nil))))
  refine ss_cons ?_ ?_
  · skip
    exact s_par2 (i := 20) (j := 21) S.nd (a_cons (v_call (ok_lock E) (takes_of rfl rfl rfl rfl) (hr.mono (by decide)) E.m_lock E.k_lock E.b_lock (a_cons (v_var (i := 2)) (a_cons (v_var (i := 19)) (a_cons (v_var (i := 13)) (a_cons (v_var (i := 10)) a_nil))))) (a_cons (v_call (ok_lock E) (takes_of rfl rfl rfl rfl) (hr.mono (by decide)) E.m_lock E.k_lock E.b_lock (a_cons (v_var (i := 2)) (a_cons (v_var (i := 19)) (a_cons (v_var (i := 14)) (a_cons (v_var (i := 11)) a_nil))))) a_nil)) (hw := by rfl)
  refine ss_cons ?_ ?_
  · skip
    refine s_if (t_cmp (op_neD hr.units) ok_ne bl_ne (v_call (ok_lock E) (takes_of rfl rfl rfl rfl) (hr.mono (by decide)) E.m_lock E.k_lock E.b_lock (a_cons (v_var (i := 8)) (a_cons (v_call (ok_power E) (takes_of rfl rfl rfl rfl) (hr.mono (by decide)) E.m_power E.k_power E.b_power (a_cons (v_var (i := 2)) (a_cons (v_var (i := 19)) (a_cons (v_var (i := 7)) a_nil)))) (a_cons (v_call (ok_power E) (takes_of rfl rfl rfl rfl) (hr.mono (by decide)) E.m_power E.k_power E.b_power (a_cons (v_var (i := 2)) (a_cons (v_var (i := 13)) (a_cons (v_var (i := 7)) a_nil)))) (a_cons (v_var (i := 10)) a_nil))))) (v_callTy call_tuple_of co_tuple E.n_tuple (a_cons (v_comp S.nd (i_seq (v_var (i := 20))) [("one", 23)] (by show blkC N_law (defScope (top 31)) _ _ = true; decide +kernel) (fun _ _ _ _ _ => (pg_name (i := 23) S.nd rfl (by first | exact Or.inl rfl | exact Or.inr rfl))) (fun _ _ _ _ _ => c_nil) (fun _ _ _ _ _ => (v_call (ok_power E) takes0 (hr.mono (by decide)) E.m_power E.k_power E.b_power (a_cons (v_var (i := 2)) (a_cons (v_var (i := 23)) (a_cons (v_var (i := 7)) a_nil)))))) a_nil))) ?_ ?_
    · skip
      refine ss_one ?_
      · skip
        exact s_ret v_bl
    · skip
      exact ss_nil
  refine ss_cons ?_ ?_
  · skip
    refine s_if (t_cmp (op_neD hr.units) ok_ne bl_ne (v_call (ok_unlock E) (takes_of rfl rfl rfl rfl) (hr.mono (by decide)) E.m_unlock E.k_unlock E.b_unlock (a_cons (v_var (i := 8)) (a_cons (v_var (i := 9)) (a_cons (v_callTy call_tuple_of co_tuple E.n_tuple (a_cons (v_comp S.nd (i_seq (v_var (i := 20))) [("one", 23)] (by show blkC N_law (defScope (top 31)) _ _ = true; decide +kernel) (fun _ _ _ _ _ => (pg_name (i := 23) S.nd rfl (by first | exact Or.inl rfl | exact Or.inr rfl))) (fun _ _ _ _ _ => c_nil) (fun _ _ _ _ _ => (v_call (ok_power E) takes0 (hr.mono (by decide)) E.m_power E.k_power E.b_power (a_cons (v_var (i := 2)) (a_cons (v_var (i := 23)) (a_cons (v_var (i := 7)) a_nil)))))) a_nil)) a_nil)))) (v_call (ok_power E) (takes_of rfl rfl rfl rfl) (hr.mono (by decide)) E.m_power E.k_power E.b_power (a_cons (v_var (i := 2)) (a_cons (v_var (i := 13)) (a_cons (v_var (i := 7)) a_nil))))) ?_ ?_
    · skip
      refine ss_one ?_
      · skip
        exact s_ret v_bl
    · skip
      exact ss_nil
  refine ss_cons ?_ ?_
  · skip
    exact s_asg (i := 22) S.nd (v_call (ok_lock E) (takes_of rfl rfl rfl rfl) (hr.mono (by decide)) E.m_lock E.k_lock E.b_lock (a_cons (v_var (i := 2)) (a_cons (v_var (i := 19)) (a_cons (v_var (i := 15)) (a_cons (v_var (i := 12)) a_nil)))))
  refine ss_cons ?_ ?_
  · skip
    refine s_if (t_w (w_or (t_cmp (op_neD hr.units) ok_ne bl_ne (v_call (ok_joined E) (takes_of rfl rfl rfl rfl) (hr.mono (by decide)) E.m_joined E.k_joined E.b_joined (a_cons (v_var (i := 2)) (a_cons (v_var (i := 20)) (a_cons (v_var (i := 21)) a_nil)))) (v_call (ok_joined E) (takes_of rfl rfl rfl rfl) (hr.mono (by decide)) E.m_joined E.k_joined E.b_joined (a_cons (v_var (i := 2)) (a_cons (v_var (i := 21)) (a_cons (v_var (i := 20)) a_nil))))) (w_or1 (t_cmp (op_neD hr.units) ok_ne bl_ne (v_call (ok_joined E) (takes_of rfl rfl rfl rfl) (hr.mono (by decide)) E.m_joined E.k_joined E.b_joined (a_cons (v_var (i := 2)) (a_cons (v_call (ok_joined E) (takes_of rfl rfl rfl rfl) (hr.mono (by decide)) E.m_joined E.k_joined E.b_joined (a_cons (v_var (i := 2)) (a_cons (v_var (i := 20)) (a_cons (v_var (i := 21)) a_nil)))) (a_cons (v_var (i := 22)) a_nil)))) (v_call (ok_joined E) (takes_of rfl rfl rfl rfl) (hr.mono (by decide)) E.m_joined E.k_joined E.b_joined (a_cons (v_var (i := 2)) (a_cons (v_var (i := 20)) (a_cons (v_call (ok_joined E) (takes_of rfl rfl rfl rfl) (hr.mono (by decide)) E.m_joined E.k_joined E.b_joined (a_cons (v_var (i := 2)) (a_cons (v_var (i := 21)) (a_cons (v_var (i := 22)) a_nil)))) a_nil)))))))) ?_ ?_
    · skip
      refine ss_one ?_
      · skip
        exact s_ret v_bl
    · skip
      exact ss_nil
  refine ss_cons ?_ ?_
  · skip
    refine s_if (t_cmp (op_neD hr.units) ok_ne bl_ne (v_call (ok_joined E) (takes_of rfl rfl rfl rfl) (hr.mono (by decide)) E.m_joined E.k_joined E.b_joined (a_cons (v_var (i := 2)) (a_cons (v_var (i := 20)) (a_cons (v_tup (a_cons v_int (a_cons v_int a_nil))) a_nil)))) (v_var (i := 20))) ?_ ?_
    · skip
      refine ss_one ?_
      · skip
        exact s_ret v_bl
    · skip
      exact ss_nil
  refine ss_cons ?_ ?_
  · skip
    refine s_if (t_cmp (op_neD hr.units) ok_ne bl_ne (v_call (ok_joined E) (takes_of rfl rfl rfl rfl) (hr.mono (by decide)) E.m_joined E.k_joined E.b_joined (a_cons (v_var (i := 2)) (a_cons (v_var (i := 20)) (a_cons (v_var (i := 21)) a_nil)))) (v_call (ok_lock E) (takes_of rfl rfl rfl rfl) (hr.mono (by decide)) E.m_lock E.k_lock E.b_lock (a_cons (v_var (i := 2)) (a_cons (v_var (i := 19)) (a_cons (v_op op_mod ok_mod (v_callTy call_int1 co_int E.n_int (a_cons (v_op op_mulW ok_mul (v_var (i := 13)) (v_var (i := 14))) a_nil)) (v_var (i := 3))) (a_cons (v_op op_mod ok_mod (v_callTy call_int1 co_int E.n_int (a_cons (v_op op_addAll ok_add (v_var (i := 10)) (v_var (i := 11))) a_nil)) (v_var (i := 4))) a_nil)))))) ?_ ?_
    · skip
      refine ss_one ?_
      · skip
        exact s_ret v_bl
    · skip
      exact ss_nil
  refine ss_cons ?_ ?_
  · skip
    refine s_if (t_w (w_or (t_cmp (op_neD hr.units) ok_ne bl_ne (v_call (ok_relocked E) (takes_of rfl rfl rfl rfl) (hr.mono (by decide)) E.m_relocked E.k_relocked E.b_relocked (a_cons (v_var (i := 2)) (a_cons (v_var (i := 19)) (a_cons (v_call (ok_relocked E) (takes_of rfl rfl rfl rfl) (hr.mono (by decide)) E.m_relocked E.k_relocked E.b_relocked (a_cons (v_var (i := 2)) (a_cons (v_var (i := 19)) (a_cons (v_var (i := 20)) (a_cons (v_var (i := 11)) a_nil))))) (a_cons (v_var (i := 12)) a_nil))))) (v_call (ok_relocked E) (takes_of rfl rfl rfl rfl) (hr.mono (by decide)) E.m_relocked E.k_relocked E.b_relocked (a_cons (v_var (i := 2)) (a_cons (v_var (i := 19)) (a_cons (v_var (i := 20)) (a_cons (v_op op_mod ok_mod (v_callTy call_int1 co_int E.n_int (a_cons (v_op op_addAll ok_add (v_var (i := 11)) (v_var (i := 12))) a_nil)) (v_var (i := 4))) a_nil)))))) (w_or1 (t_cmp (op_neD hr.units) ok_ne bl_ne (v_call (ok_relocked E) (takes_of rfl rfl rfl rfl) (hr.mono (by decide)) E.m_relocked E.k_relocked E.b_relocked (a_cons (v_var (i := 2)) (a_cons (v_var (i := 19)) (a_cons (v_var (i := 20)) (a_cons v_int a_nil))))) (v_var (i := 20)))))) ?_ ?_
    · skip
      refine ss_one ?_
      · skip
        exact s_ret v_bl
    · skip
      exact ss_nil
  refine ss_cons ?_ ?_
  · skip
    refine s_if (t_w (w_or (t_cmp (op_neD hr.units) ok_ne bl_ne (v_op op_mod ok_mod (v_op op_mulW ok_mul (v_call (ok_unlock E) (takes_of rfl rfl rfl rfl) (hr.mono (by decide)) E.m_unlock E.k_unlock E.b_unlock (a_cons (v_var (i := 2)) (a_cons (v_op op_mod ok_mod (v_callTy call_int1 co_int E.n_int (a_cons (v_op op_addAll ok_add (v_var (i := 9)) (v_var (i := 11))) a_nil)) (v_var (i := 4))) (a_cons (v_var (i := 20)) a_nil)))) (v_call (ok_power E) (takes_of rfl rfl rfl rfl) (hr.mono (by decide)) E.m_power E.k_power E.b_power (a_cons (v_var (i := 2)) (a_cons (v_ix (v_var (i := 20)) v_int) (a_cons (v_var (i := 11)) a_nil))))) (v_var (i := 3))) (v_call (ok_unlock E) (takes_of rfl rfl rfl rfl) (hr.mono (by decide)) E.m_unlock E.k_unlock E.b_unlock (a_cons (v_var (i := 2)) (a_cons (v_var (i := 9)) (a_cons (v_var (i := 20)) a_nil))))) (w_or1 (t_cmp (op_neD hr.units) ok_ne bl_ne (v_call (ok_unlock E) (takes_of rfl rfl rfl rfl) (hr.mono (by decide)) E.m_unlock E.k_unlock E.b_unlock (a_cons (v_var (i := 2)) (a_cons v_int (a_cons (v_var (i := 20)) a_nil)))) (v_ix (v_var (i := 20)) v_int))))) ?_ ?_
    · skip
      refine ss_one ?_
      · skip
        exact s_ret v_bl
    · skip
      exact ss_nil
  refine ss_cons ?_ ?_
  · skip
    exact s_par2 (i := 23) (j := 24) S.nd (a_cons (v_call (ok_pledge E) (takes_of rfl rfl rfl rfl) (hr.mono (by decide)) E.m_pledge E.k_pledge E.b_pledge (a_cons (v_var (i := 2)) (a_cons (v_var (i := 15)) (a_cons (v_var (i := 9)) (a_cons (v_var (i := 10)) a_nil))))) (a_cons (v_call (ok_pledge E) (takes_of rfl rfl rfl rfl) (hr.mono (by decide)) E.m_pledge E.k_pledge E.b_pledge (a_cons (v_var (i := 2)) (a_cons (v_var (i := 15)) (a_cons (v_var (i := 11)) (a_cons (v_var (i := 12)) a_nil))))) a_nil)) (hw := by rfl)
  refine ss_cons ?_ ?_
  · skip
    refine s_if (t_w (w_or (t_cmp (op_neD hr.units) ok_ne bl_ne (v_op op_mod ok_mod (v_callTy call_int1 co_int E.n_int (a_cons (v_op op_mulW ok_mul (v_var (i := 23)) (v_var (i := 24))) a_nil)) (v_var (i := 3))) (v_call (ok_pledge E) (takes_of rfl rfl rfl rfl) (hr.mono (by decide)) E.m_pledge E.k_pledge E.b_pledge (a_cons (v_var (i := 2)) (a_cons (v_var (i := 15)) (a_cons (v_op op_mod ok_mod (v_callTy call_int1 co_int E.n_int (a_cons (v_op op_addAll ok_add (v_var (i := 9)) (v_var (i := 11))) a_nil)) (v_var (i := 4))) (a_cons (v_op op_mod ok_mod (v_callTy call_int1 co_int E.n_int (a_cons (v_op op_addAll ok_add (v_var (i := 10)) (v_var (i := 12))) a_nil)) (v_var (i := 4))) a_nil)))))) (w_or (t_cmp (op_neD hr.units) ok_ne bl_ne (v_call (ok_pledge E) (takes_of rfl rfl rfl rfl) (hr.mono (by decide)) E.m_pledge E.k_pledge E.b_pledge (a_cons (v_var (i := 8)) (a_cons (v_call (ok_power E) (takes_of rfl rfl rfl rfl) (hr.mono (by decide)) E.m_power E.k_power E.b_power (a_cons (v_var (i := 2)) (a_cons (v_var (i := 15)) (a_cons (v_var (i := 7)) a_nil)))) (a_cons (v_var (i := 9)) (a_cons (v_var (i := 10)) a_nil))))) (v_call (ok_power E) (takes_of rfl rfl rfl rfl) (hr.mono (by decide)) E.m_power E.k_power E.b_power (a_cons (v_var (i := 2)) (a_cons (v_var (i := 23)) (a_cons (v_var (i := 7)) a_nil))))) (w_or1 (t_cmp (op_neD hr.units) ok_ne bl_ne (v_call (ok_pledge E) (takes_of rfl rfl rfl rfl) (hr.mono (by decide)) E.m_pledge E.k_pledge E.b_pledge (a_cons (v_var (i := 2)) (a_cons (v_var (i := 15)) (a_cons (v_var (i := 9)) (a_cons v_int a_nil))))) (v_var (i := 19))))))) ?_ ?_
    · skip
      refine ss_one ?_
      · skip
        exact s_ret v_bl
    · skip
      exact ss_nil
  refine ss_cons ?_ ?_
  · skip
    refine s_if (t_cmp (op_neD hr.units) ok_ne bl_ne (v_call (ok_pledge E) (takes_of rfl rfl rfl rfl) (hr.mono (by decide)) E.m_pledge E.k_pledge E.b_pledge (a_cons (v_var (i := 2)) (a_cons (v_var (i := 5)) (a_cons (v_var (i := 9)) (a_cons (v_var (i := 10)) a_nil))))) (v_call (ok_power E) (takes_of rfl rfl rfl rfl) (hr.mono (by decide)) E.m_power E.k_power E.b_power (a_cons (v_var (i := 2)) (a_cons (v_var (i := 5)) (a_cons (v_op op_addAll ok_add (v_var (i := 9)) (v_var (i := 10))) a_nil))))) ?_ ?_
    · skip
      refine ss_one ?_
      · skip
        exact s_ret v_bl
    · skip
      exact ss_nil
  refine ss_cons ?_ ?_
  · skip
    exact s_asg (i := 25) S.nd (v_tup (a_cons (v_call (ok_begin E) (takes_of rfl rfl rfl rfl) (hr.mono (by decide)) E.m_begin E.k_begin E.b_begin (a_cons (v_var (i := 2)) (a_cons (v_var (i := 10)) a_nil))) (a_cons (v_var (i := 11)) (a_cons (v_call (ok_answer E) (takes_of rfl rfl rfl rfl) (hr.mono (by decide)) E.m_answer E.k_answer E.b_answer (a_cons (v_var (i := 2)) (a_cons (v_var (i := 9)) (a_cons (v_var (i := 10)) (a_cons (v_var (i := 11)) a_nil))))) a_nil))))
  refine ss_cons ?_ ?_
  · skip
    exact s_asg (i := 26) S.nd (v_tup (a_cons (v_call (ok_begin E) (takes_of rfl rfl rfl rfl) (hr.mono (by decide)) E.m_begin E.k_begin E.b_begin (a_cons (v_var (i := 2)) (a_cons (v_var (i := 10)) a_nil))) (a_cons (v_var (i := 12)) (a_cons (v_call (ok_answer E) (takes_of rfl rfl rfl rfl) (hr.mono (by decide)) E.m_answer E.k_answer E.b_answer (a_cons (v_var (i := 2)) (a_cons (v_var (i := 9)) (a_cons (v_var (i := 10)) (a_cons (v_var (i := 12)) a_nil))))) a_nil))))
  refine ss_cons ?_ ?_
  · skip
    refine s_if (t_w (w_or (t_not (t_val (v_call (ok_is_right E) (takes_of rfl rfl rfl rfl) (hr.mono (by decide)) E.m_is_right E.k_is_right E.b_is_right (a_cons (v_var (i := 2)) (a_cons (v_var (i := 19)) (a_cons (v_var (i := 25)) a_nil)))))) (w_or1 (t_not (t_val (v_call (ok_is_right E) (takes_of rfl rfl rfl rfl) (hr.mono (by decide)) E.m_is_right E.k_is_right E.b_is_right (a_cons (v_var (i := 8)) (a_cons (v_call (ok_power E) (takes_of rfl rfl rfl rfl) (hr.mono (by decide)) E.m_power E.k_power E.b_power (a_cons (v_var (i := 2)) (a_cons (v_var (i := 19)) (a_cons (v_var (i := 7)) a_nil)))) (a_cons (v_tup (a_cons (v_call (ok_power E) (takes_of rfl rfl rfl rfl) (hr.mono (by decide)) E.m_power E.k_power E.b_power (a_cons (v_var (i := 2)) (a_cons (v_ix (v_var (i := 25)) v_int) (a_cons (v_var (i := 7)) a_nil)))) (a_cons (v_ix (v_var (i := 25)) v_int) (a_cons (v_ix (v_var (i := 25)) v_int) a_nil)))) a_nil))))))))) ?_ ?_
    · skip
      refine ss_one ?_
      · skip
        exact s_ret v_bl
    · skip
      exact ss_nil
  refine ss_cons ?_ ?_
  · skip
    refine s_if (t_val (v_call (ok_is_right E) (takes_of rfl rfl rfl rfl) (hr.mono (by decide)) E.m_is_right E.k_is_right E.b_is_right (a_cons (v_var (i := 2)) (a_cons (v_var (i := 19)) (a_cons (v_tup (a_cons (v_ix (v_var (i := 25)) v_int) (a_cons (v_ix (v_var (i := 25)) v_int) (a_cons (v_op op_mod ok_mod (v_callTy call_int1 co_int E.n_int (a_cons (v_op op_addAll ok_add (v_ix (v_var (i := 25)) v_int) v_int) a_nil)) (v_var (i := 4))) a_nil)))) a_nil))))) ?_ ?_
    · skip
      refine ss_one ?_
      · skip
        exact s_ret v_bl
    · skip
      exact ss_nil
  refine ss_cons ?_ ?_
  · skip
    refine s_if (t_w (w_or (t_cmp (op_neD hr.units) ok_ne bl_ne (v_call (ok_key_of E) (takes_of rfl rfl rfl rfl) (hr.mono (by decide)) E.m_key_of E.k_key_of E.b_key_of (a_cons (v_var (i := 2)) (a_cons (v_var (i := 19)) (a_cons (v_var (i := 25)) (a_cons (v_var (i := 26)) a_nil))))) (v_ifE (t_cmp (op_neD hr.units) ok_ne bl_ne (v_var (i := 11)) (v_var (i := 12))) (v_var (i := 9)) v_non)) (w_or (t_cmp (op_neD hr.units) ok_ne bl_ne (v_call (ok_made_row E) (takes_of rfl rfl rfl rfl) (hr.mono (by decide)) E.m_made_row E.k_made_row E.b_made_row (a_cons (v_var (i := 2)) (a_cons (v_var (i := 19)) (a_cons (v_var (i := 11)) (a_cons (v_ix (v_var (i := 25)) v_int) a_nil))))) (v_var (i := 25))) (w_or1 (t_cmp (op_neD hr.units) ok_ne bl_ne (v_call (ok_answer E) (takes_of rfl rfl rfl rfl) (hr.mono (by decide)) E.m_answer E.k_answer E.b_answer (a_cons (v_var (i := 2)) (a_cons (v_var (i := 9)) (a_cons (v_op op_mod ok_mod (v_callTy call_int1 co_int E.n_int (a_cons (v_op op_addAll ok_add (v_var (i := 10)) (v_var (i := 12))) a_nil)) (v_var (i := 4))) (a_cons (v_var (i := 11)) a_nil))))) (v_op op_mod ok_mod (v_callTy call_int1 co_int E.n_int (a_cons (v_op op_addAll ok_add (v_call (ok_answer E) (takes_of rfl rfl rfl rfl) (hr.mono (by decide)) E.m_answer E.k_answer E.b_answer (a_cons (v_var (i := 2)) (a_cons (v_var (i := 9)) (a_cons (v_var (i := 10)) (a_cons (v_var (i := 11)) a_nil))))) (v_var (i := 12))) a_nil)) (v_var (i := 4)))))))) ?_ ?_
    · skip
      refine ss_one ?_
      · skip
        exact s_ret v_bl
    · skip
      exact ss_nil
  refine ss_cons ?_ ?_
  · skip
    exact s_asg (i := 27) S.nd (v_call (ok_same_log E) (takes_of rfl rfl rfl rfl) (hr.mono (by decide)) E.m_same_log E.k_same_log E.b_same_log (a_cons (v_var (i := 2)) (a_cons (v_var (i := 15)) (a_cons (v_var (i := 9)) (a_cons (v_var (i := 10)) (a_cons (v_var (i := 11)) a_nil))))))
  refine ss_cons ?_ ?_
  · skip
    refine s_if (t_w (w_or (t_not (t_val (v_call (ok_is_same_log E) (takes_of rfl rfl rfl rfl) (hr.mono (by decide)) E.m_is_same_log E.k_is_same_log E.b_is_same_log (a_cons (v_var (i := 2)) (a_cons (v_var (i := 15)) (a_cons (v_var (i := 19)) (a_cons (v_call (ok_power E) (takes_of rfl rfl rfl rfl) (hr.mono (by decide)) E.m_power E.k_power E.b_power (a_cons (v_var (i := 2)) (a_cons (v_var (i := 15)) (a_cons (v_var (i := 9)) a_nil)))) (a_cons (v_var (i := 27)) a_nil)))))))) (w_or (t_cmp (op_neD hr.units) ok_ne bl_ne (v_ix (v_var (i := 27)) v_int) (v_call (ok_begin E) (takes_of rfl rfl rfl rfl) (hr.mono (by decide)) E.m_begin E.k_begin E.b_begin (a_cons (v_var (i := 2)) (a_cons (v_var (i := 10)) a_nil)))) (w_or1 (t_cmp (op_neD hr.units) ok_ne bl_ne (v_ix (v_var (i := 27)) v_int) (v_ix (v_var (i := 25)) v_int)))))) ?_ ?_
    · skip
      refine ss_one ?_
      · skip
        exact s_ret v_bl
    · skip
      exact ss_nil
  refine ss_cons ?_ ?_
  · skip
    refine s_if (t_w (w_and (t_cmp (op_neD hr.units) ok_ne bl_ne (v_var (i := 15)) v_int) (w_and1 (t_cmp (op_neD hr.units) ok_ne bl_ne (v_call (ok_is_same_log E) (takes_of rfl rfl rfl rfl) (hr.mono (by decide)) E.m_is_same_log E.k_is_same_log E.b_is_same_log (a_cons (v_var (i := 2)) (a_cons (v_var (i := 15)) (a_cons (v_var (i := 19)) (a_cons (v_call (ok_power E) (takes_of rfl rfl rfl rfl) (hr.mono (by decide)) E.m_power E.k_power E.b_power (a_cons (v_var (i := 2)) (a_cons (v_var (i := 15)) (a_cons (v_op op_addAll ok_add (v_var (i := 9)) v_int) a_nil)))) (a_cons (v_var (i := 27)) a_nil)))))) (v_cmp (op_eqD hr.units) ok_eq (v_var (i := 11)) v_int))))) ?_ ?_
    · skip
      refine ss_one ?_
      · skip
        exact s_ret v_bl
    · skip
      exact ss_nil
  refine ss_one ?_
  · skip
    exact s_ret (v_call (ok_is_same_log E) (takes_of rfl rfl rfl rfl) (hr.mono (by decide)) E.m_is_same_log E.k_is_same_log E.b_is_same_log (a_cons (v_var (i := 8)) (a_cons (v_call (ok_power E) (takes_of rfl rfl rfl rfl) (hr.mono (by decide)) E.m_power E.k_power E.b_power (a_cons (v_var (i := 2)) (a_cons (v_var (i := 15)) (a_cons (v_var (i := 7)) a_nil)))) (a_cons (v_call (ok_power E) (takes_of rfl rfl rfl rfl) (hr.mono (by decide)) E.m_power E.k_power E.b_power (a_cons (v_var (i := 2)) (a_cons (v_var (i := 19)) (a_cons (v_var (i := 7)) a_nil)))) (a_cons (v_call (ok_power E) (takes_of rfl rfl rfl rfl) (hr.mono (by decide)) E.m_power E.k_power E.b_power (a_cons (v_var (i := 2)) (a_cons (v_var (i := 15)) (a_cons (v_op op_mulW ok_mul (v_var (i := 9)) (v_var (i := 7))) a_nil)))) (a_cons (v_tup (a_cons (v_call (ok_power E) (takes_of rfl rfl rfl rfl) (hr.mono (by decide)) E.m_power E.k_power E.b_power (a_cons (v_var (i := 2)) (a_cons (v_ix (v_var (i := 27)) v_int) (a_cons (v_var (i := 7)) a_nil)))) (a_cons (v_call (ok_power E) (takes_of rfl rfl rfl rfl) (hr.mono (by decide)) E.m_power E.k_power E.b_power (a_cons (v_var (i := 2)) (a_cons (v_ix (v_var (i := 27)) v_int) (a_cons (v_var (i := 7)) a_nil)))) (a_cons (v_var (i := 11)) (a_cons (v_ix (v_var (i := 27)) v_int) a_nil))))) a_nil))))))
end
end K44
end MP

namespace MP
open PySem PySem.Spec PyProof.Rows L2
namespace K44
section
variable {P : Program} {w : World} {K : PySem.W.Frag} {mg : Str → Option Value} {base : Heap}
theorem all_mk {h : Heap} {fa : Addr} (X : K.In h) (G : h.Ns mainGlobals mg) (hfa : mg "law" = some (.ref fa))
    {f0 : Addr} {od0 an0 : Option Addr} {sl0 : Array (Option Value)} {oc0 kV0 dc0 pm0 cd0 ct0 : Value}
    (a0 : PySem.W.nsIn K mainGlobals "_law_begin" = some (some (.ref f0))) (l0 : K.lookup f0 = some ⟨oc0, od0, .func (PySem.W.fnOf "_law_begin" "_law_begin" (defArgs (top 27)) (defBody (top 27)) (defScope (top 27)) .none kV0 dc0 pm0 an0 cd0 ct0), sl0⟩) (c0 : PySem.W.codeIn K cd0 "_law_begin" = true) (k0 : PySem.W.keepIn K (.ref f0) = true)
    {f1 : Addr} {od1 an1 : Option Addr} {sl1 : Array (Option Value)} {oc1 kV1 dc1 pm1 cd1 ct1 : Value}
    (a1 : PySem.W.nsIn K mainGlobals "_law_take" = some (some (.ref f1))) (l1 : K.lookup f1 = some ⟨oc1, od1, .func (PySem.W.fnOf "_law_take" "_law_take" (defArgs (top 28)) (defBody (top 28)) (defScope (top 28)) .none kV1 dc1 pm1 an1 cd1 ct1), sl1⟩) (c1 : PySem.W.codeIn K cd1 "_law_take" = true) (k1 : PySem.W.keepIn K (.ref f1) = true)
    {f2 : Addr} {od2 an2 : Option Addr} {sl2 : Array (Option Value)} {oc2 kV2 dc2 pm2 cd2 ct2 : Value}
    (a2 : PySem.W.nsIn K mainGlobals "_law_group" = some (some (.ref f2))) (l2 : K.lookup f2 = some ⟨oc2, od2, .func (PySem.W.fnOf "_law_group" "_law_group" (defArgs (top 30)) (defBody (top 30)) (defScope (top 30)) .none kV2 dc2 pm2 an2 cd2 ct2), sl2⟩) (c2 : PySem.W.codeIn K cd2 "_law_group" = true) (k2 : PySem.W.keepIn K (.ref f2) = true)
    {f3 : Addr} {od3 an3 : Option Addr} {sl3 : Array (Option Value)} {oc3 kV3 dc3 pm3 cd3 ct3 : Value}
    (a3 : PySem.W.nsIn K mainGlobals "is_prime" = some (some (.ref f3))) (l3 : K.lookup f3 = some ⟨oc3, od3, .func (PySem.W.fnOf "is_prime" "is_prime" (defArgs (top 4)) (defBody (top 4)) (defScope (top 4)) .none kV3 dc3 pm3 an3 cd3 ct3), sl3⟩) (c3 : PySem.W.codeIn K cd3 "is_prime" = true) (k3 : PySem.W.keepIn K (.ref f3) = true)
    {f4 : Addr} {od4 an4 : Option Addr} {sl4 : Array (Option Value)} {oc4 kV4 dc4 pm4 cd4 ct4 : Value}
    (a4 : PySem.W.nsIn K mainGlobals "power_in" = some (some (.ref f4))) (l4 : K.lookup f4 = some ⟨oc4, od4, .func (PySem.W.fnOf "power_in" "power_in" (defArgs (top 6)) (defBody (top 6)) (defScope (top 6)) .none kV4 dc4 pm4 an4 cd4 ct4), sl4⟩) (c4 : PySem.W.codeIn K cd4 "power_in" = true) (k4 : PySem.W.keepIn K (.ref f4) = true)
    {f5 : Addr} {od5 an5 : Option Addr} {sl5 : Array (Option Value)} {oc5 kV5 dc5 pm5 cd5 ct5 : Value}
    (a5 : PySem.W.nsIn K mainGlobals "check" = some (some (.ref f5))) (l5 : K.lookup f5 = some ⟨oc5, od5, .func (PySem.W.fnOf "check" "check" (defArgs (top 5)) (defBody (top 5)) (defScope (top 5)) .none kV5 dc5 pm5 an5 cd5 ct5), sl5⟩) (c5 : PySem.W.codeIn K cd5 "check" = true) (k5 : PySem.W.keepIn K (.ref f5) = true)
    {f6 : Addr} {od6 an6 : Option Addr} {sl6 : Array (Option Value)} {oc6 kV6 dc6 pm6 cd6 ct6 : Value}
    (a6 : PySem.W.nsIn K mainGlobals "members" = some (some (.ref f6))) (l6 : K.lookup f6 = some ⟨oc6, od6, .func (PySem.W.fnOf "members" "members" (defArgs (top 8)) (defBody (top 8)) (defScope (top 8)) .none kV6 dc6 pm6 an6 cd6 ct6), sl6⟩) (c6 : PySem.W.codeIn K cd6 "members" = true) (k6 : PySem.W.keepIn K (.ref f6) = true)
    {f7 : Addr} {od7 an7 : Option Addr} {sl7 : Array (Option Value)} {oc7 kV7 dc7 pm7 cd7 ct7 : Value}
    (a7 : PySem.W.nsIn K mainGlobals "check_key" = some (some (.ref f7))) (l7 : K.lookup f7 = some ⟨oc7, od7, .func (PySem.W.fnOf "check_key" "check_key" (defArgs (top 11)) (defBody (top 11)) (defScope (top 11)) .none kV7 dc7 pm7 an7 cd7 ct7), sl7⟩) (c7 : PySem.W.codeIn K cd7 "check_key" = true) (k7 : PySem.W.keepIn K (.ref f7) = true)
    {f8 : Addr} {od8 an8 : Option Addr} {sl8 : Array (Option Value)} {oc8 kV8 dc8 pm8 cd8 ct8 : Value}
    (a8 : PySem.W.nsIn K mainGlobals "agreed" = some (some (.ref f8))) (l8 : K.lookup f8 = some ⟨oc8, od8, .func (PySem.W.fnOf "agreed" "agreed" (defArgs (top 12)) (defBody (top 12)) (defScope (top 12)) .none kV8 dc8 pm8 an8 cd8 ct8), sl8⟩) (c8 : PySem.W.codeIn K cd8 "agreed" = true) (k8 : PySem.W.keepIn K (.ref f8) = true)
    {f9 : Addr} {od9 an9 : Option Addr} {sl9 : Array (Option Value)} {oc9 kV9 dc9 pm9 cd9 ct9 : Value}
    (a9 : PySem.W.nsIn K mainGlobals "power" = some (some (.ref f9))) (l9 : K.lookup f9 = some ⟨oc9, od9, .func (PySem.W.fnOf "power" "power" (defArgs (top 7)) (defBody (top 7)) (defScope (top 7)) .none kV9 dc9 pm9 an9 cd9 ct9), sl9⟩) (c9 : PySem.W.codeIn K cd9 "power" = true) (k9 : PySem.W.keepIn K (.ref f9) = true)
    {f10 : Addr} {od10 an10 : Option Addr} {sl10 : Array (Option Value)} {oc10 kV10 dc10 pm10 cd10 ct10 : Value}
    (a10 : PySem.W.nsIn K mainGlobals "check_member" = some (some (.ref f10))) (l10 : K.lookup f10 = some ⟨oc10, od10, .func (PySem.W.fnOf "check_member" "check_member" (defArgs (top 9)) (defBody (top 9)) (defScope (top 9)) .none kV10 dc10 pm10 an10 cd10 ct10), sl10⟩) (c10 : PySem.W.codeIn K cd10 "check_member" = true) (k10 : PySem.W.keepIn K (.ref f10) = true)
    {f11 : Addr} {od11 an11 : Option Addr} {sl11 : Array (Option Value)} {oc11 kV11 dc11 pm11 cd11 ct11 : Value}
    (a11 : PySem.W.nsIn K mainGlobals "lock" = some (some (.ref f11))) (l11 : K.lookup f11 = some ⟨oc11, od11, .func (PySem.W.fnOf "lock" "lock" (defArgs (top 13)) (defBody (top 13)) (defScope (top 13)) .none kV11 dc11 pm11 an11 cd11 ct11), sl11⟩) (c11 : PySem.W.codeIn K cd11 "lock" = true) (k11 : PySem.W.keepIn K (.ref f11) = true)
    {f12 : Addr} {od12 an12 : Option Addr} {sl12 : Array (Option Value)} {oc12 kV12 dc12 pm12 cd12 ct12 : Value}
    (a12 : PySem.W.nsIn K mainGlobals "is_right" = some (some (.ref f12))) (l12 : K.lookup f12 = some ⟨oc12, od12, .func (PySem.W.fnOf "is_right" "is_right" (defArgs (top 21)) (defBody (top 21)) (defScope (top 21)) .none kV12 dc12 pm12 an12 cd12 ct12), sl12⟩) (c12 : PySem.W.codeIn K cd12 "is_right" = true) (k12 : PySem.W.keepIn K (.ref f12) = true)
    {f13 : Addr} {od13 an13 : Option Addr} {sl13 : Array (Option Value)} {oc13 kV13 dc13 pm13 cd13 ct13 : Value}
    (a13 : PySem.W.nsIn K mainGlobals "same_log" = some (some (.ref f13))) (l13 : K.lookup f13 = some ⟨oc13, od13, .func (PySem.W.fnOf "same_log" "same_log" (defArgs (top 24)) (defBody (top 24)) (defScope (top 24)) .none kV13 dc13 pm13 an13 cd13 ct13), sl13⟩) (c13 : PySem.W.codeIn K cd13 "same_log" = true) (k13 : PySem.W.keepIn K (.ref f13) = true)
    {f14 : Addr} {od14 an14 : Option Addr} {sl14 : Array (Option Value)} {oc14 kV14 dc14 pm14 cd14 ct14 : Value}
    (a14 : PySem.W.nsIn K mainGlobals "is_same_log" = some (some (.ref f14))) (l14 : K.lookup f14 = some ⟨oc14, od14, .func (PySem.W.fnOf "is_same_log" "is_same_log" (defArgs (top 25)) (defBody (top 25)) (defScope (top 25)) .none kV14 dc14 pm14 an14 cd14 ct14), sl14⟩) (c14 : PySem.W.codeIn K cd14 "is_same_log" = true) (k14 : PySem.W.keepIn K (.ref f14) = true)
    {f15 : Addr} {od15 an15 : Option Addr} {sl15 : Array (Option Value)} {oc15 kV15 dc15 pm15 cd15 ct15 : Value}
    (a15 : PySem.W.nsIn K mainGlobals "_law_power" = some (some (.ref f15))) (l15 : K.lookup f15 = some ⟨oc15, od15, .func (PySem.W.fnOf "_law_power" "_law_power" (defArgs (top 29)) (defBody (top 29)) (defScope (top 29)) .none kV15 dc15 pm15 an15 cd15 ct15), sl15⟩) (c15 : PySem.W.codeIn K cd15 "_law_power" = true) (k15 : PySem.W.keepIn K (.ref f15) = true)
    {f16 : Addr} {od16 an16 : Option Addr} {sl16 : Array (Option Value)} {oc16 kV16 dc16 pm16 cd16 ct16 : Value}
    (a16 : PySem.W.nsIn K mainGlobals "unlock" = some (some (.ref f16))) (l16 : K.lookup f16 = some ⟨oc16, od16, .func (PySem.W.fnOf "unlock" "unlock" (defArgs (top 14)) (defBody (top 14)) (defScope (top 14)) .none kV16 dc16 pm16 an16 cd16 ct16), sl16⟩) (c16 : PySem.W.codeIn K cd16 "unlock" = true) (k16 : PySem.W.keepIn K (.ref f16) = true)
    {f17 : Addr} {od17 an17 : Option Addr} {sl17 : Array (Option Value)} {oc17 kV17 dc17 pm17 cd17 ct17 : Value}
    (a17 : PySem.W.nsIn K mainGlobals "joined" = some (some (.ref f17))) (l17 : K.lookup f17 = some ⟨oc17, od17, .func (PySem.W.fnOf "joined" "joined" (defArgs (top 15)) (defBody (top 15)) (defScope (top 15)) .none kV17 dc17 pm17 an17 cd17 ct17), sl17⟩) (c17 : PySem.W.codeIn K cd17 "joined" = true) (k17 : PySem.W.keepIn K (.ref f17) = true)
    {f18 : Addr} {od18 an18 : Option Addr} {sl18 : Array (Option Value)} {oc18 kV18 dc18 pm18 cd18 ct18 : Value}
    (a18 : PySem.W.nsIn K mainGlobals "pledge" = some (some (.ref f18))) (l18 : K.lookup f18 = some ⟨oc18, od18, .func (PySem.W.fnOf "pledge" "pledge" (defArgs (top 17)) (defBody (top 17)) (defScope (top 17)) .none kV18 dc18 pm18 an18 cd18 ct18), sl18⟩) (c18 : PySem.W.codeIn K cd18 "pledge" = true) (k18 : PySem.W.keepIn K (.ref f18) = true)
    {f19 : Addr} {od19 an19 : Option Addr} {sl19 : Array (Option Value)} {oc19 kV19 dc19 pm19 cd19 ct19 : Value}
    (a19 : PySem.W.nsIn K mainGlobals "begin" = some (some (.ref f19))) (l19 : K.lookup f19 = some ⟨oc19, od19, .func (PySem.W.fnOf "begin" "begin" (defArgs (top 19)) (defBody (top 19)) (defScope (top 19)) .none kV19 dc19 pm19 an19 cd19 ct19), sl19⟩) (c19 : PySem.W.codeIn K cd19 "begin" = true) (k19 : PySem.W.keepIn K (.ref f19) = true)
    {f20 : Addr} {od20 an20 : Option Addr} {sl20 : Array (Option Value)} {oc20 kV20 dc20 pm20 cd20 ct20 : Value}
    (a20 : PySem.W.nsIn K mainGlobals "answer" = some (some (.ref f20))) (l20 : K.lookup f20 = some ⟨oc20, od20, .func (PySem.W.fnOf "answer" "answer" (defArgs (top 20)) (defBody (top 20)) (defScope (top 20)) .none kV20 dc20 pm20 an20 cd20 ct20), sl20⟩) (c20 : PySem.W.codeIn K cd20 "answer" = true) (k20 : PySem.W.keepIn K (.ref f20) = true)
    {f21 : Addr} {od21 an21 : Option Addr} {sl21 : Array (Option Value)} {oc21 kV21 dc21 pm21 cd21 ct21 : Value}
    (a21 : PySem.W.nsIn K mainGlobals "log_of" = some (some (.ref f21))) (l21 : K.lookup f21 = some ⟨oc21, od21, .func (PySem.W.fnOf "log_of" "log_of" (defArgs (top 10)) (defBody (top 10)) (defScope (top 10)) .none kV21 dc21 pm21 an21 cd21 ct21), sl21⟩) (c21 : PySem.W.codeIn K cd21 "log_of" = true) (k21 : PySem.W.keepIn K (.ref f21) = true)
    {f22 : Addr} {od22 an22 : Option Addr} {sl22 : Array (Option Value)} {oc22 kV22 dc22 pm22 cd22 ct22 : Value}
    (a22 : PySem.W.nsIn K mainGlobals "relocked" = some (some (.ref f22))) (l22 : K.lookup f22 = some ⟨oc22, od22, .func (PySem.W.fnOf "relocked" "relocked" (defArgs (top 16)) (defBody (top 16)) (defScope (top 16)) .none kV22 dc22 pm22 an22 cd22 ct22), sl22⟩) (c22 : PySem.W.codeIn K cd22 "relocked" = true) (k22 : PySem.W.keepIn K (.ref f22) = true)
    {f23 : Addr} {od23 an23 : Option Addr} {sl23 : Array (Option Value)} {oc23 kV23 dc23 pm23 cd23 ct23 : Value}
    (a23 : PySem.W.nsIn K mainGlobals "key_of" = some (some (.ref f23))) (l23 : K.lookup f23 = some ⟨oc23, od23, .func (PySem.W.fnOf "key_of" "key_of" (defArgs (top 23)) (defBody (top 23)) (defScope (top 23)) .none kV23 dc23 pm23 an23 cd23 ct23), sl23⟩) (c23 : PySem.W.codeIn K cd23 "key_of" = true) (k23 : PySem.W.keepIn K (.ref f23) = true)
    {f24 : Addr} {od24 an24 : Option Addr} {sl24 : Array (Option Value)} {oc24 kV24 dc24 pm24 cd24 ct24 : Value}
    (a24 : PySem.W.nsIn K mainGlobals "made_row" = some (some (.ref f24))) (l24 : K.lookup f24 = some ⟨oc24, od24, .func (PySem.W.fnOf "made_row" "made_row" (defArgs (top 22)) (defBody (top 22)) (defScope (top 22)) .none kV24 dc24 pm24 an24 cd24 ct24), sl24⟩) (c24 : PySem.W.codeIn K cd24 "made_row" = true) (k24 : PySem.W.keepIn K (.ref f24) = true)
    {f25 : Addr} {od25 an25 : Option Addr} {sl25 : Array (Option Value)} {oc25 kV25 dc25 pm25 cd25 ct25 : Value}
    (a25 : PySem.W.nsIn K mainGlobals "law" = some (some (.ref f25))) (l25 : K.lookup f25 = some ⟨oc25, od25, .func (PySem.W.fnOf "law" "law" (defArgs (top 31)) (defBody (top 31)) (defScope (top 31)) .none kV25 dc25 pm25 an25 cd25 ct25), sl25⟩) (c25 : PySem.W.codeIn K cd25 "law" = true) (k25 : PySem.W.keepIn K (.ref f25) = true)
    (z_abs : PySem.W.nsIn K mainGlobals "abs" = some none)
    (z_int : PySem.W.nsIn K mainGlobals "int" = some none)
    (z_len : PySem.W.nsIn K mainGlobals "len" = some none)
    (z_list : PySem.W.nsIn K mainGlobals "list" = some none)
    (z_range : PySem.W.nsIn K mainGlobals "range" = some none)
    (z_sorted : PySem.W.nsIn K mainGlobals "sorted" = some none)
    (z_tuple : PySem.W.nsIn K mainGlobals "tuple" = some none)
    {t_MOST : Tok} (g_MOST : PySem.W.nsIn K mainGlobals "MOST" = some (some (.int 400 t_MOST)))
    : ∃ fd : FuncData, (∀ (s : Shared) (v : Value), BindsTo s fd ⟨[v], []⟩ [("script", v)]) ∧ ∀ (P : Program) (w : World) (base : Heap), FnOk P w K mg base (L2.CX P w) 6 fa fd ["script"] (LSp K ⟨[], 0⟩ 29 C_law) := by
  have e : f25 = fa := by
    have e := hfa.symm.trans (PySem.W.mg_of X G a25)
    cases e; rfl
  subst e
  have F0 := fun_mk (st := top 27) l0 c0 k0
  have b0 := F0.binds (ps := ["script"]) fun _ _ _ _ _ _ us hl => match us, hl with | [_], _ => rfl
  have F1 := fun_mk (st := top 28) l1 c1 k1
  have b1 := F1.binds (ps := ["d", "many"]) fun _ _ _ _ _ _ us hl => match us, hl with | [_, _], _ => rfl
  have F2 := fun_mk (st := top 30) l2 c2 k2
  have b2 := F2.binds (ps := ["d"]) fun _ _ _ _ _ _ us hl => match us, hl with | [_], _ => rfl
  have F3 := fun_mk (st := top 4) l3 c3 k3
  have b3 := F3.binds (ps := ["number"]) fun _ _ _ _ _ _ us hl => match us, hl with | [_], _ => rfl
  have F4 := fun_mk (st := top 6) l4 c4 k4
  have b4 := F4.binds (ps := ["p", "base", "times"]) fun _ _ _ _ _ _ us hl => match us, hl with | [_, _, _], _ => rfl
  have F5 := fun_mk (st := top 5) l5 c5 k5
  have b5 := F5.binds (ps := ["group"]) fun _ _ _ _ _ _ us hl => match us, hl with | [_], _ => rfl
  have F6 := fun_mk (st := top 8) l6 c6 k6
  have b6 := F6.binds (ps := ["group"]) fun _ _ _ _ _ _ us hl => match us, hl with | [_], _ => rfl
  have F7 := fun_mk (st := top 11) l7 c7 k7
  have b7 := F7.binds (ps := ["group", "key"]) fun _ _ _ _ _ _ us hl => match us, hl with | [_, _], _ => rfl
  have F8 := fun_mk (st := top 12) l8 c8 k8
  have b8 := F8.binds (ps := ["group", "own", "other"]) fun _ _ _ _ _ _ us hl => match us, hl with | [_, _, _], _ => rfl
  have F9 := fun_mk (st := top 7) l9 c9 k9
  have b9 := F9.binds (ps := ["group", "base", "times"]) fun _ _ _ _ _ _ us hl => match us, hl with | [_, _, _], _ => rfl
  have F10 := fun_mk (st := top 9) l10 c10 k10
  have b10 := F10.binds (ps := ["group", "one"]) fun _ _ _ _ _ _ us hl => match us, hl with | [_, _], _ => rfl
  have F11 := fun_mk (st := top 13) l11 c11 k11
  have b11 := F11.binds (ps := ["group", "public", "message", "drawn"]) fun _ _ _ _ _ _ us hl => match us, hl with | [_, _, _, _], _ => rfl
  have F12 := fun_mk (st := top 21) l12 c12 k12
  have b12 := F12.binds (ps := ["group", "public", "row"]) fun _ _ _ _ _ _ us hl => match us, hl with | [_, _, _], _ => rfl
  have F13 := fun_mk (st := top 24) l13 c13 k13
  have b13 := F13.binds (ps := ["group", "second", "key", "drawn", "asked"]) fun _ _ _ _ _ _ us hl => match us, hl with | [_, _, _, _, _], _ => rfl
  have F14 := fun_mk (st := top 25) l14 c14 k14
  have b14 := F14.binds (ps := ["group", "second", "public", "other", "row"]) fun _ _ _ _ _ _ us hl => match us, hl with | [_, _, _, _, _], _ => rfl
  have F15 := fun_mk (st := top 29) l15 c15 k15
  have b15 := F15.binds (ps := ["p", "base", "times"]) fun _ _ _ _ _ _ us hl => match us, hl with | [_, _, _], _ => rfl
  have F16 := fun_mk (st := top 14) l16 c16 k16
  have b16 := F16.binds (ps := ["group", "key", "pair"]) fun _ _ _ _ _ _ us hl => match us, hl with | [_, _, _], _ => rfl
  have F17 := fun_mk (st := top 15) l17 c17 k17
  have b17 := F17.binds (ps := ["group", "one", "other"]) fun _ _ _ _ _ _ us hl => match us, hl with | [_, _, _], _ => rfl
  have F18 := fun_mk (st := top 17) l18 c18 k18
  have b18 := F18.binds (ps := ["group", "second", "message", "drawn"]) fun _ _ _ _ _ _ us hl => match us, hl with | [_, _, _, _], _ => rfl
  have F19 := fun_mk (st := top 19) l19 c19 k19
  have b19 := F19.binds (ps := ["group", "drawn"]) fun _ _ _ _ _ _ us hl => match us, hl with | [_, _], _ => rfl
  have F20 := fun_mk (st := top 20) l20 c20 k20
  have b20 := F20.binds (ps := ["group", "key", "drawn", "asked"]) fun _ _ _ _ _ _ us hl => match us, hl with | [_, _, _, _], _ => rfl
  have F21 := fun_mk (st := top 10) l21 c21 k21
  have b21 := F21.binds (ps := ["group", "one"]) fun _ _ _ _ _ _ us hl => match us, hl with | [_, _], _ => rfl
  have F22 := fun_mk (st := top 16) l22 c22 k22
  have b22 := F22.binds (ps := ["group", "public", "pair", "drawn"]) fun _ _ _ _ _ _ us hl => match us, hl with | [_, _, _, _], _ => rfl
  have F23 := fun_mk (st := top 23) l23 c23 k23
  have b23 := F23.binds (ps := ["group", "public", "one", "other"]) fun _ _ _ _ _ _ us hl => match us, hl with | [_, _, _, _], _ => rfl
  have F24 := fun_mk (st := top 22) l24 c24 k24
  have b24 := F24.binds (ps := ["group", "public", "asked", "told"]) fun _ _ _ _ _ _ us hl => match us, hl with | [_, _, _, _], _ => rfl
  have F25 := fun_mk (st := top 31) l25 c25 k25
  have b25 := F25.binds (ps := ["script"]) fun _ _ _ _ _ _ us hl => match us, hl with | [_], _ => rfl
  let E : Env K mg := {
    a__law_begin := f0, fd__law_begin := _, F__law_begin := F0, m__law_begin := PySem.W.mg_of X G a0, k__law_begin := k0, b__law_begin := b0,
    a__law_take := f1, fd__law_take := _, F__law_take := F1, m__law_take := PySem.W.mg_of X G a1, k__law_take := k1, b__law_take := b1,
    a__law_group := f2, fd__law_group := _, F__law_group := F2, m__law_group := PySem.W.mg_of X G a2, k__law_group := k2, b__law_group := b2,
    a_is_prime := f3, fd_is_prime := _, F_is_prime := F3, m_is_prime := PySem.W.mg_of X G a3, k_is_prime := k3, b_is_prime := b3,
    a_power_in := f4, fd_power_in := _, F_power_in := F4, m_power_in := PySem.W.mg_of X G a4, k_power_in := k4, b_power_in := b4,
    a_check := f5, fd_check := _, F_check := F5, m_check := PySem.W.mg_of X G a5, k_check := k5, b_check := b5,
    a_members := f6, fd_members := _, F_members := F6, m_members := PySem.W.mg_of X G a6, k_members := k6, b_members := b6,
    a_check_key := f7, fd_check_key := _, F_check_key := F7, m_check_key := PySem.W.mg_of X G a7, k_check_key := k7, b_check_key := b7,
    a_agreed := f8, fd_agreed := _, F_agreed := F8, m_agreed := PySem.W.mg_of X G a8, k_agreed := k8, b_agreed := b8,
    a_power := f9, fd_power := _, F_power := F9, m_power := PySem.W.mg_of X G a9, k_power := k9, b_power := b9,
    a_check_member := f10, fd_check_member := _, F_check_member := F10, m_check_member := PySem.W.mg_of X G a10, k_check_member := k10, b_check_member := b10,
    a_lock := f11, fd_lock := _, F_lock := F11, m_lock := PySem.W.mg_of X G a11, k_lock := k11, b_lock := b11,
    a_is_right := f12, fd_is_right := _, F_is_right := F12, m_is_right := PySem.W.mg_of X G a12, k_is_right := k12, b_is_right := b12,
    a_same_log := f13, fd_same_log := _, F_same_log := F13, m_same_log := PySem.W.mg_of X G a13, k_same_log := k13, b_same_log := b13,
    a_is_same_log := f14, fd_is_same_log := _, F_is_same_log := F14, m_is_same_log := PySem.W.mg_of X G a14, k_is_same_log := k14, b_is_same_log := b14,
    a__law_power := f15, fd__law_power := _, F__law_power := F15, m__law_power := PySem.W.mg_of X G a15, k__law_power := k15, b__law_power := b15,
    a_unlock := f16, fd_unlock := _, F_unlock := F16, m_unlock := PySem.W.mg_of X G a16, k_unlock := k16, b_unlock := b16,
    a_joined := f17, fd_joined := _, F_joined := F17, m_joined := PySem.W.mg_of X G a17, k_joined := k17, b_joined := b17,
    a_pledge := f18, fd_pledge := _, F_pledge := F18, m_pledge := PySem.W.mg_of X G a18, k_pledge := k18, b_pledge := b18,
    a_begin := f19, fd_begin := _, F_begin := F19, m_begin := PySem.W.mg_of X G a19, k_begin := k19, b_begin := b19,
    a_answer := f20, fd_answer := _, F_answer := F20, m_answer := PySem.W.mg_of X G a20, k_answer := k20, b_answer := b20,
    a_log_of := f21, fd_log_of := _, F_log_of := F21, m_log_of := PySem.W.mg_of X G a21, k_log_of := k21, b_log_of := b21,
    a_relocked := f22, fd_relocked := _, F_relocked := F22, m_relocked := PySem.W.mg_of X G a22, k_relocked := k22, b_relocked := b22,
    a_key_of := f23, fd_key_of := _, F_key_of := F23, m_key_of := PySem.W.mg_of X G a23, k_key_of := k23, b_key_of := b23,
    a_made_row := f24, fd_made_row := _, F_made_row := F24, m_made_row := PySem.W.mg_of X G a24, k_made_row := k24, b_made_row := b24,
    a_law := f25, fd_law := _, F_law := F25, m_law := PySem.W.mg_of X G a25, k_law := k25, b_law := b25,
    n_abs := PySem.W.mg_none_of X G z_abs,
    n_int := PySem.W.mg_none_of X G z_int,
    n_len := PySem.W.mg_none_of X G z_len,
    n_list := PySem.W.mg_none_of X G z_list,
    n_range := PySem.W.mg_none_of X G z_range,
    n_sorted := PySem.W.mg_none_of X G z_sorted,
    n_tuple := PySem.W.mg_none_of X G z_tuple,
    g_MOST := ⟨_, PySem.W.mg_of X G g_MOST⟩ }
  exact ⟨_, fun s v => .of_eq rfl, fun P w base => ok_law E⟩
end
end K44
end MP

namespace MP
open PySem
/-- no great number -/
def Sm (i : Int) : Prop := -(2 ^ 64) < i ∧ i < 2 ^ 64
theorem mul_sm {i j : Int} (h : Sm i) (k : Sm j) : mulS (.val (.int i)) (.val (.int j)) = some (.val (.int (i * j))) := mul_int h.1 h.2 k.1 k.2
theorem imul_sm {i j : Int} (h : Sm i) (k : Sm j) : imulS (.val (.int i)) (.val (.int j)) = some (.val (.int (i * j))) := mul_int h.1 h.2 k.1 k.2
theorem Sm.emod {i p : Int} (h : 0 < p) (h2 : p < 2 ^ 62) : Sm (i % p) := ⟨by have := Int.emod_nonneg i (show p ≠ 0 by omega); omega, by have := Int.emod_lt_of_pos i h; omega⟩
section
variable {a b c d : D} {l : List D}
@[simp] theorem ixt0 : ixS (.val (.tup (a :: l))) (.val (.int 0)) = some (.val a) := ix_at rfl (by decide) rfl
@[simp] theorem ixt1 : ixS (.val (.tup (a :: b :: l))) (.val (.int 1)) = some (.val b) := ix_at rfl (by decide) rfl
@[simp] theorem ixt2 : ixS (.val (.tup (a :: b :: c :: l))) (.val (.int 2)) = some (.val c) := ix_at rfl (by decide) rfl
@[simp] theorem ixt3 : ixS (.val (.tup (a :: b :: c :: d :: l))) (.val (.int 3)) = some (.val d) := ix_at rfl (by decide) rfl
end
theorem pow_emod (b p : Int) : ∀ n : Nat, (b % p) ^ n % p = b ^ n % p
  | 0 => by simp
  | n + 1 => by
    rw [Int.pow_succ, Int.pow_succ, Int.mul_emod, pow_emod b p n, ← Int.mul_emod, Int.mul_emod, Int.emod_emod_of_dvd _ (Int.dvd_refl p), ← Int.mul_emod]
end MP
namespace MP.K44
open PySem
abbrev Gr (p q g : Int) : Sl := .val (.tup [.int p, .int q, .int g])
/-! ### power_in -/
theorem pow_step (p b : Int) (m r : Nat) (f : Int) : (if r = 1 then f * b % p else f) * (b * b % p) ^ m % p = f * b ^ (2 * m + (if r = 1 then 1 else 0)) % p := by
  have e : (b * b) ^ m = b ^ (2 * m) := by rw [Int.pow_mul, show b ^ 2 = b * b by rw [Int.pow_succ, Int.pow_one]]
  have k : ∀ x : Int, x * (b * b % p) ^ m % p = x * (b ^ (2 * m)) % p := fun x => by
    rw [Int.mul_emod, pow_emod, e, ← Int.mul_emod]
  by_cases h : r = 1
  · rw [if_pos h, if_pos h, k, Int.pow_succ, Int.mul_emod, Int.emod_emod_of_dvd _ (Int.dvd_refl p), ← Int.mul_emod, Int.mul_assoc, Int.mul_comm b]
  · rw [if_neg h, if_neg h, k]; rfl
def powT : Tv := ofE (binE gtS (varE 2) (cstE (.int 0)))
def powB : Cs := (seqC (ifC (ofE (binE eqS (binE modS (varE 2) (cstE (.int 2))) (cstE (.int 1)))) (asgC 3 (binE modS (binE mulS (varE 3) (varE 1)) (varE 0))) skipC)
  (seqC (asgC 1 (binE modS (binE mulS (varE 1) (varE 1)) (varE 0)))
  (augC 2 fdivS (cstE (.int 2)))))
theorem pow_loop (p : Int) (hp : 1 < p) (hp2 : p < 2 ^ 30) (ta : TapeO) : ∀ (k fuel : Nat) (b f : Int) (n : Nat), k < fuel → n < 2 ^ k → 0 ≤ b → b < p → 0 ≤ f → f < p →
    ∃ b' n', whileC powT powB fuel [I p, I b, I (n : Int), I f] ta = some (.nx, [I p, I b', I n', I (f * b ^ n % p)], ta)
  | k, 0, b, f, n, hk, _, _, _, _, _ => by omega
  | k, fuel + 1, b, f, n, hk, hn, hb0, hb1, hf0, hf1 => by
    by_cases hz : n = 0
    · subst hz
      refine ⟨b, 0, ?_⟩
      rw [while_ap]
      simp [powT, gt_int, Int.emod_eq_of_lt hf0 hf1]
    · obtain ⟨k, rfl⟩ : ∃ k', k = k' + 1 := ⟨k - 1, by
        rcases k with _ | k
        · simp at hn; omega
        · omega⟩
      have hpp : 0 < p := by omega
      have hb : Sm b := ⟨by omega, by omega⟩
      have hf : Sm f := ⟨by omega, by omega⟩
      have mo := fun i => @mod_int i p hpp
      have m2 := fun i => @mod_int i 2 (by decide)
      have hpn : (0 : Int) < n := by omega
      have hpN : 0 < n := by omega
      have em := fun i => Int.emod_nonneg i (show p ≠ 0 by omega)
      have el := fun i => Int.emod_lt_of_pos i hpp
      obtain ⟨b', n', e⟩ := pow_loop p hp hp2 ta k fuel (b * b % p) (if n % 2 = 1 then f * b % p else f) (n / 2) (by omega) (by rw [Nat.pow_succ] at hn; omega) (em _) (el _) (by split; exact em _; exact hf0) (by split; exact el _; exact hf1)
      refine ⟨b', n', ?_⟩
      rw [pow_step, show 2 * (n / 2) + (if n % 2 = 1 then 1 else 0) = n by split <;> omega] at e
      rw [while_ap]
      have hc : ((n / 2 : Nat) : Int) = (n : Int) / 2 := by omega
      rw [hc] at e
      by_cases h1 : n % 2 = 1
      · have h1' : (n : Int) % 2 = 1 := by omega
        rw [if_pos h1] at e
        simp [powT, powB, gt_int, hpn, hpN, m2, eq_int, h1', mo, mul_sm, hb, hf, fdiv_int] at e ⊢
        exact e
      · have h1' : ¬ (n : Int) % 2 = 1 := by omega
        rw [if_neg h1] at e
        simp [powT, powB, gt_int, hpn, hpN, m2, eq_int, h1', mo, mul_sm, hb, hf, fdiv_int] at e ⊢
        exact e
theorem power_in_ok {p : Int} (hp : 1 < p) (hp2 : p < 2 ^ 30) (b n : Int) (hn : n < 2 ^ 60) (ta : TapeO) : F_power_in [I p, I b, I n] ta = some (.ok (.val (.int (b ^ n.toNat % p))), ta) := by
  have hpp : 0 < p := by omega
  have mo := fun i => @mod_int i p hpp
  unfold F_power_in C_power_in
  rw [defF_ap]
  by_cases h0 : 0 ≤ n
  · obtain ⟨m, rfl⟩ := Int.eq_ofNat_of_zero_le h0
    obtain ⟨b', n', e⟩ := pow_loop p hp hp2 ta 60 FUEL (b % p) 1 m (by decide) (by have : ((2 : Int) ^ 60) = ((2 ^ 60 : Nat) : Int) := by decide
                                                                                   omega) (Int.emod_nonneg _ (by omega)) (Int.emod_lt_of_pos _ hpp) (by decide) hp
    rw [Int.one_mul, pow_emod] at e
    unfold powT powB at e
    simp [mo, e]
  · have hz : ¬ 0 < n := by omega
    have ht : n.toNat = 0 := by omega
    have e : whileC powT powB FUEL [I p, I (b % p), I n, I 1] ta = some (.nx, [I p, I (b % p), I n, I 1], ta) := by
      show whileC powT powB (99999 + 1) _ _ = _
      rw [while_ap]
      simp [powT, gt_int, hz]
    unfold powT powB at e
    simp [mo, e, ht, Int.emod_eq_of_lt (show (0 : Int) ≤ 1 by decide) hp]

/-! ### the groups -/
structure Gp (p q g : Int) : Prop where
  p1 : 3 ≤ p
  p2 : p < 100
  q1 : 2 ≤ q
  q2 : q < 100
  qp : (p - 1) % q = 0
  g1 : 2 ≤ g
  g2 : g < p
  ip : ∀ ta, F_is_prime [I p] ta = some (.ok (.val (.bl true)), ta)
  iq : ∀ ta, F_is_prime [I q] ta = some (.ok (.val (.bl true)), ta)
  gq : g ^ q.toNat % p = 1
  inj : ∀ i, i < q.toNat → ∀ j, j < q.toNat → g ^ i % p = g ^ j % p → i = j
section
variable {p q g : Int} {ta : TapeO}
theorem Gp.pw (G : Gp p q g) (b n : Int) (hn : n < 2 ^ 60) : F_power_in [I p, I b, I n] ta = some (.ok (.val (.int (b ^ n.toNat % p))), ta) := power_in_ok (by have := G.p1; omega) (by have := G.p2; omega) b n hn ta
theorem Gp.chk (G : Gp p q g) : F_check [Gr p q g] ta = some (.ok (.val .non), ta) := by
  obtain ⟨p1, p2, q1, q2, qp, g1, g2, ip, iq, gq, inj⟩ := id G
  have e := G.pw (ta := ta) g q (by omega)
  rw [gq] at e
  have mo := fun i => @mod_int i q (by omega)
  have h400 : p ≤ 400 := by omega
  unfold F_check C_check
  rw [defF_ap]
  simp [le_int, lt_int, p1, h400, ip, iq, sub_int, mo, qp, ne_int, g1, g2, e]
def Mb (p q x : Int) : Prop := 1 ≤ x ∧ x < p ∧ x ^ q.toNat % p = 1
def Ky (q k : Int) : Prop := 0 ≤ k ∧ k < q
theorem Gp.chm (G : Gp p q g) {x : Int} (h : Mb p q x) : F_check_member [Gr p q g, I x] ta = some (.ok (.val .non), ta) := by
  obtain ⟨h1, h2, h3⟩ := h
  have e := G.pw (ta := ta) x q (by have := G.q2; omega)
  rw [h3] at e
  unfold F_check_member C_check_member
  rw [defF_ap]
  simp [G.chk, le_int, lt_int, h1, h2, e, ne_int]
theorem Gp.chk_key (G : Gp p q g) {k : Int} (h : Ky q k) : F_check_key [Gr p q g, I k] ta = some (.ok (.val .non), ta) := by
  obtain ⟨h1, h2⟩ := h
  unfold F_check_key C_check_key
  rw [defF_ap]
  simp [G.chk, le_int, lt_int, h1, h2]
theorem Gp.smp (G : Gp p q g) (i : Int) : Sm (i % p) := Sm.emod (by have := G.p1; omega) (by have := G.p2; omega)
theorem Gp.smq (G : Gp p q g) (i : Int) : Sm (i % q) := Sm.emod (by have := G.q1; omega) (by have := G.q2; omega)
theorem Gp.mp (G : Gp p q g) (i : Int) : modS (I i) (I p) = some (I (i % p)) := mod_int (by have := G.p1; omega)
theorem Gp.mq (G : Gp p q g) (i : Int) : modS (I i) (I q) = some (I (i % q)) := mod_int (by have := G.q1; omega)
theorem Mb.sm (G : Gp p q g) {x : Int} (h : Mb p q x) : Sm x := ⟨by have := h.1; omega, by have := h.2.1; have := G.p2; omega⟩
theorem Ky.sm (G : Gp p q g) {x : Int} (h : Ky q x) : Sm x := ⟨by have := h.1; omega, by have := h.2; have := G.q2; omega⟩
theorem Ky.lt (G : Gp p q g) {x : Int} (h : Ky q x) : x < 2 ^ 60 := by have := h.2; have := G.q2; omega
theorem Gp.power (G : Gp p q g) {x : Int} (h1 : 1 ≤ x) (h2 : x < p) (n : Int) : F_power [Gr p q g, I x, I n] ta = some (.ok (.val (.int (x ^ (n % (p - 1)).toNat % p))), ta) := by
  have hp := G.p1
  have hp2 := G.p2
  have mo := fun i => @mod_int i (p - 1) (by omega)
  have e := G.pw (ta := ta) x (n % (p - 1)) (by have := Int.emod_lt_of_pos n (show 0 < p - 1 by omega); omega)
  unfold F_power C_power
  rw [defF_ap]
  simp [G.chk, le_int, lt_int, h1, h2, sub_int, mo, e]
theorem Gp.agreed (G : Gp p q g) {a b : Int} (ha : Ky q a) (hb : Ky q b) : F_agreed [Gr p q g, I a, I b] ta = some (.ok (.val (.tup [.int (g ^ a.toNat % p), .int (g ^ b.toNat % p), .int ((g ^ b.toNat % p) ^ a.toNat % p)])), ta) := by
  unfold F_agreed C_agreed
  rw [defF_ap]
  simp [G.chk_key ha, G.chk_key hb, G.pw _ _ (ha.lt G), G.pw _ _ (hb.lt G)]
theorem Gp.lock (G : Gp p q g) {y m k : Int} (hy : Mb p q y) (hm : Mb p q m) (hk : Ky q k) : F_lock [Gr p q g, I y, I m, I k] ta = some (.ok (.val (.tup [.int (g ^ k.toNat % p), .int (m * (y ^ k.toNat % p) % p)])), ta) := by
  unfold F_lock C_lock
  rw [defF_ap]
  simp [G.chm hy, G.chm hm, G.chk_key hk, G.pw _ _ (hk.lt G), mul_sm, hm.sm G, G.smp, G.mp]
theorem Gp.unlock (G : Gp p q g) {k u v : Int} (hk : Ky q k) (hu : Mb p q u) (hv : Mb p q v) : F_unlock [Gr p q g, I k, .val (.tup [.int u, .int v])] ta = some (.ok (.val (.int (v * (u ^ (q - k).toNat % p) % p))), ta) := by
  have := G.q2
  have e := G.pw (ta := ta) u (q - k) (by have := hk.1; omega)
  unfold F_unlock C_unlock
  rw [defF_ap]
  simp [G.chm hu, G.chm hv, G.chk_key hk, sub_int, e, mul_sm, hv.sm G, G.smp, G.mp]
theorem Gp.joined (G : Gp p q g) {a b c d : Int} (ha : Mb p q a) (hb : Mb p q b) (hc : Mb p q c) (hd : Mb p q d) : F_joined [Gr p q g, .val (.tup [.int a, .int b]), .val (.tup [.int c, .int d])] ta = some (.ok (.val (.tup [.int (a * c % p), .int (b * d % p)])), ta) := by
  unfold F_joined C_joined
  rw [defF_ap]
  have l4 : (4 : Nat) ≤ LIM := by decide
  simp [addS, l4, forL_cons, G.chm ha, G.chm hb, G.chm hc, G.chm hd, mul_sm, ha.sm G, hb.sm G, hc.sm G, hd.sm G, G.mp]
theorem Gp.pledge (G : Gp p q g) {h m d : Int} (hh : Mb p q h) (hm : Ky q m) (hd : Ky q d) : F_pledge [Gr p q g, I h, I m, I d] ta = some (.ok (.val (.int ((g ^ m.toNat % p) * (h ^ d.toNat % p) % p))), ta) := by
  unfold F_pledge C_pledge
  rw [defF_ap]
  simp [G.chm hh, G.chk_key hm, G.chk_key hd, G.pw _ _ (hm.lt G), G.pw _ _ (hd.lt G), mul_sm, G.smp, G.mp]
theorem Gp.begin (G : Gp p q g) {k : Int} (hk : Ky q k) : F_begin [Gr p q g, I k] ta = some (.ok (.val (.int (g ^ k.toNat % p))), ta) := by
  unfold F_begin C_begin
  rw [defF_ap]
  simp [G.chk_key hk, G.pw _ _ (hk.lt G)]
theorem Gp.answer (G : Gp p q g) {k d a : Int} (hk : Ky q k) (hd : Ky q d) (ha : Ky q a) : F_answer [Gr p q g, I k, I d, I a] ta = some (.ok (.val (.int ((d + a * k) % q))), ta) := by
  unfold F_answer C_answer
  rw [defF_ap]
  simp [G.chk_key hk, G.chk_key hd, G.chk_key ha, mul_sm, hk.sm G, ha.sm G, add_int, G.mq]
theorem Gp.is_right (G : Gp p q g) {y f a t : Int} (hy : Mb p q y) (hf : 1 ≤ f) (hf2 : f < p) (ha : Ky q a) (ht : Ky q t) : F_is_right [Gr p q g, I y, .val (.tup [.int f, .int a, .int t])] ta = some (.ok (.val (.bl (decide (g ^ t.toNat % p = f * (y ^ a.toNat % p) % p)))), ta) := by
  have sf : Sm f := ⟨by omega, by have := G.p2; omega⟩
  unfold F_is_right C_is_right
  rw [defF_ap]
  simp [G.chm hy, le_int, lt_int, hf, hf2, ha.1, ha.2, ht.1, ht.2, G.pw _ _ (ha.lt G), G.pw _ _ (ht.lt G), mul_sm, sf, G.smp, G.mp, eq_int]
theorem Gp.made_row (G : Gp p q g) {y a t : Int} (hy : Mb p q y) (ha : Ky q a) (ht : Ky q t) : F_made_row [Gr p q g, I y, I a, I t] ta = some (.ok (.val (.tup [.int ((g ^ t.toNat % p) * (y ^ (q - a).toNat % p) % p), .int a, .int t])), ta) := by
  have := G.q2
  have e := G.pw (ta := ta) y (q - a) (by have := ha.1; omega)
  unfold F_made_row C_made_row
  rw [defF_ap]
  simp [G.chm hy, G.chk_key ha, G.chk_key ht, sub_int, e, G.pw _ _ (ht.lt G), mul_sm, G.smp, G.mp]
theorem Gp.same_log (G : Gp p q g) {h k d a : Int} (hh : Mb p q h) (hk : Ky q k) (hd : Ky q d) (ha : Ky q a) : F_same_log [Gr p q g, I h, I k, I d, I a] ta = some (.ok (.val (.tup [.int (g ^ d.toNat % p), .int (h ^ d.toNat % p), .int a, .int ((d + a * k) % q)])), ta) := by
  unfold F_same_log C_same_log
  rw [defF_ap]
  simp [G.chm hh, G.chk_key hk, G.chk_key hd, G.chk_key ha, G.pw _ _ (hd.lt G), mul_sm, hk.sm G, ha.sm G, add_int, G.mq]
theorem Gp.is_same_log (G : Gp p q g) {h y z l r a t : Int} (hh : Mb p q h) (hy : Mb p q y) (hz : Mb p q z) (l1 : 1 ≤ l) (l2 : l < p) (r1 : 1 ≤ r) (r2 : r < p) (ha : Ky q a) (ht : Ky q t) :
    F_is_same_log [Gr p q g, I h, I y, I z, .val (.tup [.int l, .int r, .int a, .int t])] ta = some (.ok (.val (.bl (decide (g ^ t.toNat % p = l * (y ^ a.toNat % p) % p) && decide (h ^ t.toNat % p = r * (z ^ a.toNat % p) % p)))), ta) := by
  have sl : Sm l := ⟨by omega, by have := G.p2; omega⟩
  have sr : Sm r := ⟨by omega, by have := G.p2; omega⟩
  unfold F_is_same_log C_is_same_log
  rw [defF_ap]
  by_cases hc : g ^ t.toNat % p = l * (y ^ a.toNat % p) % p
  · simp [forL_cons, G.chm hh, G.chm hy, G.chm hz, le_int, lt_int, l1, l2, r1, r2, ha.1, ha.2, ht.1, ht.2, G.pw _ _ (ha.lt G), G.pw _ _ (ht.lt G), mul_sm, sl, sr, G.smp, G.mp, eq_int, hc]
  · simp [forL_cons, G.chm hh, G.chm hy, G.chm hz, le_int, lt_int, l1, l2, r1, r2, ha.1, ha.2, ht.1, ht.2, G.pw _ _ (ha.lt G), G.pw _ _ (ht.lt G), mul_sm, sl, sr, G.smp, G.mp, eq_int, hc]
end
end MP.K44

namespace MP
open PySem
theorem rgL_range' (lo : Int) (n : Nat) : rgL lo n = (List.range' 0 n).map fun i => D.int (lo + (i : Nat)) := by
  unfold rgL; rw [List.range_eq_range']
theorem small62_of {i : Int} (h : 0 ≤ i) (h2 : i < 1000000) : small62 i = true := by unfold small62; simp; omega
theorem rg1_ok {j : Int} (h : 0 ≤ j) (h2 : j < 1000000) : rg1S [.val (.int j)] = some ((List.range' 0 j.toNat).map fun i => D.int (i : Nat)) := by
  unfold rg1S
  dsimp only
  rw [if_pos (small62_of h h2), rgL_range']
  simp
end MP
namespace MP.K44
open PySem
section
variable {p q g : Int} {ta : TapeO}
theorem pw_mul (g p : Int) (i j : Nat) : (g ^ i % p) * (g ^ j % p) % p = g ^ (i + j) % p := by rw [← Int.mul_emod, ← Int.pow_add]
theorem pw_pow (g p : Int) (i j : Nat) : (g ^ i % p) ^ j % p = g ^ (i * j) % p := by rw [pow_emod, ← Int.pow_mul]
theorem Gp.pp (G : Gp p q g) : 0 < p := by have := G.p1; omega
theorem Gp.mb_of (G : Gp p q g) {z : Int} (h : z ^ q.toNat % p = 1) : Mb p q (z % p) := by
  have hp := G.pp
  have e : (z % p) ^ q.toNat % p = 1 := by rw [pow_emod]; exact h
  refine ⟨?_, Int.emod_lt_of_pos _ hp, e⟩
  have h0 := Int.emod_nonneg z (show p ≠ 0 by omega)
  rcases Int.lt_or_eq_of_le h0 with k | k
  · omega
  · rw [← k] at e
    obtain ⟨m, hm⟩ : ∃ m, q.toNat = m + 1 := ⟨q.toNat - 1, by have := G.q1; omega⟩
    rw [hm, Int.pow_succ, Int.mul_zero] at e
    simp at e
theorem Gp.gqn (G : Gp p q g) (n : Nat) : g ^ (q.toNat * n) % p = 1 := by
  rw [← pw_pow, G.gq]
  have := G.p1
  have e : (1 : Int) ^ n = 1 := Int.one_pow
  rw [e]; exact Int.emod_eq_of_lt (by decide) (by omega)
theorem Gp.mb (G : Gp p q g) (i : Nat) : Mb p q (g ^ i % p) := G.mb_of (by rw [← Int.pow_mul, Nat.mul_comm]; exact G.gqn i)
theorem Gp.mb1 (G : Gp p q g) : Mb p q 1 := by
  have := G.mb 0
  rw [Int.pow_zero, Int.emod_eq_of_lt (by decide) (by have := G.p1; omega)] at this
  exact this
theorem Gp.mbg (G : Gp p q g) : Mb p q g := by
  have := G.mb 1
  rwa [Int.pow_one, Int.emod_eq_of_lt (by have := G.g1; omega) G.g2] at this
/-- exponents count by q -/
theorem Gp.per (G : Gp p q g) (i m : Nat) : g ^ (i + q.toNat * m) % p = g ^ i % p := by
  rw [Int.pow_add, Int.mul_emod, G.gqn, Int.mul_one, Int.emod_emod_of_dvd _ (Int.dvd_refl p)]
theorem Gp.red (G : Gp p q g) (i : Nat) : g ^ (i % q.toNat) % p = g ^ i % p := by
  conv => rhs; rw [← Nat.mod_add_div i q.toNat]
  rw [G.per]
theorem Gp.qn (G : Gp p q g) : 0 < q.toNat := by have := G.q1; omega
theorem Gp.eq_iff (G : Gp p q g) (i j : Nat) : g ^ i % p = g ^ j % p ↔ i % q.toNat = j % q.toNat := by
  constructor
  · intro h
    rw [← G.red i, ← G.red j] at h
    exact G.inj _ (Nat.mod_lt _ G.qn) _ (Nat.mod_lt _ G.qn) h
  · intro h
    rw [← G.red i, ← G.red j, h]
theorem Gp.relocked (G : Gp p q g) {y u v k : Int} (hy : Mb p q y) (hu : Mb p q u) (hv : Mb p q v) (hk : Ky q k) (hgk : Mb p q (g ^ k.toNat % p)) (hyk : Mb p q (y ^ k.toNat % p)) :
    F_relocked [Gr p q g, I y, .val (.tup [.int u, .int v]), I k] ta = some (.ok (.val (.tup [.int (u * (g ^ k.toNat % p) % p), .int (v * (y ^ k.toNat % p) % p)])), ta) := by
  unfold F_relocked C_relocked
  rw [defF_ap]
  have l3 : (3 : Nat) ≤ LIM := by decide
  have e1 : (1 * (y ^ k.toNat % p)) % p = y ^ k.toNat % p := by rw [Int.one_mul, Int.emod_emod_of_dvd _ (Int.dvd_refl p)]
  have e := G.joined (ta := ta) hu hv hgk hyk
  have e2 := G.lock (ta := ta) hy G.mb1 hk
  rw [e1] at e2
  simp [addS, tupleS, l3, forL_cons, G.chm hy, G.chm hu, G.chm hv, e2, e]
theorem Gp.log_loop (G : Gp p q g) (i : Nat) (hi : i < q.toNat) : ∀ (m j : Nat) (z : Sl), j + m = q.toNat → j ≤ i →
    ∃ env, forL (.one 3) (seqC (ifC (ofE (binE eqS (varE 2) (varE 1))) (retVC 3) skipC)
      (asgC 2 (binE modS (binE mulS (varE 2) (binE ixS (varE 0) (cstE (.int 2)))) (binE ixS (varE 0) (cstE (.int 0)))))) ((List.range' j m).map fun i => D.int (i : Nat)) [Gr p q g, I (g ^ i % p), I (g ^ j % p), z] ta = some (.rt (.val (.int i)), env, ta)
  | 0, j, z, h, hj => by omega
  | m + 1, j, z, h, hj => by
    rw [List.range'_succ, List.map_cons, forL_cons]
    by_cases hij : j = i
    · subst hij
      refine ⟨[Gr p q g, I (g ^ j % p), I (g ^ j % p), I j], ?_⟩
      simp [eq_int]
    · have hne : ¬ g ^ j % p = g ^ i % p := fun e => hij (G.inj _ (by omega) _ hi e)
      obtain ⟨env, e⟩ := G.log_loop i hi m (j + 1) (I j) (by omega) (by omega)
      refine ⟨env, ?_⟩
      have hs : (g ^ j % p * g) % p = g ^ (j + 1) % p := by
        rw [Int.pow_succ, Int.mul_emod, Int.emod_emod_of_dvd _ (Int.dvd_refl p), ← Int.mul_emod]
      simp [eq_int, hne, mul_sm, G.smp, G.mbg.sm G, G.mp, hs]
      exact e
theorem Gp.log (G : Gp p q g) (i : Nat) (hi : i < q.toNat) : F_log_of [Gr p q g, I (g ^ i % p)] ta = some (.ok (.val (.int i)), ta) := by
  obtain ⟨env, e⟩ := G.log_loop (ta := ta) i hi q.toNat 0 .un (by omega) (Nat.zero_le _)
  have p1 := G.p1
  rw [Int.pow_zero, Int.emod_eq_of_lt (show (0 : Int) ≤ 1 by decide) (by omega : (1 : Int) < p)] at e
  unfold F_log_of C_log_of
  rw [defF_ap]
  simp [G.chm (G.mb i), rg1_ok (show 0 ≤ q by have := G.q1; omega) (show q < 1000000 by have := G.q2; omega), e]
theorem Gp.mem_loop (G : Gp p q g) : ∀ (m j : Nat) (z : Sl) (l : List D), j + m = q.toNat → l.length = j →
    ∃ x z', forL (.one 3) (seqC (appC 1 (varE 2))
      (asgC 2 (binE modS (binE mulS (varE 2) (binE ixS (varE 0) (cstE (.int 2)))) (binE ixS (varE 0) (cstE (.int 0)))))) ((List.range' j m).map fun i => D.int (i : Nat)) [Gr p q g, .own l, I (g ^ j % p), z] ta =
      some (.nx, [Gr p q g, .own (l ++ (List.range' j m).map fun i => D.int (g ^ i % p)), x, z'], ta)
  | 0, j, z, l, h, hl => ⟨I (g ^ j % p), z, by simp⟩
  | m + 1, j, z, l, h, hl => by
    obtain ⟨x, z', e⟩ := G.mem_loop m (j + 1) (I j) (l ++ [D.int (g ^ j % p)]) (by omega) (by simp [hl])
    refine ⟨x, z', ?_⟩
    rw [List.range'_succ, List.map_cons, forL_cons]
    have hs : (g ^ j % p * g) % p = g ^ (j + 1) % p := by
      rw [Int.pow_succ, Int.mul_emod, Int.emod_emod_of_dvd _ (Int.dvd_refl p), ← Int.mul_emod]
    have hlim : j < LIM := by
      have := G.q2; have := G.q1
      have hL : LIM = 16777216 := rfl
      omega
    simp [hl, hlim, mul_sm, G.smp, G.mbg.sm G, G.mp, hs]
    simp at e
    exact e
def mems (p q g : Int) : List Int := (List.range' 0 q.toNat).map fun i => g ^ i % p
theorem Gp.members (G : Gp p q g) : F_members [Gr p q g] ta = some (.ok (.val (.tup ((sortI (mems p q g)).map D.int))), ta) := by
  obtain ⟨x, z', e⟩ := G.mem_loop (ta := ta) q.toNat 0 .un [] (by omega) rfl
  have p1 := G.p1
  rw [Int.pow_zero, Int.emod_eq_of_lt (show (0 : Int) ≤ 1 by decide) (by omega : (1 : Int) < p)] at e
  have em : ((List.range' 0 q.toNat).map fun i => D.int (g ^ i % p)) = (mems p q g).map D.int := by unfold mems; rw [List.map_map]; rfl
  rw [List.nil_append, em] at e
  unfold F_members C_members
  rw [defF_ap]
  simp [G.chk, rg1_ok (show 0 ≤ q by have := G.q1; omega) (show q < 1000000 by have := G.q2; omega), e, sortedS, onInts, ints?_map, tupleS]
end
end MP.K44

namespace MP
open PySem
section
variable {a b c d a' b' c' d' : Int}
theorem ne_tup2 : neS (.val (.tup [.int a, .int b])) (.val (.tup [.int a', .int b'])) = some (.val (.bl (!decide (a = a' ∧ b = b')))) := by
  unfold neS eqC
  simp [D.py, pys, SeqAt.shaped, PyData.canLay0, PyData.canLayAll0, PyData.depth, PyData.depthAll, PyData.eqv, PyData.eqvAll]
  by_cases h : a = a' <;> by_cases k : b = b' <;> simp [h, k]
theorem ne_tup3 : neS (.val (.tup [.int a, .int b, .int c])) (.val (.tup [.int a', .int b', .int c'])) = some (.val (.bl (!decide (a = a' ∧ b = b' ∧ c = c')))) := by
  unfold neS eqC
  simp [D.py, pys, SeqAt.shaped, PyData.canLay0, PyData.canLayAll0, PyData.depth, PyData.depthAll, PyData.eqv, PyData.eqvAll]
  by_cases h : a = a' <;> by_cases k : b = b' <;> by_cases l : c = c' <;> simp [h, k, l]
theorem canLay_ints : ∀ l : List Int, PyData.canLayAll0 (pys (l.map D.int)) = true
  | [] => rfl
  | n :: l => by simp [pys, D.py, PyData.canLayAll0, PyData.canLay0, canLay_ints l]
theorem depth_ints : ∀ l : List Int, PyData.depthAll (pys (l.map D.int)) = 0
  | [] => rfl
  | n :: l => by simp [pys, D.py, PyData.depthAll, PyData.depth, depth_ints l]
theorem eqv_ints : ∀ l m : List Int, PyData.eqvAll (pys (l.map D.int)) (pys (m.map D.int)) = decide (l = m)
  | [], [] => by simp [pys, PyData.eqvAll]
  | n :: l, [] => by simp [pys, PyData.eqvAll]
  | [], n :: l => by simp [pys, PyData.eqvAll]
  | n :: l, k :: m => by
    simp only [List.map_cons, pys, PyData.eqvAll, D.py, PyData.eqv, eqv_ints l m]
    by_cases h : n = k <;> by_cases h2 : l = m <;> simp [h, h2]
theorem ne_tupI (l m : List Int) : neS (.val (.tup (l.map D.int))) (.val (.tup (m.map D.int))) = some (.val (.bl (!decide (l = m)))) := by
  unfold neS eqC
  simp [D.py, SeqAt.shaped, PyData.canLay0, PyData.depth, canLay_ints, depth_ints, PyData.eqv, eqv_ints]
theorem ne_ownI (l m : List Int) : neS (.own (l.map D.int)) (.own (m.map D.int)) = some (.val (.bl (!decide (l = m)))) := by
  unfold neS eqC
  simp [D.py, SeqAt.shaped, PyData.canLay0, PyData.depth, canLay_ints, depth_ints, PyData.eqv, eqv_ints]
theorem ne_bl (x y : Bool) : neS (.val (.bl x)) (.val (.bl y)) = some (.val (.bl (!decide (x = y)))) := by
  unfold neS eqC
  simp [D.py, SeqAt.shaped, PyData.canLay0, PyData.depth, PyData.eqv]
  cases x <;> cases y <;> rfl
theorem ne_non : neS (.val .non) (.val .non) = some (.val (.bl false)) := by
  unfold neS eqC
  simp [D.py, SeqAt.shaped, PyData.canLay0, PyData.depth, PyData.eqv]
end
theorem sort_perm {l m : List Int} (h : l.Perm m) : sortI l = sortI m :=
  sorted_uniq ((sortI_perm l).trans (h.trans (sortI_perm m).symm)) (sortI_sorted l) (sortI_sorted m)
end MP
namespace MP.K44
open PySem
def E (p g : Int) (i : Nat) : Int := g ^ i % p
structure Good (p : Int) (Q : Nat) (g : Int) : Prop where
  G : Gp p Q g
  B : ∀ t, 1 ≤ t → t < Q → Gp p Q (g ^ t % p)
  perm : ∀ t, 1 ≤ t → t < Q → (mems p Q (g ^ t % p)).Perm (mems p Q g)
  dom : ∀ i c : Nat, i < Q → c < Q → i * c % Q = 0 → i = 0 ∨ c = 0
  fer : ∀ r : Nat, 1 ≤ r → r < Q → r ^ (Q - 1) % Q = 1
section
/-! E, in groups of one p and one q: h the base's element, E p g s -/
variable {p : Int} {Q : Nat} {g h : Int} {s : Nat} {ta : TapeO}
theorem E_def (i : Nat) : g ^ i % p = E p g i := rfl
theorem E_mul (i j : Nat) : (E p g i) * (E p g j) % p = E p g (i + j) := pw_mul g p i j
theorem E_pow (i j : Nat) : (E p g i) ^ j % p = E p g (i * j) := pw_pow g p i j
theorem E_E (i j : Nat) : E p (E p g i) j = E p g (i * j) := pw_pow g p i j
theorem E_0 (G : Gp p Q g) : E p g 0 = 1 := by
  unfold E; rw [Int.pow_zero]; exact Int.emod_eq_of_lt (by decide) (by have := G.p1; omega)
theorem E_1 (G : Gp p Q g) : E p g 1 = g := by
  unfold E; rw [Int.pow_one]; exact Int.emod_eq_of_lt (by have := G.g1; omega) G.g2
theorem E_iff (G : Gp p Q g) (i j : Nat) : E p g i = E p g j ↔ i % Q = j % Q := by
  have := G.eq_iff i j
  rw [Int.toNat_natCast] at this
  exact this
theorem E_mod (G : Gp p Q g) (i : Nat) : E p g (i % Q) = E p g i := (E_iff G _ _).mpr (Nat.mod_mod _ _)
theorem E_mb (G : Gp p Q g) (i : Nat) : Mb p Q (E p g i) := G.mb i
theorem ky {k : Nat} (h : k < Q) : Ky (Q : Int) (k : Int) := ⟨by omega, by omega⟩
theorem E_sm (G : Gp p Q g) (i : Nat) : Sm (E p g i) := G.smp _
theorem power_E (G : Gp p Q g) (H : Gp p Q h) (i n : Nat) : F_power [Gr p Q h, I (E p g i), I (n : Int)] ta = some (.ok (.val (.int (E p g (i * n)))), ta) := by
  have m := E_mb G i
  rw [H.power m.1 m.2.1]
  have hp := G.p1
  obtain ⟨P, hP⟩ : ∃ P : Nat, p - 1 = (P : Int) := ⟨(p - 1).toNat, by omega⟩
  have hd : P % Q = 0 := by
    have := G.qp
    rw [hP] at this
    omega
  rw [hP, ← Int.natCast_emod, Int.toNat_natCast, E_pow]
  have : E p g (i * (n % P)) = E p g (i * n) := by
    rw [E_iff G, Nat.mul_mod, Nat.mod_mod_of_dvd n (Nat.dvd_of_mod_eq_zero hd), ← Nat.mul_mod]
  rw [this]
theorem power_neg (G : Gp p Q g) (i n P : Nat) (hP : p - 1 = (P : Int)) : F_power [Gr p Q g, I (E p g i), I (-(n : Int))] ta = some (.ok (.val (.int (E p g (i * (n * (P - 1)))))), ta) := by
  have hp := G.p1
  have e : (-(n : Int)) % (p - 1) = ((n * (P - 1) : Nat) : Int) % (p - 1) := by
    rw [hP]
    have h1 : (n : Int) * ((P : Int)) = ((n * (P - 1) : Nat) : Int) + n := by
      have : P = (P - 1) + 1 := by omega
      conv => lhs; rw [this]
      push_cast
      rw [Int.mul_add, Int.mul_one]
    have h2 : -(n : Int) = ((n * (P - 1) : Nat) : Int) + (P : Int) * (-(n : Int)) := by
      rw [Int.mul_neg, Int.mul_comm]
      omega
    rw [h2, Int.add_mul_emod_self_left]
  have m := E_mb G i
  rw [G.power m.1 m.2.1, e, ← G.power m.1 m.2.1 (ta := ta), power_E G G]
theorem agreed_E (H : Gp p Q h) (hs : h = E p g s) {a b : Nat} (ha : a < Q) (hb : b < Q) : F_agreed [Gr p Q h, I (a : Int), I (b : Int)] ta = some (.ok (.val (.tup [.int (E p g (s * a)), .int (E p g (s * b)), .int (E p g (s * b * a))])), ta) := by
  rw [H.agreed (ky ha) (ky hb), hs]
  simp only [Int.toNat_natCast, E_pow]
theorem lock_E (G : Gp p Q g) (H : Gp p Q h) (hs : h = E p g s) {y m k : Nat} (hk : k < Q) : F_lock [Gr p Q h, I (E p g y), I (E p g m), I (k : Int)] ta = some (.ok (.val (.tup [.int (E p g (s * k)), .int (E p g (m + y * k))])), ta) := by
  rw [H.lock (E_mb G y) (E_mb G m) (ky hk), hs]
  simp only [Int.toNat_natCast, E_pow, E_mul]
theorem unlock_E (G : Gp p Q g) (H : Gp p Q h) {u v k : Nat} (hk : k < Q) : F_unlock [Gr p Q h, I (k : Int), .val (.tup [.int (E p g u), .int (E p g v)])] ta = some (.ok (.val (.int (E p g (v + u * (Q - k))))), ta) := by
  rw [H.unlock (ky hk) (E_mb G u) (E_mb G v)]
  have e : ((Q : Int) - (k : Int)).toNat = Q - k := by omega
  simp only [e, E_pow, E_mul]
theorem joined_E (G : Gp p Q g) (H : Gp p Q h) (a b c d : Nat) : F_joined [Gr p Q h, .val (.tup [.int (E p g a), .int (E p g b)]), .val (.tup [.int (E p g c), .int (E p g d)])] ta = some (.ok (.val (.tup [.int (E p g (a + c)), .int (E p g (b + d))])), ta) := by
  rw [H.joined (E_mb G a) (E_mb G b) (E_mb G c) (E_mb G d)]
  simp only [E_mul]
theorem relocked_E (G : Gp p Q g) {y u v k : Nat} (hk : k < Q) : F_relocked [Gr p Q g, I (E p g y), .val (.tup [.int (E p g u), .int (E p g v)]), I (k : Int)] ta = some (.ok (.val (.tup [.int (E p g (u + k)), .int (E p g (v + y * k))])), ta) := by
  rw [G.relocked (E_mb G y) (E_mb G u) (E_mb G v) (ky hk) (E_mb G _) (by rw [E_pow]; exact E_mb G _)]
  simp only [Int.toNat_natCast, E_pow, E_def, E_E, E_mul]
theorem pledge_E (G : Gp p Q g) (H : Gp p Q h) (hs : h = E p g s) {y m d : Nat} (hm : m < Q) (hd : d < Q) : F_pledge [Gr p Q h, I (E p g y), I (m : Int), I (d : Int)] ta = some (.ok (.val (.int (E p g (s * m + y * d)))), ta) := by
  rw [H.pledge (E_mb G y) (ky hm) (ky hd), hs]
  simp only [Int.toNat_natCast, E_pow, E_mul]
theorem begin_E (G : Gp p Q g) {k : Nat} (hk : k < Q) : F_begin [Gr p Q g, I (k : Int)] ta = some (.ok (.val (.int (E p g k))), ta) := by
  rw [G.begin (ky hk)]
  rfl
theorem answer_E (G : Gp p Q g) {k d a : Nat} (hk : k < Q) (hd : d < Q) (ha : a < Q) : F_answer [Gr p Q g, I (k : Int), I (d : Int), I (a : Int)] ta = some (.ok (.val (.int (((d + a * k) % Q : Nat) : Int))), ta) := by
  rw [G.answer (ky hk) (ky hd) (ky ha)]
  push_cast
  rfl
theorem is_right_E (G : Gp p Q g) (H : Gp p Q h) (hs : h = E p g s) {y f a t : Nat} (ha : a < Q) (ht : t < Q) : F_is_right [Gr p Q h, I (E p g y), .val (.tup [.int (E p g f), .int (a : Int), .int (t : Int)])] ta = some (.ok (.val (.bl (decide (s * t % Q = (f + y * a) % Q)))), ta) := by
  have m := E_mb G f
  rw [H.is_right (E_mb G y) m.1 m.2.1 (ky ha) (ky ht), hs]
  simp only [Int.toNat_natCast, E_pow, E_mul, E_iff G]
theorem made_row_E (G : Gp p Q g) {y a t : Nat} (ha : a < Q) (ht : t < Q) : F_made_row [Gr p Q g, I (E p g y), I (a : Int), I (t : Int)] ta = some (.ok (.val (.tup [.int (E p g (t + y * (Q - a))), .int (a : Int), .int (t : Int)])), ta) := by
  rw [G.made_row (E_mb G y) (ky ha) (ky ht)]
  have e : ((Q : Int) - (a : Int)).toNat = Q - a := by omega
  simp only [e, Int.toNat_natCast, E_pow, E_def, E_E, E_mul]
theorem same_log_E (G : Gp p Q g) {y k d a : Nat} (hk : k < Q) (hd : d < Q) (ha : a < Q) : F_same_log [Gr p Q g, I (E p g y), I (k : Int), I (d : Int), I (a : Int)] ta = some (.ok (.val (.tup [.int (E p g d), .int (E p g (y * d)), .int (a : Int), .int (((d + a * k) % Q : Nat) : Int)])), ta) := by
  rw [G.same_log (E_mb G y) (ky hk) (ky hd) (ky ha)]
  simp only [Int.toNat_natCast, E_pow, E_def, E_E]
  push_cast
  rfl
theorem is_same_log_E (G : Gp p Q g) (H : Gp p Q h) (hs : h = E p g s) {x y z l r a t : Nat} (ha : a < Q) (ht : t < Q) : F_is_same_log [Gr p Q h, I (E p g x), I (E p g y), I (E p g z), .val (.tup [.int (E p g l), .int (E p g r), .int (a : Int), .int (t : Int)])] ta =
    some (.ok (.val (.bl (decide (s * t % Q = (l + y * a) % Q) && decide (x * t % Q = (r + z * a) % Q)))), ta) := by
  have m := E_mb G l
  have m2 := E_mb G r
  rw [H.is_same_log (E_mb G x) (E_mb G y) (E_mb G z) m.1 m.2.1 m2.1 m2.2.1 (ky ha) (ky ht), hs]
  simp only [Int.toNat_natCast, E_pow, E_mul, E_iff G]
theorem log_E (G : Gp p Q g) (i : Nat) : F_log_of [Gr p Q g, I (E p g i)] ta = some (.ok (.val (.int ((i % Q : Nat) : Int))), ta) := by
  have := G.log (ta := ta) (i % Q) (by rw [Int.toNat_natCast]; exact Nat.mod_lt _ (by have := G.q1; omega))
  rw [E_def, E_mod G] at this
  exact this
end
end MP.K44

namespace MP.K44
open PySem
/-! ### the ten groups -/
theorem good_of (p : Int) (Q : Nat) (g : Int) (p1 : 3 ≤ p) (p2 : p < 100) (q1 : 2 ≤ Q) (q2 : Q < 100) (qp : (p - 1) % Q = 0) (g1 : 2 ≤ g) (g2 : g < p)
    (ip : ∀ ta, F_is_prime [I p] ta = some (.ok (.val (.bl true)), ta)) (iq : ∀ ta, F_is_prime [I (Q : Int)] ta = some (.ok (.val (.bl true)), ta)) (gq : g ^ Q % p = 1)
    (bs : ∀ t : Fin Q, 1 ≤ t.val → 2 ≤ g ^ t.val % p) (inj : ∀ t : Fin Q, 1 ≤ t.val → ∀ i : Fin Q, ∀ j : Fin Q, (g ^ t.val % p) ^ i.val % p = (g ^ t.val % p) ^ j.val % p → i = j)
    (perm : ∀ t : Fin Q, 1 ≤ t.val → (mems p Q (g ^ t.val % p)).isPerm (mems p Q g) = true)
    (dom : ∀ i c : Fin Q, i.val * c.val % Q = 0 → i.val = 0 ∨ c.val = 0) (fer : ∀ r : Fin Q, 1 ≤ r.val → r.val ^ (Q - 1) % Q = 1) : Good p Q g := by
  have hB : ∀ t, 1 ≤ t → t < Q → Gp p Q (g ^ t % p) := fun t h1 h2 => by
    refine ⟨p1, p2, by omega, by omega, qp, bs ⟨t, h2⟩ h1, Int.emod_lt_of_pos _ (by omega), ip, iq, ?_, fun i hi j hj e => ?_⟩
    · rw [Int.toNat_natCast, pow_emod, ← Int.pow_mul, Nat.mul_comm, Int.pow_mul, ← pow_emod, gq, Int.one_pow]
      exact Int.emod_eq_of_lt (by decide) (by omega)
    · rw [Int.toNat_natCast] at hi hj
      exact Fin.mk.inj (inj ⟨t, h2⟩ h1 ⟨i, hi⟩ ⟨j, hj⟩ e)
  have h1 := hB 1 (by decide) (by omega)
  rw [Int.pow_one, Int.emod_eq_of_lt (by omega) g2] at h1
  exact ⟨h1, hB, fun t a b => List.isPerm_iff.mp (perm ⟨t, b⟩ a), fun i c hi hc e => dom ⟨i, hi⟩ ⟨c, hc⟩ e, fun r a b => fer ⟨r, b⟩ a⟩
theorem good0 : Good 5 (2 : Nat) 4 := good_of 5 2 4 (by decide) (by decide) (by decide) (by decide) (by decide) (by decide) (by decide) (fun ta => by cases ta <;> rfl) (fun ta => by cases ta <;> rfl) (by decide) (by decide +kernel) (by decide +kernel) (by decide +kernel) (by decide +kernel) (by decide +kernel)
theorem good1 : Good 7 (3 : Nat) 2 := good_of 7 3 2 (by decide) (by decide) (by decide) (by decide) (by decide) (by decide) (by decide) (fun ta => by cases ta <;> rfl) (fun ta => by cases ta <;> rfl) (by decide) (by decide +kernel) (by decide +kernel) (by decide +kernel) (by decide +kernel) (by decide +kernel)
theorem good2 : Good 11 (5 : Nat) 3 := good_of 11 5 3 (by decide) (by decide) (by decide) (by decide) (by decide) (by decide) (by decide) (fun ta => by cases ta <;> rfl) (fun ta => by cases ta <;> rfl) (by decide) (by decide +kernel) (by decide +kernel) (by decide +kernel) (by decide +kernel) (by decide +kernel)
theorem good3 : Good 13 (3 : Nat) 3 := good_of 13 3 3 (by decide) (by decide) (by decide) (by decide) (by decide) (by decide) (by decide) (fun ta => by cases ta <;> rfl) (fun ta => by cases ta <;> rfl) (by decide) (by decide +kernel) (by decide +kernel) (by decide +kernel) (by decide +kernel) (by decide +kernel)
theorem good4 : Good 23 (11 : Nat) 2 := good_of 23 11 2 (by decide) (by decide) (by decide) (by decide) (by decide) (by decide) (by decide) (fun ta => by cases ta <;> rfl) (fun ta => by cases ta <;> rfl) (by decide) (by decide +kernel) (by decide +kernel) (by decide +kernel) (by decide +kernel) (by decide +kernel)
theorem good5 : Good 29 (7 : Nat) 7 := good_of 29 7 7 (by decide) (by decide) (by decide) (by decide) (by decide) (by decide) (by decide) (fun ta => by cases ta <;> rfl) (fun ta => by cases ta <;> rfl) (by decide) (by decide +kernel) (by decide +kernel) (by decide +kernel) (by decide +kernel) (by decide +kernel)
theorem good6 : Good 31 (5 : Nat) 2 := good_of 31 5 2 (by decide) (by decide) (by decide) (by decide) (by decide) (by decide) (by decide) (fun ta => by cases ta <;> rfl) (fun ta => by cases ta <;> rfl) (by decide) (by decide +kernel) (by decide +kernel) (by decide +kernel) (by decide +kernel) (by decide +kernel)
theorem good7 : Good 47 (23 : Nat) 2 := good_of 47 23 2 (by decide) (by decide) (by decide) (by decide) (by decide) (by decide) (by decide) (fun ta => by cases ta <;> rfl) (fun ta => by cases ta <;> rfl) (by decide) (by decide +kernel) (by decide +kernel) (by decide +kernel) (by decide +kernel) (by decide +kernel)
theorem good8 : Good 7 (2 : Nat) 6 := good_of 7 2 6 (by decide) (by decide) (by decide) (by decide) (by decide) (by decide) (by decide) (fun ta => by cases ta <;> rfl) (fun ta => by cases ta <;> rfl) (by decide) (by decide +kernel) (by decide +kernel) (by decide +kernel) (by decide +kernel) (by decide +kernel)
theorem good9 : Good 3 (2 : Nat) 2 := good_of 3 2 2 (by decide) (by decide) (by decide) (by decide) (by decide) (by decide) (by decide) (fun ta => by cases ta <;> rfl) (fun ta => by cases ta <;> rfl) (by decide) (by decide +kernel) (by decide +kernel) (by decide +kernel) (by decide +kernel) (by decide +kernel)
theorem begin_is : F__law_begin = beginF := rfl
theorem take_is : F__law_take = takeF := rfl
theorem group_ok {t : Tape} (hT : TOk t) : ∃ p Q g, Good p Q g ∧ F__law_group [.tape] (some t) = some (.ok (Gr p (Q : Nat) g), some (takeT t 10)) := by
  have e := take_eq hT (show (1 : Int) ≤ 10 by decide) (by decide)
  have h0 := take_nn hT (show (1 : Int) ≤ 10 by decide) (by decide)
  have h1 := take_lt hT (show (1 : Int) ≤ 10 by decide) (by decide)
  obtain ⟨d, hd⟩ : ∃ d, takeV t 10 = d := ⟨_, rfl⟩
  rw [hd] at e h0 h1
  unfold F__law_group C__law_group
  rw [defF_ap]
  have : d = 0 ∨ d = 1 ∨ d = 2 ∨ d = 3 ∨ d = 4 ∨ d = 5 ∨ d = 6 ∨ d = 7 ∨ d = 8 ∨ d = 9 := by omega
  rcases this with rfl | rfl | rfl | rfl | rfl | rfl | rfl | rfl | rfl | rfl
  · exact ⟨5, 2, 4, good0, by simp [take_is, e]; rfl⟩
  · exact ⟨7, 3, 2, good1, by simp [take_is, e]; rfl⟩
  · exact ⟨11, 5, 3, good2, by simp [take_is, e]; rfl⟩
  · exact ⟨13, 3, 3, good3, by simp [take_is, e]; rfl⟩
  · exact ⟨23, 11, 2, good4, by simp [take_is, e]; rfl⟩
  · exact ⟨29, 7, 7, good5, by simp [take_is, e]; rfl⟩
  · exact ⟨31, 5, 2, good6, by simp [take_is, e]; rfl⟩
  · exact ⟨47, 23, 2, good7, by simp [take_is, e]; rfl⟩
  · exact ⟨7, 2, 6, good8, by simp [take_is, e]; rfl⟩
  · exact ⟨3, 2, 2, good9, by simp [take_is, e]; rfl⟩
/-! ### key_of, _law_power, the members -/
section
variable {p : Int} {Q : Nat} {g : Int} {ta : TapeO}
theorem lpow_loop (G : Gp p Q g) : ∀ (m j : Nat) (z : Sl) (n : Int), ∃ z', forL (.one 4) (asgC 3 (binE modS (callE intS [(binE mulS (varE 3) (varE 1))]) (varE 0))) ((List.range' j m).map fun i => D.int (i : Nat)) [I p, I g, I n, I (E p g j), z] ta = some (.nx, [I p, I g, I n, I (E p g (j + m)), z'], ta)
  | 0, j, z, n => ⟨z, rfl⟩
  | m + 1, j, z, n => by
    obtain ⟨z', e⟩ := lpow_loop G m (j + 1) (I j) n
    refine ⟨z', ?_⟩
    rw [List.range'_succ, List.map_cons, forL_cons]
    have hs : (E p g j * g) % p = E p g (j + 1) := by
      rw [← E_mul, E_1 G]
    rw [show j + 1 + m = j + (m + 1) by omega] at e
    simp [mul_sm, E_sm G, G.mbg.sm G, G.mp, hs, e]
theorem lpow (G : Gp p Q g) {t : Nat} (ht : t < Q) : F__law_power [I p, I g, I (t : Int)] ta = some (.ok (.val (.int (E p g t))), ta) := by
  obtain ⟨z', e⟩ := lpow_loop G (ta := ta) t 0 .un t
  rw [E_0 G, Nat.zero_add] at e
  have q2 := G.q2
  have hr := rg1_ok (j := (t : Int)) (Int.natCast_nonneg t) (by omega)
  rw [Int.toNat_natCast] at hr
  unfold F__law_power C__law_power
  rw [defF_ap]
  simp [hr, e]
theorem key_of_E (K : Good p Q g) {a b c e : Nat} (ha : a < Q) (hb : b < Q) (hc : c < Q) (he : e < Q) :
    F_key_of [Gr p Q g, I (E p g a), .val (.tup [.int (E p g b), .int (c : Int), .int (((b + c * a) % Q : Nat) : Int)]), .val (.tup [.int (E p g b), .int (e : Int), .int (((b + e * a) % Q : Nat) : Int)])] ta =
      some (.ok (.val (if c = e then .non else .int (a : Int))), ta) := by
  have G := K.G
  have hq : 0 < Q := by omega
  have q1 := G.q1
  have q2 := G.q2
  have r1 := is_right_E (ta := ta) G G (E_1 G).symm (y := a) (f := b) (t := (b + c * a) % Q) hc (Nat.mod_lt _ hq)
  have r2 := is_right_E (ta := ta) G G (E_1 G).symm (y := a) (f := b) (t := (b + e * a) % Q) he (Nat.mod_lt _ hq)
  rw [Nat.one_mul, Nat.mod_mod, Nat.mul_comm a c, decide_eq_true rfl] at r1
  rw [Nat.one_mul, Nat.mod_mod, Nat.mul_comm a e, decide_eq_true rfl] at r2
  have cm := G.chm (E_mb G a) (ta := ta)
  obtain ⟨u, hu⟩ : ∃ u, u = (b + c * a) % Q := ⟨_, rfl⟩
  obtain ⟨v, hv⟩ : ∃ v, v = (b + e * a) % Q := ⟨_, rfl⟩
  have hu2 := Nat.mod_lt (b + c * a) hq
  have hv2 := Nat.mod_lt (b + e * a) hq
  rw [← hu] at r1 hu2 ⊢
  rw [← hv] at r2 hv2 ⊢
  unfold F_key_of C_key_of
  rw [defF_ap]
  by_cases hce : c = e
  · subst hce
    simp [cm, r1, r2, ne_int, eq_int]
  · obtain ⟨r, hr⟩ : ∃ r : Nat, ((c : Int) - (e : Int)) % (Q : Int) = (r : Int) := ⟨(((c : Int) - (e : Int)) % (Q : Int)).toNat, by have := Int.emod_nonneg ((c : Int) - (e : Int)) (show (Q : Int) ≠ 0 by omega); omega⟩
    have hr2 : r < Q := by have := Int.emod_lt_of_pos ((c : Int) - (e : Int)) (show (0 : Int) < Q by omega); omega
    have hr1 : 1 ≤ r := by
      rcases Nat.eq_zero_or_pos r with z | z
      · subst z
        have : (c : Int) - e = 0 := by
          have hd := Int.mul_ediv_add_emod ((c : Int) - e) Q
          rw [hr] at hd
          have h1 : -(Q : Int) < c - e := by omega
          have h2 : (c : Int) - e < Q := by omega
          have : ((c : Int) - e) / Q = 0 := by
            rcases Int.lt_trichotomy (((c : Int) - e) / Q) 0 with k | k | k
            · have : (Q : Int) * (((c : Int) - e) / Q) ≤ Q * (-1) := Int.mul_le_mul_of_nonneg_left (by omega) (by omega)
              omega
            · exact k
            · have : (Q : Int) * 1 ≤ Q * (((c : Int) - e) / Q) := Int.mul_le_mul_of_nonneg_left (by omega) (by omega)
              omega
          rw [this] at hd
          omega
        omega
      · exact z
    have pw := power_in_ok (p := (Q : Int)) (by omega) (by omega) (r : Int) ((Q : Int) - 2) (by omega) ta
    have e2 : ((Q : Int) - 2).toNat = Q - 2 := by omega
    rw [e2] at pw
    have mq := fun i => G.mq i
    have sm1 : Sm ((u : Int) - (v : Int)) := ⟨by omega, by omega⟩
    have sm2 : Sm ((r : Int) ^ (Q - 2) % (Q : Int)) := G.smq _
    have fin : ((u : Int) - (v : Int)) * ((r : Int) ^ (Q - 2) % (Q : Int)) % (Q : Int) = (a : Int) := by
      have f := K.fer r hr1 hr2
      have hQ : Q - 1 = (Q - 2) + 1 := by omega
      have f' : ((r : Int) ^ (Q - 2) * r) % Q = 1 := by
        rw [← Int.pow_succ]
        have : (((r ^ (Q - 1) % Q : Nat)) : Int) = 1 := by rw [f]; rfl
        rw [hQ] at this
        push_cast at this
        exact this
      have k1 : ((u : Int) - (v : Int)) % Q = ((r : Int) * a) % Q := by
        rw [hu, hv]
        push_cast
        rw [← Int.sub_emod]
        have : ((b : Int) + c * a - (b + e * a)) = (c - e) * a := by
          rw [Int.sub_mul]; omega
        rw [this, Int.mul_emod, hr, Int.emod_eq_of_lt (show (0 : Int) ≤ a by omega) (show (a : Int) < Q by omega)]
      rw [Int.mul_emod, k1, Int.emod_emod_of_dvd _ (Int.dvd_refl _), ← Int.mul_emod]
      have : (r : Int) * a * r ^ (Q - 2) = a * (r ^ (Q - 2) * r) := by
        rw [Int.mul_comm (r : Int) a, Int.mul_assoc, Int.mul_comm (r : Int)]
      rw [this, Int.mul_emod, f', Int.mul_one, Int.emod_emod_of_dvd _ (Int.dvd_refl _)]
      exact Int.emod_eq_of_lt (by omega) (by omega)
    simp only [I] at pw mq
    rw [if_neg hce]
    have hce' : ¬ (c : Int) = e := by omega
    simp [cm, r1, r2, ne_int, eq_int, hce', sub_int, mq, hr, pw, mul_sm, sm1, sm2, fin]
end
end MP.K44

namespace MP.K44
open PySem
section
variable {p : Int} {Q : Nat} {g : Int} {ta : TapeO}
theorem own_at (G : Gp p Q g) {d : Int} (h0 : 0 ≤ d) (h1 : d < Q) : ∃ i, i < Q ∧ ixS (.val (.tup ((sortI (mems p Q g)).map D.int))) (.val (.int d)) = some (.val (.int (E p g i))) := by
  have hl : (sortI (mems p Q g)).length = Q := by
    rw [(sortI_perm _).length_eq]
    unfold mems
    simp
  have hlt : d.toNat < (sortI (mems p Q g)).length := by omega
  have hm : (sortI (mems p Q g))[d.toNat] ∈ mems p Q g := (sortI_perm _).mem_iff.mp (List.getElem_mem hlt)
  unfold mems at hm
  rw [List.mem_map] at hm
  obtain ⟨i, hi, e⟩ := hm
  rw [List.mem_range'_1] at hi
  refine ⟨i, by simp at hi; exact hi, ix_at rfl h0 ?_⟩
  rw [List.getElem?_map, List.getElem?_eq_getElem hlt, Option.map_some]
  exact congrArg (fun z => some (D.int z)) e.symm
/-- in the other base -/
theorem in_base (K : Good p Q g) {t : Nat} (t1 : 1 ≤ t) (t2 : t < Q) (i : Nat) : ∃ j, j < Q ∧ t * j % Q = i % Q := by
  have h : E p g (i % Q) ∈ mems p Q g := by
    unfold mems
    rw [List.mem_map]
    exact ⟨i % Q, by rw [List.mem_range'_1]; simp; exact Nat.mod_lt _ (by omega), rfl⟩
  have h2 := (K.perm t t1 t2).mem_iff.mpr h
  unfold mems at h2
  rw [List.mem_map] at h2
  obtain ⟨j, hj, e⟩ := h2
  rw [List.mem_range'_1] at hj
  simp at hj
  refine ⟨j, hj, ?_⟩
  have e' : (E p g t) ^ j % p = E p g (i % Q) := e
  rw [E_pow, E_iff K.G, Nat.mod_mod] at e'
  exact e'
theorem turned (ta : TapeO) (K : Good p Q g) {t : Nat} (t1 : 1 ≤ t) (t2 : t < Q) : ∀ l : List Int, (∀ x ∈ l, ∃ i, x = E p g i) → ∀ (env : SE), env[2]? = some (Gr p Q g) → env[7]? = some (I (t : Int)) → env.length = 29 →
    compL (.one 23) yesT (callF F_power [(varE 2), (varE 23), (varE 7)]) (l.map D.int) env ta = some ((l.map fun x => x ^ t % p).map D.int, ta)
  | [], _, env, _, _, _ => rfl
  | x :: l, h, env, e2, e7, hl => by
    obtain ⟨i, rfl⟩ := h x List.mem_cons_self
    have ih := turned ta K t1 t2 l (fun y hy => h y (List.mem_cons_of_mem _ hy)) env e2 e7 hl
    rw [List.map_cons, compL_cons]
    have g2 : (env.set 23 (I (E p g i)))[2]? = some (Gr p Q g) := by rw [List.getElem?_set_ne (by decide)]; exact e2
    have g7 : (env.set 23 (I (E p g i)))[7]? = some (I (t : Int)) := by rw [List.getElem?_set_ne (by decide)]; exact e7
    have g23 : (env.set 23 (I (E p g i)))[23]? = some (I (E p g i)) := List.getElem?_set_self (by omega)
    simp only [I] at g2 g7 g23
    simp [g2, g7, g23, power_E K.G K.G, ih, E_pow]
theorem E_cg (G : Gp p Q g) {i j : Nat} (u v : Nat) (h : i + Q * u = j + Q * v) : E p g i = E p g j := by
  rw [E_iff G, ← Nat.add_mul_mod_self_left i Q u, h, Nat.add_mul_mod_self_left]
theorem okE {x y : Int} (h : x = y) : (some (.ok (.val (.int x)), ta) : Option (Except Str Sl × TapeO)) = some (.ok (.val (.int y)), ta) := by rw [h]
theorem okB {x y : Bool} (h : x = y) : (some (.ok (.val (.bl x)), ta) : Option (Except Str Sl × TapeO)) = some (.ok (.val (.bl y)), ta) := by rw [h]
theorem okT {x y x' y' : Int} (h : x = x') (k : y = y') : (some (.ok (.val (.tup [.int x, .int y])), ta) : Option (Except Str Sl × TapeO)) = some (.ok (.val (.tup [.int x', .int y'])), ta) := by rw [h, k]
theorem okT3 {x y z x' y' z' : Int} (h : x = x') (k : y = y') (l : z = z') : (some (.ok (.val (.tup [.int x, .int y, .int z])), ta) : Option (Except Str Sl × TapeO)) = some (.ok (.val (.tup [.int x', .int y', .int z'])), ta) := by rw [h, k, l]
theorem mod_eq {i j : Nat} (u v : Nat) (h : i + Q * u = j + Q * v) : i % Q = j % Q := by
  rw [← Nat.add_mul_mod_self_left i Q u, h, Nat.add_mul_mod_self_left]
end
section
variable {p : Int} {Q : Nat} {g : Int} {t a b c e i j k : Nat} (K : Good p Q g) (tl : 1 ≤ t) (tu : t < Q) (ha : a < Q) (hb : b < Q) (hc : c < Q) (he : e < Q) (hk : k < Q)
include K tl tu ha hb hc he hk
theorem f_a2  : ∀ ta, F_agreed [Gr p Q (E p g t), I (a : Int), I (b : Int)] ta = some (.ok (.val (.tup [.int (E p g (a * t)), .int (E p g (b * t)), .int (E p g (b * a * t))])), ta) := by
  have G := K.G
  have B : Gp p Q (E p g t) := K.B t tl tu
  have h1 := (E_1 G).symm
  have cg : ∀ {i j : Nat} (u v : Nat), i + Q * u = j + Q * v → E p g i = E p g j := fun u v h => E_cg G u v h
  have Qp : 0 < Q := by omega
  exact fun ta =>
    (agreed_E B rfl ha hb).trans (okT3 (cg 0 0 (by grind)) (cg 0 0 (by grind)) (cg 0 0 (by grind)))
theorem f_a3 {r1 s1 : Nat} (hr1 : r1 < Q) (er1 : a + c = Q * s1 + r1) : ∀ ta, F_agreed [Gr p Q g, I (r1 : Int), I (b : Int)] ta = some (.ok (.val (.tup [.int (E p g (1 * r1)), .int (E p g (1 * b)), .int (E p g (b * a + b * c))])), ta) := by
  have G := K.G
  have B : Gp p Q (E p g t) := K.B t tl tu
  have h1 := (E_1 G).symm
  have cg : ∀ {i j : Nat} (u v : Nat), i + Q * u = j + Q * v → E p g i = E p g j := fun u v h => E_cg G u v h
  have Qp : 0 < Q := by omega
  exact fun ta =>
    (agreed_E G h1 hr1 hb).trans (okT3 rfl rfl (cg (b * s1) 0 (by grind)))
theorem f_a4  : ∀ ta, F_agreed [Gr p Q g, I (c : Int), I (b : Int)] ta = some (.ok (.val (.tup [.int (E p g (1 * c)), .int (E p g (1 * b)), .int (E p g (b * c))])), ta) := by
  have G := K.G
  have B : Gp p Q (E p g t) := K.B t tl tu
  have h1 := (E_1 G).symm
  have cg : ∀ {i j : Nat} (u v : Nat), i + Q * u = j + Q * v → E p g i = E p g j := fun u v h => E_cg G u v h
  have Qp : 0 < Q := by omega
  exact fun ta =>
    (agreed_E G h1 hc hb).trans (okT3 rfl rfl (cg 0 0 (by grind)))
theorem f_l1  : ∀ ta, F_lock [Gr p Q g, I (E p g a), I (E p g i), I (b : Int)] ta = some (.ok (.val (.tup [.int (E p g b), .int (E p g (i + a * b))])), ta) := by
  have G := K.G
  have B : Gp p Q (E p g t) := K.B t tl tu
  have h1 := (E_1 G).symm
  have cg : ∀ {i j : Nat} (u v : Nat), i + Q * u = j + Q * v → E p g i = E p g j := fun u v h => E_cg G u v h
  have Qp : 0 < Q := by omega
  exact fun ta =>
    (lock_E G G h1 hb).trans (okT (cg 0 0 (by grind)) (cg 0 0 (by grind)))
theorem f_l2  : ∀ ta, F_lock [Gr p Q g, I (E p g a), I (E p g j), I (c : Int)] ta = some (.ok (.val (.tup [.int (E p g c), .int (E p g (j + a * c))])), ta) := by
  have G := K.G
  have B : Gp p Q (E p g t) := K.B t tl tu
  have h1 := (E_1 G).symm
  have cg : ∀ {i j : Nat} (u v : Nat), i + Q * u = j + Q * v → E p g i = E p g j := fun u v h => E_cg G u v h
  have Qp : 0 < Q := by omega
  exact fun ta =>
    (lock_E G G h1 hc).trans (okT (cg 0 0 (by grind)) (cg 0 0 (by grind)))
theorem f_l3  : ∀ ta, F_lock [Gr p Q (E p g t), I (E p g (a * t)), I (E p g (i * t)), I (b : Int)] ta = some (.ok (.val (.tup [.int (E p g (b * t)), .int (E p g ((i + a * b) * t))])), ta) := by
  have G := K.G
  have B : Gp p Q (E p g t) := K.B t tl tu
  have h1 := (E_1 G).symm
  have cg : ∀ {i j : Nat} (u v : Nat), i + Q * u = j + Q * v → E p g i = E p g j := fun u v h => E_cg G u v h
  have Qp : 0 < Q := by omega
  exact fun ta =>
    (lock_E G B rfl hb).trans (okT (cg 0 0 (by grind)) (cg 0 0 (by grind)))
theorem f_l4  : ∀ ta, F_lock [Gr p Q g, I (E p g a), I (E p g k), I (e : Int)] ta = some (.ok (.val (.tup [.int (E p g e), .int (E p g (k + a * e))])), ta) := by
  have G := K.G
  have B : Gp p Q (E p g t) := K.B t tl tu
  have h1 := (E_1 G).symm
  have cg : ∀ {i j : Nat} (u v : Nat), i + Q * u = j + Q * v → E p g i = E p g j := fun u v h => E_cg G u v h
  have Qp : 0 < Q := by omega
  exact fun ta =>
    (lock_E G G h1 he).trans (okT (cg 0 0 (by grind)) (cg 0 0 (by grind)))
theorem f_l5 {r2 s2 : Nat} (hr2 : r2 < Q) (er2 : b + c = Q * s2 + r2) : ∀ ta, F_lock [Gr p Q g, I (E p g a), I (E p g (i + j)), I (r2 : Int)] ta = some (.ok (.val (.tup [.int (E p g (b + c)), .int (E p g (i + a * b + (j + a * c)))])), ta) := by
  have G := K.G
  have B : Gp p Q (E p g t) := K.B t tl tu
  have h1 := (E_1 G).symm
  have cg : ∀ {i j : Nat} (u v : Nat), i + Q * u = j + Q * v → E p g i = E p g j := fun u v h => E_cg G u v h
  have Qp : 0 < Q := by omega
  exact fun ta =>
    (lock_E G G h1 hr2).trans (okT (cg s2 0 (by grind)) (cg (a * s2) 0 (by grind)))
theorem f_u1  : ∀ ta, F_unlock [Gr p Q (E p g t), I (a : Int), .val (.tup [.int (E p g (b * t)), .int (E p g ((i + a * b) * t))])] ta = some (.ok (.val (.int (E p g (i * t)))), ta) := by
  have G := K.G
  have B : Gp p Q (E p g t) := K.B t tl tu
  have h1 := (E_1 G).symm
  have cg : ∀ {i j : Nat} (u v : Nat), i + Q * u = j + Q * v → E p g i = E p g j := fun u v h => E_cg G u v h
  have Qp : 0 < Q := by omega
  exact fun ta => by
    obtain ⟨d, hd⟩ : ∃ d, Q = a + d := ⟨Q - a, by omega⟩
    refine (unlock_E G B ha).trans (okE (cg 0 (b * t) ?_))
    have : Q - a = d := by omega
    rw [this]
    grind
theorem f_u3 {r1 s1 d1 d2 : Nat} (hr1 : r1 < Q) (er1 : a + c = Q * s1 + r1) (hd1 : Q = r1 + d1) (hd2 : Q = a + d2) (qd2 : Q - a = d2) : ∀ ta, F_unlock [Gr p Q g, I (a : Int), .val (.tup [.int (E p g b), .int (E p g (i + a * b))])] ta = some (.ok (.val (.int (E p g (i + a * b + b * d1 + b * c)))), ta) := by
  have G := K.G
  have B : Gp p Q (E p g t) := K.B t tl tu
  have h1 := (E_1 G).symm
  have cg : ∀ {i j : Nat} (u v : Nat), i + Q * u = j + Q * v → E p g i = E p g j := fun u v h => E_cg G u v h
  have Qp : 0 < Q := by omega
  exact fun ta =>
    (unlock_E G G ha).trans (okE (by rw [qd2]; exact cg (b * s1) 0 (by grind)))
theorem f_u4  : ∀ ta, F_unlock [Gr p Q g, I 0, .val (.tup [.int (E p g b), .int (E p g (i + a * b))])] ta = some (.ok (.val (.int (E p g (i + a * b)))), ta) := by
  have G := K.G
  have B : Gp p Q (E p g t) := K.B t tl tu
  have h1 := (E_1 G).symm
  have cg : ∀ {i j : Nat} (u v : Nat), i + Q * u = j + Q * v → E p g i = E p g j := fun u v h => E_cg G u v h
  have Qp : 0 < Q := by omega
  exact fun ta =>
    (unlock_E G G (k := 0) Qp).trans (okE (cg 0 b (by rw [Nat.sub_zero]; grind)))
theorem f_j2  : ∀ ta, F_joined [Gr p Q g, .val (.tup [.int (E p g c), .int (E p g (j + a * c))]), .val (.tup [.int (E p g b), .int (E p g (i + a * b))])] ta = some (.ok (.val (.tup [.int (E p g (b + c)), .int (E p g (i + a * b + (j + a * c)))])), ta) := by
  have G := K.G
  have B : Gp p Q (E p g t) := K.B t tl tu
  have h1 := (E_1 G).symm
  have cg : ∀ {i j : Nat} (u v : Nat), i + Q * u = j + Q * v → E p g i = E p g j := fun u v h => E_cg G u v h
  have Qp : 0 < Q := by omega
  exact fun ta =>
    (joined_E G G _ _ _ _).trans (okT (cg 0 0 (by grind)) (cg 0 0 (by grind)))
theorem f_j5  : ∀ ta, F_joined [Gr p Q g, .val (.tup [.int (E p g b), .int (E p g (i + a * b))]), .val (.tup [.int (E p g (c + e)), .int (E p g (j + a * c + (k + a * e)))])] ta = some (.ok (.val (.tup [.int (E p g (b + c + e)), .int (E p g (i + a * b + (j + a * c) + (k + a * e)))])), ta) := by
  have G := K.G
  have B : Gp p Q (E p g t) := K.B t tl tu
  have h1 := (E_1 G).symm
  have cg : ∀ {i j : Nat} (u v : Nat), i + Q * u = j + Q * v → E p g i = E p g j := fun u v h => E_cg G u v h
  have Qp : 0 < Q := by omega
  exact fun ta =>
    (joined_E G G _ _ _ _).trans (okT (cg 0 0 (by grind)) (cg 0 0 (by grind)))
theorem f_k3 {r3 s3 : Nat} (hr3 : r3 < Q) (er3 : c + e = Q * s3 + r3) : ∀ ta, F_relocked [Gr p Q g, I (E p g a), .val (.tup [.int (E p g b), .int (E p g (i + a * b))]), I (r3 : Int)] ta = some (.ok (.val (.tup [.int (E p g (b + c + e)), .int (E p g (i + a * b + a * c + a * e))])), ta) := by
  have G := K.G
  have B : Gp p Q (E p g t) := K.B t tl tu
  have h1 := (E_1 G).symm
  have cg : ∀ {i j : Nat} (u v : Nat), i + Q * u = j + Q * v → E p g i = E p g j := fun u v h => E_cg G u v h
  have Qp : 0 < Q := by omega
  exact fun ta =>
    (relocked_E G hr3).trans (okT (cg s3 0 (by grind)) (cg (a * s3) 0 (by grind)))
theorem f_g1  : ∀ ta, F_pledge [Gr p Q g, I (E p g k), I (a : Int), I (b : Int)] ta = some (.ok (.val (.int (E p g (a + k * b)))), ta) := by
  have G := K.G
  have B : Gp p Q (E p g t) := K.B t tl tu
  have h1 := (E_1 G).symm
  have cg : ∀ {i j : Nat} (u v : Nat), i + Q * u = j + Q * v → E p g i = E p g j := fun u v h => E_cg G u v h
  have Qp : 0 < Q := by omega
  exact fun ta => (pledge_E G G h1 ha hb).trans (okE (cg 0 0 (by grind)))
theorem f_g2  : ∀ ta, F_pledge [Gr p Q g, I (E p g k), I (c : Int), I (e : Int)] ta = some (.ok (.val (.int (E p g (c + k * e)))), ta) := by
  have G := K.G
  have B : Gp p Q (E p g t) := K.B t tl tu
  have h1 := (E_1 G).symm
  have cg : ∀ {i j : Nat} (u v : Nat), i + Q * u = j + Q * v → E p g i = E p g j := fun u v h => E_cg G u v h
  have Qp : 0 < Q := by omega
  exact fun ta => (pledge_E G G h1 hc he).trans (okE (cg 0 0 (by grind)))
theorem f_g3 {r1 s1 r4' s4 : Nat} (hr1 : r1 < Q) (er1 : a + c = Q * s1 + r1) (hr4 : r4' < Q) (er4 : b + e = Q * s4 + r4') : ∀ ta, F_pledge [Gr p Q g, I (E p g k), I (r1 : Int), I (r4' : Int)] ta = some (.ok (.val (.int (E p g (a + k * b + (c + k * e))))), ta) := by
  have G := K.G
  have B : Gp p Q (E p g t) := K.B t tl tu
  have h1 := (E_1 G).symm
  have cg : ∀ {i j : Nat} (u v : Nat), i + Q * u = j + Q * v → E p g i = E p g j := fun u v h => E_cg G u v h
  have Qp : 0 < Q := by omega
  exact fun ta => (pledge_E G G h1 hr1 hr4).trans (okE (cg (s1 + k * s4) 0 (by grind)))
theorem f_g4  : ∀ ta, F_pledge [Gr p Q (E p g t), I (E p g (k * t)), I (a : Int), I (b : Int)] ta = some (.ok (.val (.int (E p g ((a + k * b) * t)))), ta) := by
  have G := K.G
  have B : Gp p Q (E p g t) := K.B t tl tu
  have h1 := (E_1 G).symm
  have cg : ∀ {i j : Nat} (u v : Nat), i + Q * u = j + Q * v → E p g i = E p g j := fun u v h => E_cg G u v h
  have Qp : 0 < Q := by omega
  exact fun ta => (pledge_E G B rfl ha hb).trans (okE (cg 0 0 (by grind)))
theorem f_g5  : ∀ ta, F_pledge [Gr p Q g, I (E p g k), I (a : Int), I 0] ta = some (.ok (.val (.int (E p g a))), ta) := by
  have G := K.G
  have B : Gp p Q (E p g t) := K.B t tl tu
  have h1 := (E_1 G).symm
  have cg : ∀ {i j : Nat} (u v : Nat), i + Q * u = j + Q * v → E p g i = E p g j := fun u v h => E_cg G u v h
  have Qp : 0 < Q := by omega
  exact fun ta => (pledge_E G G h1 ha (d := 0) Qp).trans (okE (cg 0 0 (by grind)))
theorem f_n3 {u su r4' s4 : Nat} (hu : u < Q) (eu : b + c * a = Q * su + u) (hr4 : r4' < Q) (er4 : b + e = Q * s4 + r4') : ∀ ta, F_answer [Gr p Q g, I (a : Int), I (r4' : Int), I (c : Int)] ta = some (.ok (.val (.int (((u : Int) + e) % Q))), ta) := by
  have G := K.G
  have B : Gp p Q (E p g t) := K.B t tl tu
  have h1 := (E_1 G).symm
  have cg : ∀ {i j : Nat} (u v : Nat), i + Q * u = j + Q * v → E p g i = E p g j := fun u v h => E_cg G u v h
  have Qp : 0 < Q := by omega
  exact fun ta => by
    refine (answer_E G ha hr4 hc).trans (okE ?_)
    have : (r4' + c * a) % Q = (u + e) % Q := mod_eq s4 su (by grind)
    rw [this]; push_cast; rfl
theorem f_y1 {u su : Nat} (hu : u < Q) (eu : b + c * a = Q * su + u) : ∀ ta, F_is_right [Gr p Q g, I (E p g a), .val (.tup [.int (E p g b), .int (c : Int), .int (u : Int)])] ta = some (.ok (.val (.bl true)), ta) := by
  have G := K.G
  have B : Gp p Q (E p g t) := K.B t tl tu
  have h1 := (E_1 G).symm
  have cg : ∀ {i j : Nat} (u v : Nat), i + Q * u = j + Q * v → E p g i = E p g j := fun u v h => E_cg G u v h
  have Qp : 0 < Q := by omega
  exact fun ta => (is_right_E G G h1 hc hu).trans (okB (decide_eq_true (mod_eq su 0 (by grind))))
theorem f_y2 {u su : Nat} (hu : u < Q) (eu : b + c * a = Q * su + u) : ∀ ta, F_is_right [Gr p Q (E p g t), I (E p g (a * t)), .val (.tup [.int (E p g (b * t)), .int (c : Int), .int (u : Int)])] ta = some (.ok (.val (.bl true)), ta) := by
  have G := K.G
  have B : Gp p Q (E p g t) := K.B t tl tu
  have h1 := (E_1 G).symm
  have cg : ∀ {i j : Nat} (u v : Nat), i + Q * u = j + Q * v → E p g i = E p g j := fun u v h => E_cg G u v h
  have Qp : 0 < Q := by omega
  exact fun ta => (is_right_E G B rfl hc hu).trans (okB (decide_eq_true (mod_eq (t * su) 0 (by grind))))
theorem f_y3 {u su w sw : Nat} (hu : u < Q) (eu : b + c * a = Q * su + u) (hw : w < Q) (ew : u + 1 = Q * sw + w) : ∀ ta, F_is_right [Gr p Q g, I (E p g a), .val (.tup [.int (E p g b), .int (c : Int), .int (w : Int)])] ta = some (.ok (.val (.bl false)), ta) := by
  have G := K.G
  have B : Gp p Q (E p g t) := K.B t tl tu
  have h1 := (E_1 G).symm
  have cg : ∀ {i j : Nat} (u v : Nat), i + Q * u = j + Q * v → E p g i = E p g j := fun u v h => E_cg G u v h
  have Qp : 0 < Q := by omega
  exact fun ta => (is_right_E G G h1 hc hw).trans (okB (decide_eq_false fun h => by
    have h2 : (u + 1) % Q = u % Q := by
      have e1 : (u + 1) % Q = (1 * w) % Q := mod_eq 0 sw (by grind)
      have e2 : (b + a * c) % Q = u % Q := mod_eq 0 su (by grind)
      rw [e1, h, e2]
    rw [Nat.mod_eq_of_lt hu] at h2
    by_cases hq : u + 1 < Q
    · rw [Nat.mod_eq_of_lt hq] at h2; omega
    · have : u + 1 = Q := by omega
      rw [this, Nat.mod_self] at h2; omega))
theorem f_o1 {u su d3 : Nat} (hu : u < Q) (eu : b + c * a = Q * su + u) (hd3 : Q = c + d3) (qd3 : Q - c = d3) : ∀ ta, F_made_row [Gr p Q g, I (E p g a), I (c : Int), I (u : Int)] ta = some (.ok (.val (.tup [.int (E p g b), .int (c : Int), .int (u : Int)])), ta) := by
  have G := K.G
  have B : Gp p Q (E p g t) := K.B t tl tu
  have h1 := (E_1 G).symm
  have cg : ∀ {i j : Nat} (u v : Nat), i + Q * u = j + Q * v → E p g i = E p g j := fun u v h => E_cg G u v h
  have Qp : 0 < Q := by omega
  exact fun ta =>
    (made_row_E G hc hu).trans (okT3 (by rw [qd3]; exact cg su a (by grind)) rfl rfl)
theorem f_w1 {u su : Nat} (hu : u < Q) (eu : b + c * a = Q * su + u) : ∀ ta, F_is_same_log [Gr p Q g, I (E p g k), I (E p g a), I (E p g (k * a)), .val (.tup [.int (E p g b), .int (E p g (k * b)), .int (c : Int), .int (u : Int)])] ta = some (.ok (.val (.bl true)), ta) := by
  have G := K.G
  have B : Gp p Q (E p g t) := K.B t tl tu
  have h1 := (E_1 G).symm
  have cg : ∀ {i j : Nat} (u v : Nat), i + Q * u = j + Q * v → E p g i = E p g j := fun u v h => E_cg G u v h
  have Qp : 0 < Q := by omega
  exact fun ta =>
    (is_same_log_E G G h1 hc hu).trans (okB (by rw [decide_eq_true (mod_eq su 0 (by grind)), decide_eq_true (mod_eq (k * su) 0 (by grind))]; rfl))
theorem f_w2 {u su : Nat} (hu : u < Q) (eu : b + c * a = Q * su + u) : ¬ E p g k = 1 → ∀ ta, F_is_same_log [Gr p Q g, I (E p g k), I (E p g a), I (E p g (k * (a + 1))), .val (.tup [.int (E p g b), .int (E p g (k * b)), .int (c : Int), .int (u : Int)])] ta = some (.ok (.val (.bl (decide ((c : Int) = 0)))), ta) := by
  have G := K.G
  have B : Gp p Q (E p g t) := K.B t tl tu
  have h1 := (E_1 G).symm
  have cg : ∀ {i j : Nat} (u v : Nat), i + Q * u = j + Q * v → E p g i = E p g j := fun u v h => E_cg G u v h
  have Qp : 0 < Q := by omega
  exact fun hz ta =>
    (is_same_log_E G G h1 hc hu).trans (okB (by
      rw [decide_eq_true (mod_eq su 0 (by grind)), Bool.true_and]
      have hk0 : k ≠ 0 := fun z => hz (by rw [z]; exact E_0 G)
      refine decide_eq_decide.mpr ⟨fun h => ?_, fun h => ?_⟩
      · have e1 : (k * u) % Q = (k * b + k * a * c) % Q := mod_eq (k * su) 0 (by grind)
        rw [e1] at h
        have h2 : (k * c) % Q = 0 := by
          have h3 : (k * b + k * (a + 1) * c) % Q = ((k * b + k * a * c) + k * c) % Q := by congr 1; grind
          rw [h3] at h
          have h4 := Nat.sub_mod_eq_zero_of_mod_eq h.symm
          rwa [Nat.add_sub_cancel_left] at h4
        rcases K.dom k c hk hc h2 with z | z
        · exact absurd z hk0
        · rw [z]; rfl
      · have : c = 0 := by omega
        exact mod_eq (k * su) 0 (by subst this; grind)))
theorem f_w3 {u su : Nat} (hu : u < Q) (eu : b + c * a = Q * su + u) : ∀ ta, F_is_same_log [Gr p Q (E p g t), I (E p g (k * t)), I (E p g (a * t)), I (E p g (k * a * t)), .val (.tup [.int (E p g (b * t)), .int (E p g (k * b * t)), .int (c : Int), .int (u : Int)])] ta = some (.ok (.val (.bl true)), ta) := by
  have G := K.G
  have B : Gp p Q (E p g t) := K.B t tl tu
  have h1 := (E_1 G).symm
  have cg : ∀ {i j : Nat} (u v : Nat), i + Q * u = j + Q * v → E p g i = E p g j := fun u v h => E_cg G u v h
  have Qp : 0 < Q := by omega
  exact fun ta =>
    (is_same_log_E G B rfl hc hu).trans (okB (by rw [decide_eq_true (mod_eq (t * su) 0 (by grind)), decide_eq_true (mod_eq (k * t * su) 0 (by grind))]; rfl))
end
theorem law_true (ns : List Int) (hl : ns.length ≤ 63) : ∃ env t, C_law ([.val (.lst (ns.map D.int))] ++ List.replicate (29 - 1) .un) none = some (.rt (.val (.bl true)), env, t) := by
  show endsTrue (C_law ([.val (.lst (ns.map D.int))] ++ List.replicate (29 - 1) .un) none)
  obtain ⟨seed, s0, s1, eb⟩ := begin_ok ns
  obtain ⟨t0, ht0⟩ : ∃ t0 : Tape, t0 = ⟨ns, 0, 0, seed⟩ := ⟨_, rfl⟩
  have T0 : TOk t0 := by subst ht0; exact ⟨Int.le_refl _, s0, s1⟩
  obtain ⟨p, Q, g, K, eg⟩ := group_ok T0
  have G := K.G
  have q1 := G.q1
  have q2 := G.q2
  obtain ⟨t1, ht1⟩ : ∃ t1 : Tape, t1 = takeT t0 10 := ⟨_, rfl⟩
  have T1 : TOk t1 := by rw [ht1]; exact take_tok T0 (by decide) (by decide)
  rw [← ht1] at eg
  have b1 : (1 : Int) ≤ (Q : Int) - 1 := by omega
  have b2 : (Q : Int) - 1 < 2 ^ 62 := by omega
  have c1 : (1 : Int) ≤ (Q : Int) := by omega
  have c2 : (Q : Int) < 2 ^ 62 := by omega
  have et := take_eq T1 b1 b2
  obtain ⟨t, ht⟩ : ∃ t : Nat, 1 + takeV t1 ((Q : Int) - 1) = (t : Int) := ⟨(1 + takeV t1 ((Q : Int) - 1)).toNat, by have := take_nn T1 b1 b2; omega⟩
  have tl : 1 ≤ t := by have := take_nn T1 b1 b2; omega
  have tu : t < Q := by have := take_lt T1 b1 b2; omega
  have B := K.B t tl tu
  have hE : E p g t = g ^ t % p := rfl
  rw [← hE] at B
  have nx : ∀ t', TOk t' → ∃ (a : Nat) (t'' : Tape), a < Q ∧ TOk t'' ∧ takeF [.tape, .val (.int (Q : Int))] (some t') = some (.ok (.val (.int (a : Int))), some t'') := fun t' T' =>
    ⟨(takeV t' Q).toNat, takeT t' Q, by have := take_lt T' c1 c2; have := take_nn T' c1 c2; omega, take_tok T' c1 c2, by rw [Int.toNat_of_nonneg (take_nn T' c1 c2)]; exact take_eq T' c1 c2⟩
  obtain ⟨a, u1, ha, U1, e1⟩ := nx _ (take_tok T1 b1 b2)
  obtain ⟨b, u2, hb, U2, e2⟩ := nx _ U1
  obtain ⟨c, u3, hc, U3, e3⟩ := nx _ U2
  obtain ⟨e, u4, he, U4, e4⟩ := nx _ U3
  obtain ⟨i', u5, hi', U5, e5⟩ := nx _ U4
  obtain ⟨j', u6, hj', U6, e6⟩ := nx _ U5
  obtain ⟨k', u7', hk', U7, e7⟩ := nx _ U6
  obtain ⟨W, hW⟩ : ∃ W, W = sortI (mems p Q g) := ⟨_, rfl⟩
  obtain ⟨i, hi, xi⟩ := own_at G (d := (i' : Int)) (by omega) (by omega)
  obtain ⟨j, hj, xj⟩ := own_at G (d := (j' : Int)) (by omega) (by omega)
  obtain ⟨k, hk, xk⟩ := own_at G (d := (k' : Int)) (by omega) (by omega)
  rw [← hW] at xi xj xk
  have Qp : 0 < Q := by omega
  have m1 := fun ta => G.members (ta := ta)
  have m2 := fun ta => B.members (ta := ta)
  have sp := sort_perm (K.perm t tl tu)
  rw [← hE] at sp
  rw [← hW] at sp
  simp only [sp] at m2
  simp only [← hW] at m1
  have Wl : W.length = Q := by rw [hW, (sortI_perm _).length_eq]; unfold mems; simp
  have WL : W.length < LIM := by rw [Wl]; have : LIM = 16777216 := rfl; omega
  have Wm : ∀ x ∈ W, ∃ i, x = E p g i := fun x hx => by
    rw [hW] at hx
    have hm := (sortI_perm _).mem_iff.mp hx
    unfold mems at hm
    rw [List.mem_map] at hm
    obtain ⟨i, _, e⟩ := hm
    exact ⟨i, e.symm⟩
  obtain ⟨W2, hW2⟩ : ∃ W2, W2 = W.map fun x => x ^ t % p := ⟨_, rfl⟩
  have tn := fun ta env h1 h2 h3 => turned ta K tl tu W Wm env h1 h2 h3
  rw [← hW2] at tn
  have sp2 : sortI W2 = W := by
    rw [hW2]
    conv => rhs; rw [← sp]
    refine sort_perm ?_
    rw [hW]
    refine ((sortI_perm _).map _).trans ?_
    unfold mems
    rw [List.map_map]
    refine List.Perm.of_eq (List.map_congr_left fun i _ => ?_)
    show (g ^ i % p) ^ t % p = (E p g t) ^ i % p
    rw [pw_pow, E_pow, Nat.mul_comm]
    rfl
  have ss : sortedS [.own (W2.map D.int)] = some (.own (W.map D.int)) := by
    unfold sortedS onInts
    simp [ints?_map, sp2]
  have lp := fun ta => lpow G tu (ta := ta)
  have rg4 := rg1_ok (show (0 : Int) ≤ 4 by decide) (show (4 : Int) < 1000000 by decide)
  have rg3 := rg1_ok (show (0 : Int) ≤ 3 by decide) (show (3 : Int) < 1000000 by decide)
  have L4 : (4 : Nat) < LIM := by decide
  have L3 : (3 : Nat) < LIM := by decide
  have L2' : (2 : Nat) < LIM := by decide
  have smn : ∀ n : Nat, n < Q → Sm (n : Int) := fun n hn => ⟨by omega, by omega⟩
  have sa := smn a ha
  have sb := smn b hb
  have sc := smn c hc
  have se := smn e he
  have st := smn t tu
  have sE := fun n => E_sm G n
  have mp := fun z => G.mp z
  have mq := fun z => G.mq z
  have cg : ∀ {i j : Nat} (u v : Nat), i + Q * u = j + Q * v → E p g i = E p g j := fun u v h => E_cg G u v h
  have h1 := (E_1 G).symm
  -- logarithms
  obtain ⟨jj, hjj, ejj⟩ := in_base K tl tu i
  have sj := smn jj hjj
  have lB : ∀ ta, F_log_of [Gr p Q (E p g t), I (E p g i)] ta = some (.ok (.val (.int (jj : Int))), ta) := fun ta => by
    have := log_E B jj (ta := ta)
    rw [E_E, (E_iff G _ _).mpr ejj, Nat.mod_eq_of_lt hjj] at this
    exact this
  have lG : ∀ n ta, F_log_of [Gr p Q g, I (E p g n)] ta = some (.ok (.val (.int ((n : Int) % Q))), ta) := fun n ta => by
    have := log_E G n (ta := ta)
    rw [Int.natCast_emod] at this
    exact this
  have z1 : ((jj : Int) * t - (i : Int) % Q) % Q = 0 := by
    rw [Int.sub_emod, Int.emod_emod_of_dvd _ (Int.dvd_refl _), ← Int.sub_emod]
    have : (t * jj % Q : Nat) = i % Q := ejj
    have h2 : ((t * jj : Nat) : Int) % Q = (i : Int) % Q := by rw [← Int.natCast_emod, ← Int.natCast_emod, this]
    rw [Int.natCast_mul, Int.mul_comm] at h2
    rw [Int.sub_emod, h2, Int.sub_self, Int.zero_emod]
  -- powers
  have pw := fun n m ta => power_E G G n m (ta := ta)
  have pwt := fun n ta => pw n t ta
  have p1 := fun ta => pw i a ta
  have p2 : ∀ ta, F_power [Gr p Q g, I (E p g (i * a)), I (b : Int)] ta = some (.ok (.val (.int (E p g (i * a * b)))), ta) := fun ta => pw _ _ ta
  have p3 : ∀ ta, F_power [Gr p Q g, I (E p g i), I ((a : Int) * b)] ta = some (.ok (.val (.int (E p g (i * a * b)))), ta) := fun ta => by
    rw [← Int.natCast_mul, Nat.mul_assoc]; exact pw _ _ ta
  obtain ⟨P, hP⟩ : ∃ P : Nat, p - 1 = (P : Int) := ⟨(p - 1).toNat, by have := G.p1; omega⟩
  have p4 := fun ta => power_neg G i a P hP (ta := ta)
  have p5 : ∀ ta, F_power [Gr p Q g, I (E p g (i * a)), I (p - 2)] ta = some (.ok (.val (.int (E p g (i * (a * (P - 1)))))), ta) := fun ta => by
    have : p - 2 = ((P - 1 : Nat) : Int) := by have := G.p1; omega
    rw [this, ← Nat.mul_assoc]; exact pw _ _ ta
  have p6 : ∀ ta, F_power [Gr p Q g, I g, I (a : Int)] ta = some (.ok (.val (.int (E p g a))), ta) := fun ta => by
    have := pw 1 a ta
    rw [E_1 G, Nat.one_mul] at this
    exact this
  have p7 : ∀ ta, F_power [Gr p Q g, I (E p g b), I (c : Int)] ta = some (.ok (.val (.int (E p g (b * c)))), ta) := fun ta => pw _ _ ta
  have p8 : ∀ ta, F_power [Gr p Q g, I g, I ((a : Int) + b)] ta = some (.ok (.val (.int (E p g (a + b)))), ta) := fun ta => by
    have := pw 1 (a + b) ta
    rw [E_1 G, Nat.one_mul, Int.natCast_add] at this
    exact this
  have p9 : ∀ ta, F_power [Gr p Q g, I (E p g k), I (a : Int)] ta = some (.ok (.val (.int (E p g (k * a)))), ta) := fun ta => pw _ _ ta
  have p10 : ∀ ta, F_power [Gr p Q g, I (E p g k), I ((a : Int) + 1)] ta = some (.ok (.val (.int (E p g (k * (a + 1))))), ta) := fun ta => by
    have := pw k (a + 1) ta
    rw [Int.natCast_add] at this
    exact this
  have p11 : ∀ ta, F_power [Gr p Q g, I (E p g k), I ((a : Int) * t)] ta = some (.ok (.val (.int (E p g (k * a * t)))), ta) := fun ta => by
    rw [← Int.natCast_mul, Nat.mul_assoc]; exact pw _ _ ta
  -- sums in the ring of q
  obtain ⟨r1, s1, hr1, er1, ir1⟩ : ∃ r s : Nat, r < Q ∧ a + c = Q * s + r ∧ ((a : Int) + c) % Q = (r : Int) := ⟨(a + c) % Q, (a + c) / Q, Nat.mod_lt _ Qp, (Nat.div_add_mod _ _).symm, by push_cast; rfl⟩
  obtain ⟨r2, s2, hr2, er2, ir2⟩ : ∃ r s : Nat, r < Q ∧ b + c = Q * s + r ∧ ((b : Int) + c) % Q = (r : Int) := ⟨(b + c) % Q, (b + c) / Q, Nat.mod_lt _ Qp, (Nat.div_add_mod _ _).symm, by push_cast; rfl⟩
  obtain ⟨r3, s3, hr3, er3, ir3⟩ : ∃ r s : Nat, r < Q ∧ c + e = Q * s + r ∧ ((c : Int) + e) % Q = (r : Int) := ⟨(c + e) % Q, (c + e) / Q, Nat.mod_lt _ Qp, (Nat.div_add_mod _ _).symm, by push_cast; rfl⟩
  obtain ⟨r4', s4, hr4, er4, ir4⟩ : ∃ r s : Nat, r < Q ∧ b + e = Q * s + r ∧ ((b : Int) + e) % Q = (r : Int) := ⟨(b + e) % Q, (b + e) / Q, Nat.mod_lt _ Qp, (Nat.div_add_mod _ _).symm, by push_cast; rfl⟩
  obtain ⟨u, su, hu, eu, iu⟩ : ∃ r s : Nat, r < Q ∧ b + c * a = Q * s + r ∧ r = (b + c * a) % Q := ⟨(b + c * a) % Q, (b + c * a) / Q, Nat.mod_lt _ Qp, (Nat.div_add_mod _ _).symm, rfl⟩
  obtain ⟨v, sv, hv, ev, iv⟩ : ∃ r s : Nat, r < Q ∧ b + e * a = Q * s + r ∧ r = (b + e * a) % Q := ⟨(b + e * a) % Q, (b + e * a) / Q, Nat.mod_lt _ Qp, (Nat.div_add_mod _ _).symm, rfl⟩
  obtain ⟨w, sw, hw, ew, iw⟩ : ∃ r s : Nat, r < Q ∧ u + 1 = Q * s + r ∧ ((u : Int) + 1) % Q = (r : Int) := ⟨(u + 1) % Q, (u + 1) / Q, Nat.mod_lt _ Qp, (Nat.div_add_mod _ _).symm, by push_cast; rfl⟩
  -- keys agreed, locks
  have a1 := fun ta => agreed_E G h1 ha hb (ta := ta)
  have a2 := f_a2 K tl tu ha hb hc he hk 
  have a3 := f_a3 K tl tu ha hb hc he hk hr1 er1
  have a4 := f_a4 K tl tu ha hb hc he hk 
  simp only [Nat.one_mul] at a1
  have l1 := f_l1 (i := i) K tl tu ha hb hc he hk 
  have l2 := f_l2 (j := j) K tl tu ha hb hc he hk 
  have l3 := f_l3 (i := i) K tl tu ha hb hc he hk 
  have l4 := f_l4 K tl tu ha hb hc he hk 
  have l5 := f_l5 (i := i) (j := j) K tl tu ha hb hc he hk hr2 er2
  have u1 := f_u1 (i := i) K tl tu ha hb hc he hk 
  obtain ⟨d1, hd1⟩ : ∃ d, Q = r1 + d := ⟨Q - r1, by omega⟩
  obtain ⟨d2, hd2⟩ : ∃ d, Q = a + d := ⟨Q - a, by omega⟩
  obtain ⟨d3, hd3⟩ : ∃ d, Q = c + d := ⟨Q - c, by omega⟩
  have qd1 : Q - r1 = d1 := by omega
  have qd2 : Q - a = d2 := by omega
  have qd3 : Q - c = d3 := by omega
  have u2 : ∀ ta, F_unlock [Gr p Q g, I (r1 : Int), .val (.tup [.int (E p g b), .int (E p g (i + a * b))])] ta = some (.ok (.val (.int (E p g (i + a * b + b * d1)))), ta) := fun ta =>
    (unlock_E G G hr1).trans (okE (by rw [qd1]))
  have u3 := f_u3 (i := i) K tl tu ha hb hc he hk hr1 er1 hd1 hd2 qd2
  have u4 := f_u4 (i := i) K tl tu ha hb hc he hk 
  have j1 : ∀ ta, F_joined [Gr p Q g, .val (.tup [.int (E p g b), .int (E p g (i + a * b))]), .val (.tup [.int (E p g c), .int (E p g (j + a * c))])] ta = some (.ok (.val (.tup [.int (E p g (b + c)), .int (E p g (i + a * b + (j + a * c)))])), ta) := fun ta => joined_E G G _ _ _ _
  have j2 := f_j2 (i := i) (j := j) K tl tu ha hb hc he hk 
  have j3 : ∀ ta, F_joined [Gr p Q g, .val (.tup [.int (E p g (b + c)), .int (E p g (i + a * b + (j + a * c)))]), .val (.tup [.int (E p g e), .int (E p g (k + a * e))])] ta = some (.ok (.val (.tup [.int (E p g (b + c + e)), .int (E p g (i + a * b + (j + a * c) + (k + a * e)))])), ta) := fun ta => joined_E G G _ _ _ _
  have j4 : ∀ ta, F_joined [Gr p Q g, .val (.tup [.int (E p g c), .int (E p g (j + a * c))]), .val (.tup [.int (E p g e), .int (E p g (k + a * e))])] ta = some (.ok (.val (.tup [.int (E p g (c + e)), .int (E p g (j + a * c + (k + a * e)))])), ta) := fun ta => joined_E G G _ _ _ _
  have j5 := f_j5 (i := i) (j := j) K tl tu ha hb hc he hk 
  have j6 : ∀ ta, F_joined [Gr p Q g, .val (.tup [.int (E p g b), .int (E p g (i + a * b))]), .val (.tup [.int 1, .int 1])] ta = some (.ok (.val (.tup [.int (E p g b), .int (E p g (i + a * b))])), ta) := fun ta => by
    have := joined_E G G b (i + a * b) 0 0 (ta := ta)
    rw [E_0 G] at this
    exact this
  have k1 : ∀ ta, F_relocked [Gr p Q g, I (E p g a), .val (.tup [.int (E p g b), .int (E p g (i + a * b))]), I (c : Int)] ta = some (.ok (.val (.tup [.int (E p g (b + c)), .int (E p g (i + a * b + a * c))])), ta) := fun ta => relocked_E G hc
  have k2 : ∀ ta, F_relocked [Gr p Q g, I (E p g a), .val (.tup [.int (E p g (b + c)), .int (E p g (i + a * b + a * c))]), I (e : Int)] ta = some (.ok (.val (.tup [.int (E p g (b + c + e)), .int (E p g (i + a * b + a * c + a * e))])), ta) := fun ta => relocked_E G he
  have k3 := f_k3 (i := i) K tl tu ha hb hc he hk hr3 er3
  have k4 : ∀ ta, F_relocked [Gr p Q g, I (E p g a), .val (.tup [.int (E p g b), .int (E p g (i + a * b))]), I 0] ta = some (.ok (.val (.tup [.int (E p g b), .int (E p g (i + a * b))])), ta) := fun ta => relocked_E G (k := 0) Qp
  -- pledges
  have g1 := f_g1 K tl tu ha hb hc he hk 
  have g2 := f_g2 K tl tu ha hb hc he hk 
  have g3 := f_g3 K tl tu ha hb hc he hk hr1 er1 hr4 er4
  have g4 := f_g4 K tl tu ha hb hc he hk 
  have g5 := f_g5 K tl tu ha hb hc he hk 
  have g6 : ∀ ta, F_pledge [Gr p Q g, I g, I (a : Int), I (b : Int)] ta = some (.ok (.val (.int (E p g (a + b)))), ta) := fun ta => by
    have := pledge_E G G h1 ha hb (y := 1) (ta := ta)
    rw [E_1 G, Nat.one_mul, Nat.one_mul] at this
    exact this
  -- proofs
  have b1' : ∀ ta, F_begin [Gr p Q g, I (b : Int)] ta = some (.ok (.val (.int (E p g b))), ta) := fun ta => begin_E G hb
  have n1 : ∀ ta, F_answer [Gr p Q g, I (a : Int), I (b : Int), I (c : Int)] ta = some (.ok (.val (.int (u : Int))), ta) := fun ta => by rw [iu]; exact answer_E G ha hb hc
  have n2 : ∀ ta, F_answer [Gr p Q g, I (a : Int), I (b : Int), I (e : Int)] ta = some (.ok (.val (.int (v : Int))), ta) := fun ta => by rw [iv]; exact answer_E G ha hb he
  have n3 := f_n3 K tl tu ha hb hc he hk hu eu hr4 er4
  have y1 := f_y1 K tl tu ha hb hc he hk hu eu
  have y2 := f_y2 K tl tu ha hb hc he hk hu eu
  have y3 := f_y3 K tl tu ha hb hc he hk hu eu hw ew
  have o1 := f_o1 K tl tu ha hb hc he hk hu eu hd3 qd3
  have q1' : ∀ ta, F_same_log [Gr p Q g, I (E p g k), I (a : Int), I (b : Int), I (c : Int)] ta = some (.ok (.val (.tup [.int (E p g b), .int (E p g (k * b)), .int (c : Int), .int (u : Int)])), ta) := fun ta => by
    rw [iu]; exact same_log_E G ha hb hc
  have w1 := f_w1 K tl tu ha hb hc he hk hu eu
  have w2 := f_w2 K tl tu ha hb hc he hk hu eu
  have w3 := f_w3 K tl tu ha hb hc he hk hu eu
  have em := fun x y => E_mul (p := p) (g := g) x y
  have ky := fun ta => key_of_E K ha hb hc he (ta := ta)
  rw [← iu, ← iv] at ky
  unfold C_law
  simp only [I] at *
  have hz0 : (0 : Int) < Q := by omega
  obtain ⟨kd, hkd⟩ : ∃ kd : D, kd = if c = e then .non else .int (a : Int) := ⟨_, rfl⟩
  rw [← hkd] at ky
  have nek : neS (.val kd) (.val kd) = some (.val (.bl false)) := by
    rw [hkd]
    split
    · exact ne_non
    · rw [ne_int]; simp
  have ifx : ∀ env ta, env[9]? = some (.val (.int (a : Int))) → env[11]? = some (.val (.int (c : Int))) → env[12]? = some (.val (.int (e : Int))) →
      ifE (ofE (binE neS (varE 11) (varE 12))) (varE 9) (cstE .non) env ta = some (.ok (.val kd), ta) := fun env ta h9 h11 h12 => by
    rw [hkd]
    by_cases hce : c = e
    · have hceI : (c : Int) = (e : Int) := by omega
      simp [h9, h11, h12, ne_int, hceI, hce]
    · have hceI : ¬ (c : Int) = (e : Int) := by omega
      simp [h9, h11, h12, ne_int, hceI, hce]
  simp [-ifE_ap, begin_is, take_is, eb, ← ht0, eg, m1, lp, sub_int, add_int, et, ht, rg4, rg3, L4, L3, L2', List.range', compL_cons, e1, e2, e3, e4, e5, e6, e7, xi, xj, xk,
    m2, ne_tupI, WL, tn, ss, listS, ne_ownI, lB, lG, mul_sm, sj, st, sa, sb, sc, se, sE, mp, mq, z1, ne_int, em,
    p1, p2, p3, negS, p4, p5, p6, a1, a2, a3, a4, pwt, tupleS, ne_tup3, ne_tup2, ir1, ir2, ir3, ir4, iw,
    l1, l2, l3, l4, l5, u1, u2, u3, u4, j1, j2, j3, j4, j5, j6, k1, k2, k3, k4, p7, g1, g2, g3, g4, g5, g6, p8, b1', n1, n2, n3, y1, y2, y3, ky, nek, ifx, o1, q1', p9, w1, p10, p11, w3, eq_int, Int.mul_comm (b : Int) (a : Int)]
  by_cases hz : E p g k = 1
  · rw [if_pos hz]
    simp [p11, w3, pwt, mul_sm, sa, st]
  · rw [if_neg hz]
    have w2' := w2 hz
    simp [w2', ne_bl, eq_int, p11, w3, pwt, mul_sm, sa, st]
end MP.K44

open PySem PySem.W PyProof.Rows
set_option maxRecDepth 100000 in
set_option maxHeartbeats 0 in
theorem PySem.Challenge.cw_secrethall_k44_whole_powers_of_all_membe_holds : PySem.Challenge.rw_secrethall_k44_whole_powers_of_all_membe.Holds := by
  w_on; o_law; k_head; (case hw => w_witness2)
  k_fill
  refine L2.walk_of (l := PySem.Challenge.rw_secrethall_k44_whole_powers_of_all_membe) (n := 63) (k := 6) (x := "script") (CX := fun w => L2.CX (PySem.Challenge.rw_secrethall_k44_whole_powers_of_all_membe).prog w) (sp := fun w => MP.LSp _ ⟨[], 0⟩ 29 MP.K44.C_law) rfl (by decide) rfl ⟨rfl, by decide, by decide⟩ (fun w h Y => PySem.W.kIn_of Y) ?F (fun w H a ns hl hO hS => MP.lsp_law hO hS (MP.K44.law_true ns hl)) fun w H s e s' z => ?X
  case X => exact MP.cx_false z
  case F =>
    intro w mg fa h KX G hmg
    obtain ⟨fd, hb, hF⟩ : ∃ fd : FuncData, (∀ (s : Shared) (v : Value), BindsTo s fd ⟨[v], []⟩ [("script", v)]) ∧ ∀ (P : Program) (w' : World) (base : Heap), L2.FnOk P w' _ mg base (L2.CX P w') 6 fa fd ["script"] (MP.LSp _ ⟨[], 0⟩ 29 MP.K44.C_law) := by
      refine' MP.K44.all_mk KX G hmg ?a0 ?l0 ?c0 ?k0 ?a1 ?l1 ?c1 ?k1 ?a2 ?l2 ?c2 ?k2 ?a3 ?l3 ?c3 ?k3 ?a4 ?l4 ?c4 ?k4 ?a5 ?l5 ?c5 ?k5 ?a6 ?l6 ?c6 ?k6 ?a7 ?l7 ?c7 ?k7 ?a8 ?l8 ?c8 ?k8 ?a9 ?l9 ?c9 ?k9 ?a10 ?l10 ?c10 ?k10 ?a11 ?l11 ?c11 ?k11 ?a12 ?l12 ?c12 ?k12 ?a13 ?l13 ?c13 ?k13 ?a14 ?l14 ?c14 ?k14 ?a15 ?l15 ?c15 ?k15 ?a16 ?l16 ?c16 ?k16 ?a17 ?l17 ?c17 ?k17 ?a18 ?l18 ?c18 ?k18 ?a19 ?l19 ?c19 ?k19 ?a20 ?l20 ?c20 ?k20 ?a21 ?l21 ?c21 ?k21 ?a22 ?l22 ?c22 ?k22 ?a23 ?l23 ?c23 ?k23 ?a24 ?l24 ?c24 ?k24 ?a25 ?l25 ?c25 ?k25 ?z_abs ?z_int ?z_len ?z_list ?z_range ?z_sorted ?z_tuple ?g_MOST
      (case a0 => k_is)
      (case l0 => k_is)
      (case c0 => k_is)
      (case k0 => k_is)
      (case a1 => k_is)
      (case l1 => k_is)
      (case c1 => k_is)
      (case k1 => k_is)
      (case a2 => k_is)
      (case l2 => k_is)
      (case c2 => k_is)
      (case k2 => k_is)
      (case a3 => k_is)
      (case l3 => k_is)
      (case c3 => k_is)
      (case k3 => k_is)
      (case a4 => k_is)
      (case l4 => k_is)
      (case c4 => k_is)
      (case k4 => k_is)
      (case a5 => k_is)
      (case l5 => k_is)
      (case c5 => k_is)
      (case k5 => k_is)
      (case a6 => k_is)
      (case l6 => k_is)
      (case c6 => k_is)
      (case k6 => k_is)
      (case a7 => k_is)
      (case l7 => k_is)
      (case c7 => k_is)
      (case k7 => k_is)
      (case a8 => k_is)
      (case l8 => k_is)
      (case c8 => k_is)
      (case k8 => k_is)
      (case a9 => k_is)
      (case l9 => k_is)
      (case c9 => k_is)
      (case k9 => k_is)
      (case a10 => k_is)
      (case l10 => k_is)
      (case c10 => k_is)
      (case k10 => k_is)
      (case a11 => k_is)
      (case l11 => k_is)
      (case c11 => k_is)
      (case k11 => k_is)
      (case a12 => k_is)
      (case l12 => k_is)
      (case c12 => k_is)
      (case k12 => k_is)
      (case a13 => k_is)
      (case l13 => k_is)
      (case c13 => k_is)
      (case k13 => k_is)
      (case a14 => k_is)
      (case l14 => k_is)
      (case c14 => k_is)
      (case k14 => k_is)
      (case a15 => k_is)
      (case l15 => k_is)
      (case c15 => k_is)
      (case k15 => k_is)
      (case a16 => k_is)
      (case l16 => k_is)
      (case c16 => k_is)
      (case k16 => k_is)
      (case a17 => k_is)
      (case l17 => k_is)
      (case c17 => k_is)
      (case k17 => k_is)
      (case a18 => k_is)
      (case l18 => k_is)
      (case c18 => k_is)
      (case k18 => k_is)
      (case a19 => k_is)
      (case l19 => k_is)
      (case c19 => k_is)
      (case k19 => k_is)
      (case a20 => k_is)
      (case l20 => k_is)
      (case c20 => k_is)
      (case k20 => k_is)
      (case a21 => k_is)
      (case l21 => k_is)
      (case c21 => k_is)
      (case k21 => k_is)
      (case a22 => k_is)
      (case l22 => k_is)
      (case c22 => k_is)
      (case k22 => k_is)
      (case a23 => k_is)
      (case l23 => k_is)
      (case c23 => k_is)
      (case k23 => k_is)
      (case a24 => k_is)
      (case l24 => k_is)
      (case c24 => k_is)
      (case k24 => k_is)
      (case a25 => k_is)
      (case l25 => k_is)
      (case c25 => k_is)
      (case k25 => k_is)
      (case z_abs => k_is)
      (case z_int => k_is)
      (case z_len => k_is)
      (case z_list => k_is)
      (case z_range => k_is)
      (case z_sorted => k_is)
      (case z_tuple => k_is)
      (case g_MOST => k_is)
    exact ⟨fd, hb, fun base _ _ => hF _ w base⟩
