import PyProof.Rows.All
import Wide.All
import OpenK.AllK
import Wide.FinOn
import PyProof.EqAt
import PyProof.EqKinds
import PyProof.TupleCall
import KE.KLam
import HandS.Base
import HandS.Call
import HandS.List
import HandS.Comp
import HandS.Ends
import HandS.Dict
import HandS.Iter
import HandS.Text
import HandS.Exc
import HandS.TryOnly
import HandS.ExcOwn
import HandS.Words
import HandS.WordsList
import HandS.WordsExc
import HandS.Wide
import HandS.WideMore
import HandS.SortInts
import HandS.Conv
import HandS.Flow
import HandS.Style
import HandS.Zip
import HandS.Codes
import HandS.Lambda
import HandS.EndBits
import HandS.EndTab
import HandS.ExcInit
import HandS.ExcSuper
import HandS.ExcField
import KE.GoesMore
import KE.KTupSum
import HandS.More
import KE.KRevSl
import HandS.DictComp
import HandS.DictTup
import HandS.TupSets
import HandS.TupLe
import KE.KDictZip
import KE.KTurns
import KE.KExcSuper
import HandS.Nested
import KE.KNestM
import PySem.Challenge.RW_secrethall_k41_whole_rows_of_any_length
set_option Elab.async false
set_option linter.all false
set_option maxRecDepth 100000
set_option maxHeartbeats 4000000
/-! MPa: plain data, frames of plain data, what an expression comes to. -/
namespace MP
open PySem PySem.Spec PyProof.Rows L2

inductive D where
  | non | bl (b : Bool) | int (i : Int) | str (x : Str) | tup (ds : List D) | lst (ds : List D)

structure Tape where
  scr : List Int
  pos : Nat
  left : Int
  seed : Int

/-- a slot: nothing known, a datum, a list of the frame's own, a list of the frame's own as it is read, the tape -/
inductive Sl where
  | un | val (d : D) | own (ds : List D) | bor (ds : List D) | tape | dic (ks : List (Key × D)) | bdc (ks : List (Key × D))

abbrev TapeO := Option Tape
abbrev SE := List Sl
abbrev Ev := SE → TapeO → Option (Except Str Sl × TapeO)

structure Ct where
  T : List (Addr × Str)
  C : Addr

/-- a list that never changes any more -/
def FzL (K : PySem.W.Frag) (H : Hp) (a : Addr) (xs : List V) : Prop :=
  (∃ o, H a = some (.frz o (.lst xs))) ∨
    ∃ (o : Obj) (its : Array Value) (n : Nat), K.lookup a = some o ∧ o.cls = .type "list" ∧ o.dict = none ∧ o.data = .seq its n ∧ its.size ≤ sizeLine ∧ Vals xs its.toList
theorem FzL.sq {K : PySem.W.Frag} {H : Hp} {a : Addr} {xs : List V} (h : FzL K H a xs) : SqL K H a xs := h.elim (fun h => .inl (.inr h)) .inr
structure Stab (H H' : Hp) : Prop where
  tup : ∀ a xs, H a = some (.tup xs) → H' a = some (.tup xs)
  frz : ∀ a o u, H a = some (.frz o u) → H' a = some (.frz o u)
theorem Stab.refl (H : Hp) : Stab H H := ⟨fun _ _ h => h, fun _ _ _ h => h⟩
theorem Stab.trans {H H1 H2 : Hp} (a : Stab H H1) (b : Stab H1 H2) : Stab H H2 := ⟨fun x y h => b.tup x y (a.tup x y h), fun x y z h => b.frz x y z (a.frz x y z h)⟩
theorem Stab.of_same {H H' : Hp} (s : Same H H') : Stab H H' := ⟨fun a _ h => s a _ h, fun a _ _ h => s a _ h⟩
theorem Same.new {H : Hp} {p : Addr} {o : HO} (h : H p = none) : Same H (upd H p o) := fun a u e => by
  rw [upd_ne (ne_of_none e h)]
  exact e
theorem Stab.fz {K : PySem.W.Frag} {H H' : Hp} {a : Addr} {xs : List V} (s : Stab H H') (h : FzL K H a xs) : FzL K H' a xs := by
  rcases h with ⟨o, h⟩ | h
  · exact .inl ⟨o, s.frz _ _ _ h⟩
  · exact .inr h
theorem Stab.sqT {K : PySem.W.Frag} {H H' : Hp} {a : Addr} {xs : List V} (s : Stab H H') (h : SqT K H a xs) : SqT K H' a xs := by
  rcases h with (h | ⟨o, h⟩) | h
  · exact .inl (.inl (s.tup _ _ h))
  · exact .inl (.inr ⟨o, s.frz _ _ _ h⟩)
  · exact .inr h

mutual
inductive Rep (K : PySem.W.Frag) (H : Hp) : V → D → Prop
  | non : Rep K H .non .non
  | bl (b : Bool) : Rep K H (.bl b) (.bl b)
  | int (i : Int) : Rep K H (.int i) (.int i)
  | str (x : Str) : Rep K H (.str x) (.str x)
  | tup {a : Addr} {xs : List V} {ds : List D} : SqT K H a xs → Reps K H xs ds → Rep K H (.ref a) (.tup ds)
  | lst {a : Addr} {xs : List V} {ds : List D} : FzL K H a xs → Reps K H xs ds → Rep K H (.ref a) (.lst ds)
inductive Reps (K : PySem.W.Frag) (H : Hp) : List V → List D → Prop
  | nil : Reps K H [] []
  | cons {v : V} {vs : List V} {d : D} {ds : List D} : Rep K H v d → Reps K H vs ds → Reps K H (v :: vs) (d :: ds)
end
section
variable {K : PySem.W.Frag} {H H' : Hp}
mutual
theorem Rep.mono (s : Stab H H') : ∀ (d : D) (v : V), Rep K H v d → Rep K H' v d
  | .non, _, h => by cases h; exact .non
  | .bl _, _, h => by cases h; exact .bl _
  | .int _, _, h => by cases h; exact .int _
  | .str _, _, h => by cases h; exact .str _
  | .tup ds, _, h => by
    cases h with
    | tup h1 h2 => exact .tup (s.sqT h1) (Reps.mono s ds _ h2)
  | .lst ds, _, h => by
    cases h with
    | lst h1 h2 => exact .lst (s.fz h1) (Reps.mono s ds _ h2)
theorem Reps.mono (s : Stab H H') : ∀ (ds : List D) (vs : List V), Reps K H vs ds → Reps K H' vs ds
  | [], _, h => by cases h; exact .nil
  | d :: ds, _, h => by
    cases h with
    | cons h1 h2 => exact .cons (Rep.mono s d _ h1) (Reps.mono s ds _ h2)
end
theorem Rep.st {v : V} {d : D} (h : Rep K H v d) (s : Stab H H') : Rep K H' v d := Rep.mono s d v h
theorem Reps.st {vs : List V} {ds : List D} (h : Reps K H vs ds) (s : Stab H H') : Reps K H' vs ds := Reps.mono s ds vs h
theorem Reps.length : ∀ {vs : List V} {ds : List D}, Reps K H vs ds → vs.length = ds.length
  | _, _, .nil => rfl
  | _, _, .cons _ t => by simp [t.length]
theorem Reps.get : ∀ {vs : List V} {ds : List D} {i : Nat} {d : D}, Reps K H vs ds → ds[i]? = some d → ∃ v, vs[i]? = some v ∧ Rep K H v d
  | _, _, i, d, .nil, h => by simp at h
  | _, _, 0, d, .cons h1 h2, h => by simp at h; subst h; exact ⟨_, rfl, h1⟩
  | _, _, i + 1, d, .cons h1 h2, h => by
    obtain ⟨v, e, r⟩ := Reps.get (i := i) h2 (by simpa using h)
    exact ⟨v, by simpa using e, r⟩
theorem Reps.getV : ∀ {vs : List V} {ds : List D} {i : Nat} {v : V}, Reps K H vs ds → vs[i]? = some v → ∃ d, ds[i]? = some d ∧ Rep K H v d
  | _, _, i, d, .nil, h => by simp at h
  | _, _, 0, d, .cons h1 h2, h => by simp at h; subst h; exact ⟨_, rfl, h1⟩
  | _, _, i + 1, d, .cons h1 h2, h => by
    obtain ⟨v, e, r⟩ := Reps.getV (i := i) h2 (by simpa using h)
    exact ⟨v, by simpa using e, r⟩
theorem Reps.append : ∀ {vs ws : List V} {ds es : List D}, Reps K H vs ds → Reps K H ws es → Reps K H (vs ++ ws) (ds ++ es)
  | _, _, _, _, .nil, h => h
  | _, _, _, _, .cons h1 h2, h => .cons h1 (h2.append h)
theorem Reps.set {v : V} {d : D} (r : Rep K H v d) : ∀ {vs : List V} {ds : List D} (i : Nat), Reps K H vs ds → Reps K H (vs.set i v) (ds.set i d)
  | _, _, _, .nil => .nil
  | _, _, 0, .cons _ t => .cons r t
  | _, _, i + 1, .cons q t => .cons q (Reps.set r i t)
theorem Reps.take : ∀ {vs : List V} {ds : List D} (n : Nat), Reps K H vs ds → Reps K H (vs.take n) (ds.take n)
  | _, _, 0, _ => .nil
  | _, _, _ + 1, .nil => .nil
  | _, _, n + 1, .cons r t => .cons r (Reps.take n t)
theorem Reps.drop : ∀ {vs : List V} {ds : List D} (n : Nat), Reps K H vs ds → Reps K H (vs.drop n) (ds.drop n)
  | _, _, 0, r => r
  | _, _, _ + 1, .nil => .nil
  | _, _, n + 1, .cons _ t => Reps.drop n t
theorem Reps.eraseIdx : ∀ {vs : List V} {ds : List D} (i : Nat), Reps K H vs ds → Reps K H (vs.eraseIdx i) (ds.eraseIdx i)
  | _, _, _, .nil => .nil
  | _, _, 0, .cons _ t => t
  | _, _, i + 1, .cons r t => .cons r (Reps.eraseIdx i t)
theorem Reps.reverse : ∀ {vs : List V} {ds : List D}, Reps K H vs ds → Reps K H vs.reverse ds.reverse
  | _, _, .nil => .nil
  | _, _, .cons r t => by
    rw [List.reverse_cons, List.reverse_cons]
    exact t.reverse.append (.cons r .nil)
theorem Reps.flat {vs : List V} {ds : List D} (h : Reps K H vs ds) : ∀ k : Nat, Reps K H (List.replicate k vs).flatten (List.replicate k ds).flatten
  | 0 => .nil
  | k + 1 => by
    rw [List.replicate_succ, List.replicate_succ, List.flatten_cons, List.flatten_cons]
    exact h.append (h.flat k)
theorem Reps.ints : ∀ (ns : List Int), Reps K H (ns.map V.int) (ns.map D.int)
  | [] => .nil
  | n :: r => .cons (.int n) (Reps.ints r)
theorem Reps.intsV : ∀ {vs : List V} (ns : List Int), Reps K H vs (ns.map D.int) → vs = ns.map V.int
  | _, [], h => by cases h; rfl
  | _, n :: r, h => by
    cases h with
    | cons h1 h2 =>
      cases h1
      rw [Reps.intsV r h2, List.map_cons]
theorem Reps.blsV : ∀ {vs : List V} (bs : List Bool), Reps K H vs (bs.map D.bl) → vs = bs.map V.bl
  | _, [], h => by cases h; rfl
  | _, n :: r, h => by
    cases h with
    | cons h1 h2 =>
      cases h1
      rw [Reps.blsV r h2, List.map_cons]
end

/-! ### tables -/
def valD (ks : List (Key × D)) (k : Key) : Option D := (ks.find? fun kv => decide (kv.1 = k)).map (·.2)
def putD (ks : List (Key × D)) (k : Key) (v : D) : List (Key × D) :=
  if (ks.any fun kv => decide (kv.1 = k)) = true then ks.map (fun kv => if kv.1 = k then (kv.1, v) else kv) else ks ++ [(k, v)]
inductive RepsK (K : PySem.W.Frag) (H : Hp) : List (Key × V) → List (Key × D) → Prop
  | nil : RepsK K H [] []
  | cons {k : Key} {v : V} {vs : List (Key × V)} {d : D} {ds : List (Key × D)} : Rep K H v d → RepsK K H vs ds → RepsK K H ((k, v) :: vs) ((k, d) :: ds)
section
variable {K : PySem.W.Frag} {H H' : Hp}
theorem RepsK.st (s : Stab H H') : ∀ {vs : List (Key × V)} {ds : List (Key × D)}, RepsK K H vs ds → RepsK K H' vs ds
  | _, _, .nil => .nil
  | _, _, .cons h t => .cons (h.st s) (t.st s)
theorem RepsK.length : ∀ {vs : List (Key × V)} {ds : List (Key × D)}, RepsK K H vs ds → vs.length = ds.length
  | _, _, .nil => rfl
  | _, _, .cons _ t => by simp [t.length]
theorem RepsK.val {k : Key} : ∀ {vs : List (Key × V)} {ds : List (Key × D)}, RepsK K H vs ds →
    (valD ds k = none → valV vs k = none) ∧ (∀ d, valD ds k = some d → ∃ v, valV vs k = some v ∧ Rep K H v d)
  | _, _, .nil => ⟨fun _ => rfl, fun d e => by cases e⟩
  | _, _, .cons (k := j) (v := v) (d := d) (vs := vs) (ds := ds) h t => by
    have ih := t.val (k := k)
    by_cases e : j = k
    · have e1 : valD ((j, d) :: ds) k = some d := by simp [valD, List.find?_cons, e]
      have e2 : valV ((j, v) :: vs) k = some v := by simp [valV, List.find?_cons, e]
      rw [e1, e2]
      exact ⟨(by intro h; cases h), fun d' h' => ⟨v, rfl, by cases h'; exact h⟩⟩
    · have e1 : valD ((j, d) :: ds) k = valD ds k := by simp [valD, List.find?_cons, e]
      have e2 : valV ((j, v) :: vs) k = valV vs k := by simp [valV, List.find?_cons, e]
      rw [e1, e2]
      exact ih
theorem RepsK.any {k : Key} : ∀ {vs : List (Key × V)} {ds : List (Key × D)}, RepsK K H vs ds → (vs.any fun kv => decide (kv.1 = k)) = (ds.any fun kv => decide (kv.1 = k))
  | _, _, .nil => rfl
  | _, _, .cons _ t => by rw [List.any_cons, List.any_cons, t.any]
theorem RepsK.repl {k : Key} {v : V} {d : D} (r : Rep K H v d) : ∀ {vs : List (Key × V)} {ds : List (Key × D)}, RepsK K H vs ds →
    RepsK K H (vs.map (fun kv => if kv.1 = k then (kv.1, v) else kv)) (ds.map (fun kv => if kv.1 = k then (kv.1, d) else kv))
  | _, _, .nil => .nil
  | _, _, .cons (k := j) h t => by
    rw [List.map_cons, List.map_cons]
    by_cases e : j = k
    · rw [if_pos e, if_pos e]; exact .cons r (t.repl r)
    · rw [if_neg e, if_neg e]; exact .cons h (t.repl r)
theorem RepsK.snoc {k : Key} {v : V} {d : D} (r : Rep K H v d) : ∀ {vs : List (Key × V)} {ds : List (Key × D)}, RepsK K H vs ds → RepsK K H (vs ++ [(k, v)]) (ds ++ [(k, d)])
  | _, _, .nil => .cons r .nil
  | _, _, .cons h t => .cons h (t.snoc r)
theorem RepsK.put {k : Key} {v : V} {d : D} (r : Rep K H v d) {vs : List (Key × V)} {ds : List (Key × D)} (h : RepsK K H vs ds) : RepsK K H (putK vs k v) (putD ds k d) := by
  unfold putK putD
  rw [h.any]
  split
  · exact h.repl r
  · exact h.snoc r
end

/-! ### as the library's data -/
mutual
def D.py : D → PyData
  | .non => .none
  | .bl b => .bool b
  | .int i => .int i
  | .str x => .str x
  | .tup ds => .tuple (pys ds)
  | .lst ds => .list (pys ds)
def pys : List D → List PyData
  | [] => []
  | d :: ds => d.py :: pys ds
end
mutual
theorem Rep.dp {K : PySem.W.Frag} {H : Hp} : ∀ (d : D) (v : V), Rep K H v d → Dp K H v d.py
  | .non, _, h => by cases h; exact .non
  | .bl _, _, h => by cases h; exact .bl _
  | .int _, _, h => by cases h; exact .int _
  | .str _, _, h => by cases h; exact .str _
  | .tup ds, _, h => by
    cases h with
    | tup h1 h2 => exact .tup h1 (Reps.dp ds _ h2)
  | .lst ds, _, h => by
    cases h with
    | lst h1 h2 => exact .lst h1.sq (Reps.dp ds _ h2)
theorem Reps.dp {K : PySem.W.Frag} {H : Hp} : ∀ (ds : List D) (vs : List V), Reps K H vs ds → DpAll K H vs (pys ds)
  | [], _, h => by cases h; exact .nil
  | d :: ds, _, h => by
    cases h with
    | cons h1 h2 => exact .cons (Rep.dp d _ h1) (Reps.dp ds _ h2)
end

/-! ### the tape, the frame -/
def TapeAt (K : PySem.W.Frag) (H : Hp) (a : Addr) (t : Tape) : Prop := ∃ (sc : Addr), H a = some (.lst [.ref sc, .int (t.pos : Int), .int t.left, .int t.seed]) ∧ FzL K H sc (t.scr.map V.int)
def TapeR (K : PySem.W.Frag) (H : Hp) : Option Addr → TapeO → Prop
  | none, none => True
  | some a, some t => TapeAt K H a t
  | _, _ => False
/-- what may change in a call: the tape, the tables of code objects -/
def Vol (c : Ct) (tp : Option Addr) (a : Addr) : Prop := tp = some a ∨ a ∈ c.T.map (·.1)
structure Kp (c : Ct) (tp : Option Addr) (H H' : Hp) : Prop where
  kp : ∀ a o, H a = some o → ¬ Vol c tp a → H' a = some o
  st : Stab H H'
  nn : ∀ a, H' a = none → H a = none
section
variable {K : PySem.W.Frag} {c : Ct} {tp : Option Addr} {H H1 H2 : Hp}
theorem Kp.refl (c : Ct) (tp : Option Addr) (H : Hp) : Kp c tp H H := ⟨fun _ _ h _ => h, .refl H, fun _ h => h⟩
theorem Kp.trans (a : Kp c tp H H1) (b : Kp c tp H1 H2) : Kp c tp H H2 := ⟨fun x o h n => b.kp x o (a.kp x o h n) n, a.st.trans b.st, fun x h => a.nn x (b.nn x h)⟩
theorem Kp.same (s : Same H H1) : Kp c tp H H1 := ⟨fun a o h _ => s a o h, .of_same s, fun a h => s.free h⟩
theorem TapeR.same {ta : TapeO} (s : Same H H1) (h : TapeR K H tp ta) : TapeR K H1 tp ta := by
  cases tp <;> cases ta
  · exact h
  · exact h
  · exact h
  · obtain ⟨sc, e1, e2⟩ := h
    exact ⟨sc, s _ _ e1, (Stab.of_same s).fz e2⟩
end

def RepSl (K : PySem.W.Frag) (H : Hp) (tp : Option Addr) (σ : L2.St) (i : Nat) : Sl → Prop
  | .un => True
  | .val d => ∃ v, σ[i]? = some (some v) ∧ Rep K H v d
  | .own ds => ∃ a xs, σ[i]? = some (some (.ref a)) ∧ H a = some (.lst xs) ∧ Reps K H xs ds
  | .bor _ => False
  | .tape => ∃ a, tp = some a ∧ σ[i]? = some (some (.ref a))
  | .dic ds => ∃ a xs, σ[i]? = some (some (.ref a)) ∧ H a = some (.dK xs) ∧ RepsK K H xs ds
  | .bdc _ => False
/-- a frame's own thing -/
def Sl.IsOwn : Sl → Prop
  | .own _ => True
  | .dic _ => True
  | _ => False
def OwnAt (env : SE) (σ : L2.St) (i : Nat) (a : Addr) : Prop := (∃ s, env[i]? = some s ∧ s.IsOwn) ∧ σ[i]? = some (some (.ref a))
structure RepS (K : PySem.W.Frag) (c : Ct) (B : Hp) (tp : Option Addr) (σ : L2.St) (H : Hp) (env : SE) (ta : TapeO) : Prop where
  len : env.length = σ.length
  slot : ∀ i sl, env[i]? = some sl → RepSl K H tp σ i sl
  fresh : ∀ i a, OwnAt env σ i a → B a = none ∧ ¬ Vol c tp a
  dist : ∀ i j a, OwnAt env σ i a → OwnAt env σ j a → i = j
  tape : TapeR K H tp ta
  tabs : LamX.Tabs c.T H
  keep : ∀ a o, B a = some o → ¬ Vol c tp a → H a = some o
  stab : Stab B H
/-- a result: H0 the heap ahead of it -/
def RepV (K : PySem.W.Frag) (c : Ct) (tp : Option Addr) (H0 H : Hp) (v : V) : Sl → Prop
  | .un => False
  | .val d => Rep K H v d
  | .own ds => ∃ a xs, v = .ref a ∧ H0 a = none ∧ ¬ Vol c tp a ∧ H a = some (.lst xs) ∧ Reps K H xs ds
  | .bor ds => ∃ a xs, v = .ref a ∧ H a = some (.lst xs) ∧ ¬ Vol c tp a ∧ Reps K H xs ds
  | .tape => ∃ a, tp = some a ∧ v = .ref a
  | .dic ds => ∃ a xs, v = .ref a ∧ H0 a = none ∧ ¬ Vol c tp a ∧ H a = some (.dK xs) ∧ RepsK K H xs ds
  | .bdc ds => ∃ a xs, v = .ref a ∧ H a = some (.dK xs) ∧ ¬ Vol c tp a ∧ RepsK K H xs ds
section
variable {K : PySem.W.Frag} {c : Ct} {tp : Option Addr} {H H0 H1 H2 B : Hp} {σ : L2.St} {env : SE} {ta : TapeO}
/-- what is volatile is tracked -/
theorem RepS.vol (R : RepS K c B tp σ H env ta) {a : Addr} (h : H a = none) : ¬ Vol c tp a := by
  rintro (e | e)
  · subst e
    have t := R.tape
    cases ta with
    | none => exact t
    | some t' =>
      obtain ⟨sc, e1, _⟩ := t
      rw [h] at e1; cases e1
  · obtain ⟨p, hp, e⟩ := List.mem_map.mp e
    obtain ⟨ps, e1, _⟩ := R.tabs p hp
    rw [e, h] at e1; cases e1
theorem RepS.grow (R : RepS K c B tp σ H env ta) (s : Same H H1) : RepS K c B tp σ H1 env ta where
  len := R.len
  slot := fun i sl e => by
    have q := R.slot i sl e
    cases sl with
    | un => exact q
    | val d => obtain ⟨v, e1, r⟩ := q; exact ⟨v, e1, r.st (.of_same s)⟩
    | own ds => obtain ⟨a, xs, e1, e2, r⟩ := q; exact ⟨a, xs, e1, s _ _ e2, r.st (.of_same s)⟩
    | bor _ => exact q
    | tape => exact q
    | dic ds => obtain ⟨a, xs, e1, e2, r⟩ := q; exact ⟨a, xs, e1, s _ _ e2, r.st (.of_same s)⟩
    | bdc _ => exact q
  fresh := R.fresh
  dist := R.dist
  tape := R.tape.same s
  tabs := R.tabs.ext s
  keep := fun a o e n => s _ _ (R.keep a o e n)
  stab := R.stab.trans (.of_same s)
theorem RepV.kp {v : V} {r : Sl} (h : RepV K c tp H0 H v r) (k : Kp c tp H H1) : RepV K c tp H0 H1 v r := by
  cases r with
  | un => exact h
  | val d => exact Rep.st h k.st
  | own ds => obtain ⟨a, xs, e, n, nv, h1, r⟩ := h; exact ⟨a, xs, e, n, nv, k.kp _ _ h1 nv, r.st k.st⟩
  | bor ds => obtain ⟨a, xs, e, h1, nv, r⟩ := h; exact ⟨a, xs, e, k.kp _ _ h1 nv, nv, r.st k.st⟩
  | tape => exact h
  | dic ds => obtain ⟨a, xs, e, n, nv, h1, r⟩ := h; exact ⟨a, xs, e, n, nv, k.kp _ _ h1 nv, r.st k.st⟩
  | bdc ds => obtain ⟨a, xs, e, h1, nv, r⟩ := h; exact ⟨a, xs, e, k.kp _ _ h1 nv, nv, r.st k.st⟩
theorem RepV.back {v : V} {r : Sl} (h : RepV K c tp H1 H2 v r) (k : Kp c tp H H1) : RepV K c tp H H2 v r := by
  cases r with
  | un => exact h
  | val d => exact h
  | own ds => obtain ⟨a, xs, e, n, nv, h1, r⟩ := h; exact ⟨a, xs, e, k.nn _ n, nv, h1, r⟩
  | bor ds => exact h
  | tape => exact h
  | dic ds => obtain ⟨a, xs, e, n, nv, h1, r⟩ := h; exact ⟨a, xs, e, k.nn _ n, nv, h1, r⟩
  | bdc ds => exact h
/-- a list, read -/
def Sl.items? : Sl → Option (List D)
  | .val (.lst ds) => some ds
  | .own ds => some ds
  | .bor ds => some ds
  | _ => none
theorem RepV.list {v : V} {r : Sl} {ds : List D} (h : RepV K c tp H0 H v r) (e : r.items? = some ds) : ∃ a xs, v = .ref a ∧ SqL K H a xs ∧ Reps K H xs ds := by
  cases r with
  | un => cases e
  | val d =>
    cases d with
    | lst es =>
      obtain rfl : es = ds := Option.some.inj e
      cases (show Rep K H v (.lst es) from h) with
      | lst h1 h2 => exact ⟨_, _, rfl, h1.sq, h2⟩
    | _ => cases e
  | own es => cases e; obtain ⟨a, xs, e, n, nv, h1, r⟩ := h; exact ⟨a, xs, e, SqL.of h1, r⟩
  | bor es => cases e; obtain ⟨a, xs, e, h1, nv, r⟩ := h; exact ⟨a, xs, e, SqL.of h1, r⟩
  | tape => cases e
  | dic _ => cases e
  | bdc _ => cases e
/-- a datum, as it is read -/
def Sl.dat? : Sl → Option D
  | .val d => some d
  | .own ds => some (.lst ds)
  | .bor ds => some (.lst ds)
  | _ => none
theorem RepV.dp {v : V} {r : Sl} {d : D} (h : RepV K c tp H0 H v r) (e : r.dat? = some d) : Dp K H v d.py := by
  cases r with
  | un => cases e
  | val d => cases e; exact Rep.dp _ _ h
  | own es => cases e; obtain ⟨a, xs, rfl, n, nv, h1, r⟩ := h; exact .lst (SqL.of h1) (Reps.dp _ _ r)
  | bor es => cases e; obtain ⟨a, xs, rfl, h1, nv, r⟩ := h; exact .lst (SqL.of h1) (Reps.dp _ _ r)
  | tape => cases e
  | dic _ => cases e
  | bdc _ => cases e
/-- a new list, a new tuple -/
theorem RepV.newL {p : Addr} {xs : List V} {ds : List D} (hp : H p = none) (nv : ¬ Vol c tp p) (r : Reps K H xs ds) : RepV K c tp H (upd H p (.lst xs)) (.ref p) (.own ds) :=
  ⟨p, xs, rfl, hp, nv, upd_same, r.st (.of_same (Same.new hp))⟩
theorem RepV.newT {p : Addr} {xs : List V} {ds : List D} (hp : H p = none) (r : Reps K H xs ds) : RepV K c tp H (upd H p (.tup xs)) (.ref p) (.val (.tup ds)) :=
  .tup (SqT.of upd_same) (r.st (.of_same (Same.new hp)))
end

/-! ### the exception -/
def ErrIs (c : Ct) (H : Hp) (cls : Value) (d : Option Addr) (x : Str) : Prop := cls = .ref c.C ∧ ∃ dd fs, d = some dd ∧ H dd = some (.xd fs) ∧ fs.lookup ("code" : Str) = some (V.str x)

/-! ### what an expression comes to -/
def EPost (K : PySem.W.Frag) (c : Ct) (W : WX) (B : Hp) (tp : Option Addr) (σ : L2.St) (H : Hp) (env : SE) (r : Option (Except Str Sl × TapeO)) (Q : VK) : Prop :=
  match r with
  | none => False
  | some (.ok z, ta') => ∀ v H', RepS K c B tp σ H' env ta' → Kp c tp H H' → RepV K c tp H H' v z → Q v H'
  | some (.error x, ta') => ∀ cls d H', RepS K c B tp σ H' env ta' → Kp c tp H H' → ErrIs c H' cls d x → W cls d σ H'
def tE (K : PySem.W.Frag) (c : Ct) (W : WX) (f : Ev) : TE := fun σ H Q => ∃ B tp env ta, RepS K c B tp σ H env ta ∧ EPost K c W B tp σ H env (f env ta) Q
/-- the judgement -/
structure PEv (X : Cx) (c : Ct) (W : WX) (e : Expr) (f : Ev) : Prop where
  pe : PE X e (tE X.K c W f)
theorem pe_mono {X : Cx} {e : Expr} {t t' : TE} (h : PE X e t) (i : ∀ σ H Q, t' σ H Q → t σ H Q) : PE X e t' := ⟨fun pins s σ H Q I w => h.run pins s σ H Q I (i σ H Q w)⟩
theorem pt_mono {X : Cx} {e : Expr} {t t' : TT} (h : PT X e t) (i : ∀ σ H Q, t' σ H Q → t σ H Q) : PT X e t' := ⟨fun pins s σ H Q I w => h.run pins s σ H Q I (i σ H Q w)⟩
theorem pw_mono {X : Cx} {e : Expr} {t t' : TT} (h : PW X e t) (i : ∀ σ H Q, t' σ H Q → t σ H Q) : PW X e t' := ⟨fun wh pins s σ H Q I w => h.run wh pins s σ H Q I (i σ H Q w)⟩
theorem pa_mono {X : Cx} {es : List Expr} {t t' : TA} (h : PA X es t) (i : ∀ σ H Q, t' σ H Q → t σ H Q) : PA X es t' := ⟨fun pos pins s σ H Q I w => h.run pos pins s σ H Q I (i σ H Q w)⟩
theorem ps_mono {X : Cx} {e : Stmt} {t t' : TS} (h : PS X e t) (i : ∀ D σ H, t' D σ H → t D σ H) : PS X e t' := ⟨fun pins s σ H D I w => h.run pins s σ H D I (i D σ H w)⟩
theorem pss_mono {X : Cx} {e : List Stmt} {t t' : TS} (h : PSs X e t) (i : ∀ D σ H, t' D σ H → t D σ H) : PSs X e t' := ⟨fun pins s σ H D I w => h.run pins s σ H D I (i D σ H w)⟩

def bindE (f : Ev) (k : Sl → Ev) : Ev := fun env ta => match f env ta with
  | none => none
  | some (.error x, t) => some (.error x, t)
  | some (.ok r, t) => k r env t
section
variable {K : PySem.W.Frag} {c : Ct} {W : WX} {f : Ev} {k : Sl → Ev} {B : Hp} {tp : Option Addr} {σ : L2.St} {H : Hp} {env : SE} {ta : TapeO} {Q : VK}
/-- the first part, then what is left -/
theorem tE_bind {R : VK} (RS : RepS K c B tp σ H env ta) (h : EPost K c W B tp σ H env (bindE f k env ta) Q)
    (go : ∀ r t v H1, RepS K c B tp σ H1 env t → Kp c tp H H1 → RepV K c tp H H1 v r → EPost K c W B tp σ H env (k r env t) Q → R v H1) : tE K c W f σ H R := by
  refine ⟨B, tp, env, ta, RS, ?_⟩
  unfold bindE at h
  cases e : f env ta with
  | none => rw [e] at h; exact h
  | some p =>
    obtain ⟨r, t⟩ := p
    rw [e] at h
    cases r with
    | error x => exact h
    | ok r => exact fun v H1 R1 K1 V1 => go r t v H1 R1 K1 V1 h
/-- the rest stands at a later heap -/
theorem EPost.later {H1 : Hp} {r : Option (Except Str Sl × TapeO)} (h : EPost K c W B tp σ H env r Q) (k1 : Kp c tp H H1) : EPost K c W B tp σ H1 env r Q := by
  cases r with
  | none => exact h
  | some p =>
    obtain ⟨r, t⟩ := p
    cases r with
    | error x => exact fun cls d H' R' K' e => h cls d H' R' (k1.trans K') e
    | ok r => exact fun v H' R' K' V' => h v H' R' (k1.trans K') (V'.back k1)
/-- an end: a value is there -/
theorem EPost.val {z : Sl} {t : TapeO} {v : V} (RS : RepS K c B tp σ H env t) (h : EPost K c W B tp σ H env (some (.ok z, t)) Q) (V : RepV K c tp H H v z) : Q v H := h v H RS (.refl _ _ _) V
theorem EPost.same {z : Sl} {t : TapeO} {v : V} {H1 : Hp} (RS : RepS K c B tp σ H env t) (h : EPost K c W B tp σ H env (some (.ok z, t)) Q) (s : Same H H1) (V : RepV K c tp H H1 v z) : Q v H1 := h v H1 (RS.grow s) (.same s) V
end

/-! ### names, constants -/
def varE (i : Nat) : Ev := fun env ta => match env[i]? with
  | some (.val d) => some (.ok (.val d), ta)
  | some (.own ds) => some (.ok (.bor ds), ta)
  | some .tape => some (.ok .tape, ta)
  | some (.dic ks) => some (.ok (.bdc ks), ta)
  | _ => none
def cstE (d : D) : Ev := fun _ ta => some (.ok (.val d), ta)
section
variable {X : Cx} {c : Ct} {W : WX}
theorem v_var {i : Nat} {x : Str} {pos : Pos} (hN : X.N[i]? = some x := by rfl) (hv : Vis X.env.scope x := by first | exact Or.inl rfl | exact Or.inr (Or.inl rfl) | exact Or.inr (Or.inr rfl))
    (hd : (x == ("__debug__" : Str)) = false := by decide) (hcd : (x == ("__classdict__" : Str)) = false := by decide) : PEv X c W (.Name x pos) (varE i) := by
  refine ⟨pe_mono (pe_var hN hv hd hcd) ?_⟩
  rintro σ H Q ⟨B, tp, env, ta, RS, h⟩
  unfold varE at h
  have sl := fun s e => RS.slot i s e
  cases e : env[i]? with
  | none => rw [e] at h; exact h.elim
  | some s =>
    rw [e] at h
    have q := sl s e
    cases s with
    | un => exact h.elim
    | val d => obtain ⟨v, e1, r⟩ := q; exact ⟨v, e1, EPost.val RS h r⟩
    | own ds =>
      obtain ⟨a, xs, e1, e2, r⟩ := q
      exact ⟨_, e1, EPost.val RS h ⟨a, xs, rfl, e2, (RS.fresh i a ⟨⟨_, e, trivial⟩, e1⟩).2, r⟩⟩
    | bor _ => exact h.elim
    | tape => obtain ⟨a, e1, e2⟩ := q; exact ⟨_, e2, EPost.val RS h ⟨a, e1, rfl⟩⟩
    | dic ds =>
      obtain ⟨a, xs, e1, e2, r⟩ := q
      exact ⟨_, e1, EPost.val RS h ⟨a, xs, rfl, e2, (RS.fresh i a ⟨⟨_, e, trivial⟩, e1⟩).2, r⟩⟩
    | bdc _ => exact h.elim
theorem cst_of {K : PySem.W.Frag} {d : D} {v : V} (r : ∀ H, Rep K H v d) : ∀ σ H Q, tE K c W (cstE d) σ H Q → tC v σ H Q := by
  rintro σ H Q ⟨B, tp, env, ta, RS, h⟩
  exact EPost.val RS h (r H)
theorem v_int {i : Int} {j pos} : PEv X c W (.Constant (.int i) j pos) (cstE (.int i)) := ⟨pe_mono pe_int (cst_of fun _ => .int _)⟩
theorem v_bl {b j pos} : PEv X c W (.Constant (.bool b) j pos) (cstE (.bl b)) := ⟨pe_mono pe_bl (cst_of fun _ => .bl _)⟩
theorem v_non {j pos} : PEv X c W (.Constant .none j pos) (cstE .non) := ⟨pe_mono pe_non (cst_of fun _ => .non)⟩
theorem v_str {x j pos} : PEv X c W (.Constant (.str x) j pos) (cstE (.str x)) := ⟨pe_mono pe_str (cst_of fun _ => .str _)⟩
/-- a module's int -/
theorem v_gint {x : Str} {i : Int} {pos : Pos} (hm : ∃ t, X.mg x = some (.int i t)) (hg : Gl X x := by rfl) (hd : (x == ("__debug__" : Str)) = false := by decide) : PEv X c W (.Name x pos) (cstE (.int i)) := by
  obtain ⟨t, hm⟩ := hm
  exact ⟨pe_mono (pe_glob (v := .int i) hg hm ⟨t, rfl⟩ hd) (cst_of fun _ => .int _)⟩
end

/-! ### two-place operations -/
def binE (op : Sl → Sl → Option Sl) (f g : Ev) : Ev := bindE f fun x => bindE g fun y => fun _ ta => (op x y).map fun z => (.ok z, ta)
/-- op is told by r -/
def OpOk (K : PySem.W.Frag) (c : Ct) (r : R2) (op : Sl → Sl → Option Sl) : Prop :=
  ∀ (tp : Option Addr) (H0 H1 H : Hp) (v u : V) (x y z : Sl) (Q : VK), (∀ a, H a = none → ¬ Vol c tp a) → RepV K c tp H0 H v x → RepV K c tp H1 H u y → op x y = some z →
    (∀ w H', Same H H' → RepV K c tp H H' w z → Q w H') → r v u H Q
theorem bin_of {K : PySem.W.Frag} {c : Ct} {W : WX} {r : R2} {op : Sl → Sl → Option Sl} {f g : Ev} (ho : OpOk K c r op) : ∀ σ H Q, tE K c W (binE op f g) σ H Q → tOp r (tE K c W f) (tE K c W g) σ H Q := by
  rintro σ H Q ⟨B, tp, env, ta, RS, h⟩
  refine tE_bind RS h fun x t1 v H1 R1 K1 V1 h1 => ?_
  refine tE_bind R1 (h1.later K1) fun y t2 u H2 R2 K2 V2 h2 => ?_
  cases e : op x y with
  | none => rw [e] at h2; exact h2.elim
  | some z =>
    rw [e] at h2
    exact ho tp H H1 H2 v u x y z Q (fun a => R2.vol) (V1.kp K2) V2 e fun w H' s V => EPost.same R2 (h2.later K2) s V
section
variable {X : Cx} {c : Ct} {W : WX} {a b : Expr} {f g : Ev} {pos : Pos}
theorem v_op {op : Operator} {r : R2} {o : Sl → Sl → Option Sl} (hr : OpR X (binaryOp op) r) (ho : OpOk X.K c r o) (ha : PEv X c W a f) (hb : PEv X c W b g) : PEv X c W (.BinOp a op b pos) (binE o f g) :=
  ⟨pe_mono (pe_op hr ha.pe hb.pe) (bin_of ho)⟩
theorem v_cmp {op : CmpOp} {r : R2} {o : Sl → Sl → Option Sl} (hr : OpR X (compareOp op) r) (ho : OpOk X.K c r o) (ha : PEv X c W a f) (hb : PEv X c W b g) (hm : behindInMarks op b = false := by rfl) : PEv X c W (.Compare a [op] [b] pos) (binE o f g) :=
  ⟨pe_mono (pe_cmpR hr ha.pe hb.pe hm) (bin_of ho)⟩
end
end MP

/-! MPb: operations by plain data, tests, arguments, calls of built-ins. -/
namespace MP
open PySem PySem.Spec PyProof.Rows L2

def LIM : Nat := 16777216
theorem lim_line {n : Nat} (h : n ≤ LIM) : n ≤ sizeLine := by rw [sizeLine_eq]; exact h

/-! ### ints -/
def opI (C : Int → Int → Bool) (g : Int → Int → D) : Sl → Sl → Option Sl
  | .val (.int i), .val (.int j) => if C i j = true then some (.val (g i j)) else none
  | _, _ => none
theorem RepV.int {K : PySem.W.Frag} {c : Ct} {tp : Option Addr} {H0 H : Hp} {v : V} {i : Int} (h : RepV K c tp H0 H v (.val (.int i))) : v = .int i := by
  cases (show Rep K H v (.int i) from h); rfl
theorem RepV.bl {K : PySem.W.Frag} {c : Ct} {tp : Option Addr} {H0 H : Hp} {v : V} {i : Bool} (h : RepV K c tp H0 H v (.val (.bl i))) : v = .bl i := by
  cases (show Rep K H v (.bl i) from h); rfl
theorem RepV.str {K : PySem.W.Frag} {c : Ct} {tp : Option Addr} {H0 H : Hp} {v : V} {i : Str} (h : RepV K c tp H0 H v (.val (.str i))) : v = .str i := by
  cases (show Rep K H v (.str i) from h); rfl
theorem RepV.tup {K : PySem.W.Frag} {c : Ct} {tp : Option Addr} {H0 H : Hp} {v : V} {ds : List D} (h : RepV K c tp H0 H v (.val (.tup ds))) : ∃ a xs, v = .ref a ∧ SqT K H a xs ∧ Reps K H xs ds := by
  cases (show Rep K H v (.tup ds) from h) with
  | tup h1 h2 => exact ⟨_, _, rfl, h1, h2⟩
section
variable {K : PySem.W.Frag} {c : Ct}
theorem opI_ok {C : Int → Int → Prop} {C' : Int → Int → Bool} {g : Int → Int → V} {g' : Int → Int → D} (hc : ∀ i j, C' i j = true → C i j) (hg : ∀ H i j, C' i j = true → Rep K H (g i j) (g' i j)) : OpOk K c (rI C g) (opI C' g') := by
  intro tp H0 H1 H v u x y z Q nv hx hy e k
  unfold opI at e
  split at e
  · rename_i i j
    split at e
    · rename_i hC
      cases e
      exact ⟨i, j, hx.int, hy.int, hc i j hC, k _ H (Same.refl H) (hg H i j hC)⟩
    · cases e
  · cases e
theorem opI0_ok {g : Int → Int → V} {g' : Int → Int → D} (hg : ∀ H i j, Rep K H (g i j) (g' i j)) : OpOk K c (rI0 g) (opI (fun _ _ => true) g') := by
  intro tp H0 H1 H v u x y z Q nv hx hy e k
  unfold opI at e
  split at e
  · rename_i i j
    rw [if_pos rfl] at e
    cases e
    exact ⟨i, j, hx.int, hy.int, k _ H (Same.refl H) (hg H i j)⟩
  · cases e
/-- one of two rules -/
theorem OpOk.or {r r' : R2} {o o' : Sl → Sl → Option Sl} (h : OpOk K c r o) (h' : OpOk K c r' o') : OpOk K c (fun x y H Q => r x y H Q ∨ r' x y H Q) (fun x y => (o x y).orElse fun _ => o' x y) := by
  intro tp H0 H1 H v u x y z Q nv hx hy e k
  have e : (o x y).orElse (fun _ => o' x y) = some z := e
  cases e1 : o x y with
  | none => rw [e1] at e; exact .inr (h' tp H0 H1 H v u x y z Q nv hx hy e k)
  | some w => rw [e1] at e; cases e; exact .inl (h tp H0 H1 H v u x y _ Q nv hx hy e1 k)
theorem OpOk.imp {r : R2} {o o' : Sl → Sl → Option Sl} (h : OpOk K c r o) (e : ∀ x y z, o' x y = some z → o x y = some z) : OpOk K c r o' := fun tp H0 H1 H v u x y z Q nv hx hy q k => h tp H0 H1 H v u x y z Q nv hx hy (e x y z q) k
end
def subS : Sl → Sl → Option Sl := opI (fun _ _ => true) fun i j => .int (i - j)
def mulOk (i j : Int) : Bool := decide (i.natAbs.log2 + j.natAbs.log2 < 1000000)
def divOk (j : Int) : Bool := decide (0 < j ∧ j.natAbs.log2 < 9000)
def powOk (i j : Int) : Bool := decide (0 ≤ j ∧ j ≤ 1000000 ∧ i.natAbs < 2 ^ 64)
def fdivS : Sl → Sl → Option Sl := opI (fun _ j => divOk j) fun i j => .int (i / j)
def modS : Sl → Sl → Option Sl := opI (fun _ j => decide (0 < j)) fun i j => .int (i % j)
def powS : Sl → Sl → Option Sl := opI powOk fun i j => .int (i ^ j.toNat)
def ltS : Sl → Sl → Option Sl := opI (fun _ _ => true) fun i j => .bl (decide (i < j))
def leS : Sl → Sl → Option Sl := opI (fun _ _ => true) fun i j => .bl (decide (i ≤ j))
def gtS : Sl → Sl → Option Sl := opI (fun _ _ => true) fun i j => .bl (decide (j < i))
def geS : Sl → Sl → Option Sl := opI (fun _ _ => true) fun i j => .bl (decide (j ≤ i))
def xorS : Sl → Sl → Option Sl := opI (fun _ _ => true) fun i j => .int (Builtin.bitXor i j)
def andS : Sl → Sl → Option Sl := opI (fun _ _ => true) fun i j => .int (Builtin.bitAnd i j)
def orS : Sl → Sl → Option Sl := opI (fun _ _ => true) fun i j => .int (Builtin.bitOr i j)
section
variable {K : PySem.W.Frag} {c : Ct}
theorem ok_sub : OpOk K c (rI0 fun i j => .int (i - j)) subS := opI0_ok fun _ _ _ => .int _
theorem ok_mulI : OpOk K c (rI CMulW fun i j => .int (i * j)) (opI mulOk fun i j => .int (i * j)) := opI_ok (fun i j h => (show i.natAbs.log2 + j.natAbs.log2 < 1000000 from of_decide_eq_true h)) fun _ _ _ _ => .int _
theorem ok_fdiv : OpOk K c (rI CDivW fun i j => .int (i / j)) fdivS := opI_ok (fun i j h => (show 0 < j ∧ j.natAbs.log2 < 9000 from of_decide_eq_true h)) fun _ _ _ _ => .int _
theorem ok_mod : OpOk K c (rI (fun _ j => 0 < j) fun i j => .int (i % j)) modS := opI_ok (fun i j h => of_decide_eq_true h) fun _ _ _ _ => .int _
theorem ok_pow : OpOk K c (rI CPow fun i j => .int (i ^ j.toNat)) powS := opI_ok (fun i j h => (show 0 ≤ j ∧ j ≤ 1000000 ∧ i.natAbs < 2 ^ 64 from of_decide_eq_true h)) fun _ _ _ _ => .int _
theorem ok_lt : OpOk K c (rI0 fun i j => .bl (decide (i < j))) ltS := opI0_ok fun _ _ _ => .bl _
theorem ok_le : OpOk K c (rI0 fun i j => .bl (decide (i ≤ j))) leS := opI0_ok fun _ _ _ => .bl _
theorem ok_gt : OpOk K c (rI0 fun i j => .bl (decide (j < i))) gtS := opI0_ok fun _ _ _ => .bl _
theorem ok_ge : OpOk K c (rI0 fun i j => .bl (decide (j ≤ i))) geS := opI0_ok fun _ _ _ => .bl _
theorem ok_xor : OpOk K c (rI0 fun i j => .int (Builtin.bitXor i j)) xorS := opI0_ok fun _ _ _ => .int _
theorem ok_and : OpOk K c (rI0 fun i j => .int (Builtin.bitAnd i j)) andS := opI0_ok fun _ _ _ => .int _
theorem ok_or : OpOk K c (rI0 fun i j => .int (Builtin.bitOr i j)) orS := opI0_ok fun _ _ _ => .int _
end

/-! ### + of texts, tuples, lists; * of lists, tuples -/
/-- t + u of tuples -/
def rCatU (K : PySem.W.Frag) : R2 := fun x y H Q => ∃ a b xs ys, x = .ref a ∧ y = .ref b ∧ SqT K H a xs ∧ SqT K H b ys ∧ xs.length + ys.length ≤ sizeLine ∧
  Q (.ref a) H = Q (.ref a) H ∧ (xs = [] → Q (.ref b) H) ∧ (xs ≠ [] → ys = [] → Q (.ref a) H) ∧ (xs ≠ [] → ys ≠ [] → ∀ p, H p = none → Q (.ref p) (upd H p (.tup (xs ++ ys))))
theorem op_catU {X : Cx} : OpR X (binaryOp .Add) (rCatU X.K) := by
  intro pins s σ H x y v u Q I rx ry h
  obtain ⟨a, b, xs, ys, rfl, rfl, ha, hb, hz, _, q0, q1, q2⟩ := h
  by_cases hx : xs = []
  · cases rx
    cases ry
    obtain ⟨its, r1, p1, _⟩ := I.tuple ha
    obtain ⟨its2, r2, p2, _⟩ := I.tuple hb
    have hv : its = [] := r1.nil_iff.mpr hx
    obtain ⟨⟨cls, dd, data, sl⟩, ho, hc, n, hd⟩ := id p1
    obtain ⟨⟨cls2, dd2, data2, sl2⟩, ho2, hc2, n2, hd2⟩ := id p2
    simp only at hc hd hc2 hd2
    subst hc hd hc2 hd2
    exact concat_meets ⟨_, ho, rfl⟩ ⟨_, ho2, rfl⟩ noFill_tuple_add seq_tuple_add PySem.F.slot_tuple_add PySem.F.entry_tuple_add (PySem.F.args_tuple_add_2 _ _)
      (tuple_addW0 a b its.toArray its2.toArray n n2 dd dd2 sl sl2 (by simp [hv])) ⟨ho, ho2, ⟨.ref b, H, I, rfl, q0 hx⟩⟩
  · exact op_catT pins s σ H (.ref a) (.ref b) v u Q I rx ry ⟨a, b, xs, ys, rfl, rfl, ha, hb, hx, hz, q1 hx, q2 hx⟩
/-- two lists -/
def rCatL (K : PySem.W.Frag) : R2 := fun x y H Q => ∃ l b xs zs, x = .ref l ∧ y = .ref b ∧ SqL K H l xs ∧ SqL K H b zs ∧ xs.length + zs.length ≤ sizeLine ∧ ∀ p, H p = none → Q (.ref p) (upd H p (.lst (xs ++ zs)))
end MP
namespace MP
open PySem PySem.Spec PyProof.Rows L2
/-- a list, tracked or frozen, as it lies -/
theorem Inv.lstAny {X : Cx} {pins : List (Addr × Obj)} {σ : L2.St} {H : Hp} {s : Shared} {l : Addr} {xs : List V} (I : Inv X pins σ H s) (h : Rd H l (.lst xs)) :
    xs.length ≤ sizeLine ∧ ∃ (its : List Value) (n : Nat), Vals xs its ∧ xs.length = its.length ∧ s.heap.get? l = some { cls := .type "list", data := .seq its.toArray n } := by
  obtain ⟨z, its, n, r, e⟩ := h.ok I.hok
  exact ⟨z, its, n, r, r.length, e⟩
def rCatM : R2 := fun x y H Q => ∃ l b xs zs, x = .ref l ∧ y = .ref b ∧ Rd H l (.lst xs) ∧ Rd H b (.lst zs) ∧ xs.length + zs.length ≤ sizeLine ∧ ∀ p, H p = none → Q (.ref p) (upd H p (.lst (xs ++ zs)))
theorem op_catM {X : Cx} : OpR X (binaryOp .Add) rCatM := by
  intro pins s σ H x y v u Q I rx ry h
  obtain ⟨l, b, xs, zs, rfl, rfl, hH, hB, hz, q⟩ := h
  cases rx
  cases ry
  obtain ⟨z, its, n, r, hl, e⟩ := Inv.lstAny I hH
  obtain ⟨z2, its2, n2, r2, hl2, e2⟩ := Inv.lstAny I hB
  refine PySem.P.add_list e e2 ?_ (by rw [List.size_toArray, List.size_toArray]; omega)
  have ea : its.toArray ++ its2.toArray = (its ++ its2).toArray := by simp
  rw [ea]
  exact ⟨.ref _, _, I.lnew (t' := s.toks) (r.append r2) (by rw [List.length_append]; omega), rfl, q _ I.fresh⟩
/-- a list that is tracked -/
def Sl.tr? : Sl → Option (List D)
  | .own ds => some ds
  | .bor ds => some ds
  | _ => none
section
variable {K : PySem.W.Frag} {c : Ct} {tp : Option Addr} {H0 H : Hp}
theorem RepV.tr {v : V} {r : Sl} {ds : List D} (h : RepV K c tp H0 H v r) (e : r.tr? = some ds) : ∃ a xs, v = .ref a ∧ H a = some (.lst xs) ∧ Reps K H xs ds := by
  cases r with
  | own es => cases e; obtain ⟨a, xs, e, n, nv, h1, r⟩ := h; exact ⟨a, xs, e, h1, r⟩
  | bor es => cases e; obtain ⟨a, xs, e, h1, nv, r⟩ := h; exact ⟨a, xs, e, h1, r⟩
  | _ => cases e
end
def catTS : Sl → Sl → Option Sl
  | .val (.tup a), .val (.tup b) => if a.length + b.length ≤ LIM then some (.val (.tup (a ++ b))) else none
  | _, _ => none
def catSS : Sl → Sl → Option Sl
  | .val (.str a), .val (.str b) => if a.length + b.length ≤ LIM then some (.val (.str (a ++ b))) else none
  | _, _ => none
def catMS (x y : Sl) : Option Sl := match x.tr?, y.tr? with
  | some a, some b => if a.length + b.length ≤ LIM then some (.own (a ++ b)) else none
  | _, _ => none
/-- x + y -/
def addS (x y : Sl) : Option Sl := match x, y with
  | .val (.int i), .val (.int j) => some (.val (.int (i + j)))
  | .val (.tup a), .val (.tup b) => if a.length + b.length ≤ LIM then some (.val (.tup (a ++ b))) else none
  | .val (.str a), .val (.str b) => if a.length + b.length ≤ LIM then some (.val (.str (a ++ b))) else none
  | x, y => catMS x y
section
variable {K : PySem.W.Frag} {c : Ct}
theorem ok_addI : OpOk K c (rI0 fun i j => .int (i + j)) (opI (fun _ _ => true) fun i j => .int (i + j)) := opI0_ok fun _ _ _ => .int _
theorem ok_catT : OpOk K c (rCatU K) catTS := by
  intro tp H0 H1 H v u x y z Q nv hx hy e k
  unfold catTS at e
  split at e
  · rename_i a b
    split at e
    · rename_i hl
      cases e
      obtain ⟨l, xs, rfl, h1, r1⟩ := hx.tup
      obtain ⟨l2, ys, rfl, h2, r2⟩ := hy.tup
      refine ⟨l, l2, xs, ys, rfl, rfl, h1, h2, by rw [r1.length, r2.length]; exact lim_line hl, rfl, fun e => ?_, fun _ e => ?_, fun _ _ p hp => ?_⟩
      · subst e
        have ea : a = [] := List.eq_nil_of_length_eq_zero (by rw [← r1.length]; rfl)
        exact k _ H (Same.refl H) (by rw [ea]; exact Rep.tup h2 r2)
      · subst e
        have ea : b = [] := List.eq_nil_of_length_eq_zero (by rw [← r2.length]; rfl)
        exact k _ H (Same.refl H) (by rw [ea, List.append_nil]; exact Rep.tup h1 r1)
      · exact k _ _ (Same.new hp) (RepV.newT hp (r1.append r2))
    · cases e
  · cases e
theorem ok_catS : OpOk K c (fun x y H Q => ∃ i j, x = .str i ∧ y = .str j ∧ i.length + j.length ≤ sizeLine ∧ Q (.str (i ++ j)) H) catSS := by
  intro tp H0 H1 H v u x y z Q nv hx hy e k
  unfold catSS at e
  split at e
  · rename_i a b
    split at e
    · rename_i hl
      cases e
      exact ⟨a, b, hx.str, hy.str, lim_line hl, k _ H (Same.refl H) (Rep.str _)⟩
    · cases e
  · cases e
theorem ok_catM : OpOk K c rCatM catMS := by
  intro tp H0 H1 H v u x y z Q nv hx hy e k
  unfold catMS at e
  split at e
  · rename_i a b ex ey
    split at e
    · rename_i hl
      cases e
      obtain ⟨l, xs, rfl, h1, r1⟩ := hx.tr ex
      obtain ⟨l2, ys, rfl, h2, r2⟩ := hy.tr ey
      exact ⟨l, l2, xs, ys, rfl, rfl, .inl h1, .inl h2, by rw [r1.length, r2.length]; exact lim_line hl, fun p hp => k _ _ (Same.new hp) (RepV.newL hp (nv p hp) (r1.append r2))⟩
    · cases e
  · cases e
/-- all of + -/
def rAddAll (K : PySem.W.Frag) : R2 := fun x y H Q => rI0 (fun i j => .int (i + j)) x y H Q ∨ (rCatU K x y H Q ∨ ((∃ i j, x = .str i ∧ y = .str j ∧ i.length + j.length ≤ sizeLine ∧ Q (.str (i ++ j)) H) ∨ rCatM x y H Q))
theorem op_addAll {X : Cx} : OpR X (binaryOp .Add) (rAddAll X.K) := op_add.or (op_catU.or (op_add_str.or op_catM))
theorem ok_add : OpOk K c (rAddAll K) addS := by
  refine (ok_addI.or (ok_catT.or (ok_catS.or ok_catM))).imp fun x y z e => ?_
  unfold addS at e
  split at e
  · cases e; rfl
  · show ((opI _ _ _ _).orElse _) = _
    simp only [opI, catTS, Option.orElse]
    rw [e]
  · simp only [opI, catTS, catSS, Option.orElse]
    rw [e]
  · rename_i h1 h2 h3
    have e1 : opI (fun _ _ => true) (fun i j => .int (i + j)) x y = none := by
      unfold opI
      split
      · exact (h1 _ _ rfl rfl).elim
      · rfl
    have e2 : catTS x y = none := by
      unfold catTS
      split
      · exact (h2 _ _ rfl rfl).elim
      · rfl
    have e3 : catSS x y = none := by
      unfold catSS
      split
      · exact (h3 _ _ rfl rfl).elim
      · rfl
    rw [e1, e2, e3]
    exact e
end

/-! ### == and != -/
def eqC (x y : Sl) : Option Bool := match x.dat?, y.dat? with
  | some a, some b => if SeqAt.shaped a.py = true ∧ SeqAt.shaped b.py = true then some (PyData.eqv a.py b.py) else none
  | _, _ => none
def eqS (x y : Sl) : Option Sl := (eqC x y).map fun b => .val (.bl b)
def neS (x y : Sl) : Option Sl := (eqC x y).map fun b => .val (.bl (!b))
section
variable {K : PySem.W.Frag} {c : Ct}
theorem ok_eq : OpOk K c (rEqD K) eqS := by
  intro tp H0 H1 H v u x y z Q nv hx hy e k
  unfold eqS eqC at e
  split at e
  · rename_i a b ex ey
    split at e
    · rename_i hs
      cases e
      exact ⟨_, _, hx.dp ex, hy.dp ey, hs.1, hs.2, k _ H (Same.refl H) (Rep.bl _)⟩
    · cases e
  · cases e
theorem ok_ne : OpOk K c (rNeD K) neS := by
  intro tp H0 H1 H v u x y z Q nv hx hy e k
  unfold neS eqC at e
  split at e
  · rename_i a b ex ey
    split at e
    · rename_i hs
      cases e
      exact ⟨_, _, hx.dp ex, hy.dp ey, hs.1, hs.2, k _ H (Same.refl H) (Rep.bl _)⟩
    · cases e
  · cases e
end
/-! ### is None -/
def Sl.isNone? : Sl → Option Bool
  | .val .non => some true
  | .val _ => some false
  | .own _ => some false
  | .bor _ => some false
  | _ => none
def isS (x y : Sl) : Option Sl := match y with
  | .val .non => x.isNone?.map fun b => .val (.bl b)
  | _ => none
def isntS (x y : Sl) : Option Sl := match y with
  | .val .non => x.isNone?.map fun b => .val (.bl (!b))
  | _ => none
section
variable {K : PySem.W.Frag} {c : Ct}
theorem RepV.isNone {tp : Option Addr} {H0 H : Hp} {v : V} {x : Sl} {b : Bool} (h : RepV K c tp H0 H v x) (e : x.isNone? = some b) : decide (v = .non) = b := by
  cases x with
  | un => cases e
  | val d =>
    have h' : Rep K H v d := h
    cases d <;> (cases h'; cases e; rfl)
  | own ds => cases e; obtain ⟨a, xs, rfl, _⟩ := h; rfl
  | bor ds => cases e; obtain ⟨a, xs, rfl, _⟩ := h; rfl
  | tape => cases e
  | dic _ => cases e
  | bdc _ => cases e
theorem ok_is : OpOk K c (fun x y H Q => y = .non ∧ Q (.bl (decide (x = .non))) H) isS := by
  intro tp H0 H1 H v u x y z Q nv hx hy e k
  unfold isS at e
  split at e
  · cases (show Rep K H u .non from hy)
    cases ex : x.isNone? with
    | none => rw [ex] at e; cases e
    | some b =>
      rw [ex] at e
      cases e
      exact ⟨rfl, k _ H (Same.refl H) (by rw [hx.isNone ex]; exact Rep.bl _)⟩
  · cases e
theorem ok_isnt : OpOk K c (fun x y H Q => y = .non ∧ Q (.bl (!decide (x = .non))) H) isntS := by
  intro tp H0 H1 H v u x y z Q nv hx hy e k
  unfold isntS at e
  split at e
  · cases (show Rep K H u .non from hy)
    cases ex : x.isNone? with
    | none => rw [ex] at e; cases e
    | some b =>
      rw [ex] at e
      cases e
      exact ⟨rfl, k _ H (Same.refl H) (by rw [hx.isNone ex]; exact Rep.bl _)⟩
  · cases e
end
/-! ### subscripts -/
def Sl.seq? : Sl → Option (List D)
  | .val (.tup ds) => some ds
  | .val (.lst ds) => some ds
  | .own ds => some ds
  | .bor ds => some ds
  | _ => none
def ixS (x y : Sl) : Option Sl := match x.seq?, y with
  | some ds, .val (.int i) => (atI ds i).map .val
  | _, _ => none
section
variable {K : PySem.W.Frag} {c : Ct}
theorem RepV.seq {tp : Option Addr} {H0 H : Hp} {v : V} {x : Sl} {ds : List D} (h : RepV K c tp H0 H v x) (e : x.seq? = some ds) : ∃ a xs, v = .ref a ∧ (SqL K H a xs ∨ SqT K H a xs) ∧ Reps K H xs ds := by
  cases x with
  | un => cases e
  | val d =>
    have h' : Rep K H v d := h
    cases d with
    | tup es => cases e; obtain ⟨a, xs, e, h1, r⟩ := RepV.tup h; exact ⟨a, xs, e, .inr h1, r⟩
    | lst es => cases e; obtain ⟨a, xs, e, h1, r⟩ := RepV.list h rfl; exact ⟨a, xs, e, .inl h1, r⟩
    | _ => cases e
  | own es => cases e; obtain ⟨a, xs, e, h1, r⟩ := RepV.list h rfl; exact ⟨a, xs, e, .inl h1, r⟩
  | bor es => cases e; obtain ⟨a, xs, e, h1, r⟩ := RepV.list h rfl; exact ⟨a, xs, e, .inl h1, r⟩
  | tape => cases e
  | dic _ => cases e
  | bdc _ => cases e
theorem Reps.atI {H : Hp} {xs : List V} {ds : List D} {i : Int} {d : D} (r : Reps K H xs ds) (e : L2.atI ds i = some d) : ∃ v, L2.atI xs i = some v ∧ Rep K H v d := by
  unfold L2.atI at e ⊢
  rw [r.length]
  cases q : ixN ds.length i with
  | none => rw [q] at e; cases e
  | some j =>
    rw [q] at e
    exact r.get (i := j) e
theorem ok_ix : OpOk K c (rIx K) ixS := by
  intro tp H0 H1 H v u x y z Q nv hx hy e k
  unfold ixS at e
  split at e
  · rename_i ds i ex
    cases ed : L2.atI ds i with
    | none => rw [ed] at e; cases e
    | some d =>
      rw [ed] at e
      cases e
      obtain ⟨a, xs, rfl, hs, r⟩ := hx.seq ex
      obtain ⟨w, e1, r1⟩ := r.atI ed
      rw [hy.int]
      rcases hs with hs | hs
      · exact .inl ⟨a, xs, i, w, rfl, rfl, hs, e1, k _ H (Same.refl H) r1⟩
      · exact .inr (.inl ⟨a, xs, i, w, rfl, rfl, hs, e1, k _ H (Same.refl H) r1⟩)
  · cases e
end
section
variable {X : Cx} {c : Ct} {W : WX} {a b : Expr} {f g : Ev} {pos : Pos}
theorem v_ix (ha : PEv X c W a f) (hb : PEv X c W b g) (hs : PlainIx b := by exact fun _ _ => rfl) : PEv X c W (.Subscript a b pos) (binE ixS f g) := ⟨pe_mono (pe_ix ix_seq ha.pe hb.pe hs) (bin_of ok_ix)⟩
end
/-! ### in, not in -/
def inC (x y : Sl) : Option Bool := match x.dat?, y.seq? with
  | some d, some ds => if SeqAt.shaped d.py = true ∧ SeqAt.shaped (.list (pys ds)) = true then some ((pys ds).any fun z => PyData.eqv z d.py) else none
  | _, _ => none

def inS (x y : Sl) : Option Sl := (inC x y).map fun b => .val (.bl b)
def ninS (x y : Sl) : Option Sl := (inC x y).map fun b => .val (.bl (!b))
/-- x in a list or a tuple of data -/
def rInA (K : PySem.W.Frag) (neg : Bool) : R2 := fun x y H Q => ∃ d ds, Dp K H x d ∧ (Dp K H y (.list ds) ∨ Dp K H y (.tuple ds)) ∧ SeqAt.shaped d = true ∧ SeqAt.shaped (.list ds) = true ∧ Q (.bl (if neg then !ds.any fun z => PyData.eqv z d else ds.any fun z => PyData.eqv z d)) H
end MP

/-! MPc: in, tests, arguments, calls of built-ins, displays. -/
namespace MP
open PySem PySem.Spec PyProof.Rows L2
section
variable {X : Cx}
theorem op_inA (hu : X.A.units + 65 < cLine) : OpR X (compareOp .In) (rInA X.K false) := by
  intro pins s σ H x y v u Q I rx ry h
  obtain ⟨d, ds, hd, he, sd, se, q⟩ := h
  obtain ⟨as, r1⟩ := Dp.reads I d x v hd rx
  rcases he with he | he
  · obtain ⟨bs, r2⟩ := Dp.reads I (.list ds) y u he ry
    exact SeqAt.in_list_reads r2 r1 (SeqAt.canLay_of_shaped se) (SeqAt.canLay_of_shaped sd) (room_in_shaped sd hu) ⟨.bl _, H, I, rfl, q⟩
  · obtain ⟨bs, r2⟩ := Dp.reads I (.tuple ds) y u he ry
    exact SeqAt.in_tuple_reads r2 r1 (SeqAt.canLay_of_shaped se) (SeqAt.canLay_of_shaped sd) (room_in_shaped sd hu) ⟨.bl _, H, I, rfl, q⟩
theorem op_ninA (hu : X.A.units + 65 < cLine) : OpR X (compareOp .NotIn) (rInA X.K true) := by
  intro pins s σ H x y v u Q I rx ry h
  obtain ⟨d, ds, hd, he, sd, se, q⟩ := h
  obtain ⟨as, r1⟩ := Dp.reads I d x v hd rx
  rcases he with he | he
  · obtain ⟨bs, r2⟩ := Dp.reads I (.list ds) y u he ry
    exact SeqAt.notIn_list_reads r2 r1 (SeqAt.canLay_of_shaped se) (SeqAt.canLay_of_shaped sd) (room_in_shaped sd hu) ⟨.bl _, H, I, rfl, q⟩
  · obtain ⟨bs, r2⟩ := Dp.reads I (.tuple ds) y u he ry
    exact SeqAt.notIn_tuple_reads r2 r1 (SeqAt.canLay_of_shaped se) (SeqAt.canLay_of_shaped sd) (room_in_shaped sd hu) ⟨.bl _, H, I, rfl, q⟩
end
section
variable {K : PySem.W.Frag} {c : Ct}
theorem RepV.seqdp {tp : Option Addr} {H0 H : Hp} {v : V} {x : Sl} {ds : List D} (h : RepV K c tp H0 H v x) (e : x.seq? = some ds) : Dp K H v (.list (pys ds)) ∨ Dp K H v (.tuple (pys ds)) := by
  obtain ⟨a, xs, rfl, hs | hs, r⟩ := h.seq e
  · exact .inl (.lst hs (Reps.dp _ _ r))
  · exact .inr (.tup hs (Reps.dp _ _ r))
theorem ok_in : OpOk K c (rInA K false) inS := by
  intro tp H0 H1 H v u x y z Q nv hx hy e k
  unfold inS inC at e
  split at e
  · rename_i d ds ex ey
    split at e
    · rename_i hs
      cases e
      exact ⟨_, _, hx.dp ex, hy.seqdp ey, hs.1, hs.2, k _ H (Same.refl H) (Rep.bl _)⟩
    · cases e
  · cases e
theorem ok_nin : OpOk K c (rInA K true) ninS := by
  intro tp H0 H1 H v u x y z Q nv hx hy e k
  unfold ninS inC at e
  split at e
  · rename_i d ds ex ey
    split at e
    · rename_i hs
      cases e
      exact ⟨_, _, hx.dp ex, hy.seqdp ey, hs.1, hs.2, k _ H (Same.refl H) (Rep.bl _)⟩
    · cases e
  · cases e
end

/-! ### one-place operations -/
def unE (op : Sl → Option Sl) (f : Ev) : Ev := bindE f fun x => fun _ ta => (op x).map fun z => (.ok z, ta)
def negS : Sl → Option Sl
  | .val (.int i) => some (.val (.int (-i)))
  | _ => none
section
variable {X : Cx} {c : Ct} {W : WX} {a : Expr} {f : Ev} {pos : Pos}
theorem v_neg (ha : PEv X c W a f) : PEv X c W (.UnaryOp .USub a pos) (unE negS f) := by
  refine ⟨pe_mono (pe_un un_neg ha.pe) ?_⟩
  rintro σ H Q ⟨B, tp, env, ta, RS, h⟩
  refine tE_bind RS h fun x t1 v H1 R1 K1 V1 h1 => ?_
  unfold negS at h1
  split at h1
  · exact ⟨_, V1.int, EPost.val R1 (h1.later K1) (Rep.int _)⟩
  · exact h1.elim
end

/-! ### tests -/
abbrev Tv := SE → TapeO → Option (Except Str Bool × TapeO)
def truthS : Sl → Option Bool
  | .val .non => some false
  | .val (.bl b) => some b
  | .val (.int i) => some (i != 0)
  | .val (.str x) => if x.length ≤ LIM then some ((x.length : Int) != 0) else none
  | .val (.tup ds) => some (!ds.isEmpty)
  | .val (.lst ds) => some (!ds.isEmpty)
  | .own ds => some (!ds.isEmpty)
  | .bor ds => some (!ds.isEmpty)
  | _ => none
def ofE (f : Ev) : Tv := fun env ta => match f env ta with
  | none => none
  | some (.error x, t) => some (.error x, t)
  | some (.ok r, t) => (truthS r).map fun b => (.ok b, t)
def TPost (K : PySem.W.Frag) (c : Ct) (W : WX) (B : Hp) (tp : Option Addr) (σ : L2.St) (H : Hp) (env : SE) (r : Option (Except Str Bool × TapeO)) (Q : Bool → Hp → Prop) : Prop :=
  match r with
  | none => False
  | some (.ok b, ta') => ∀ H', RepS K c B tp σ H' env ta' → Kp c tp H H' → Q b H'
  | some (.error x, ta') => ∀ cls d H', RepS K c B tp σ H' env ta' → Kp c tp H H' → ErrIs c H' cls d x → W cls d σ H'
def tTt (K : PySem.W.Frag) (c : Ct) (W : WX) (f : Tv) : TT := fun σ H Q => ∃ B tp env ta, RepS K c B tp σ H env ta ∧ TPost K c W B tp σ H env (f env ta) Q
structure PTv (X : Cx) (c : Ct) (W : WX) (e : Expr) (f : Tv) : Prop where
  pt : PT X e (tTt X.K c W f)
structure PWv (X : Cx) (c : Ct) (W : WX) (e : Expr) (f : Tv) : Prop where
  pw : PW X e (tTt X.K c W f)
def bindT (f : Tv) (k : Bool → Tv) : Tv := fun env ta => match f env ta with
  | none => none
  | some (.error x, t) => some (.error x, t)
  | some (.ok r, t) => k r env t
section
variable {K : PySem.W.Frag} {c : Ct} {W : WX} {B : Hp} {tp : Option Addr} {σ : L2.St} {H : Hp} {env : SE} {ta : TapeO} {Q : Bool → Hp → Prop}
theorem TPost.later {H1 : Hp} {r : Option (Except Str Bool × TapeO)} (h : TPost K c W B tp σ H env r Q) (k1 : Kp c tp H H1) : TPost K c W B tp σ H1 env r Q := by
  cases r with
  | none => exact h
  | some p =>
    obtain ⟨r, t⟩ := p
    cases r with
    | error x => exact fun cls d H' R' K' e => h cls d H' R' (k1.trans K') e
    | ok r => exact fun H' R' K' => h H' R' (k1.trans K')
theorem tT_bind {f : Tv} {k : Bool → Tv} {R : Bool → Hp → Prop} (RS : RepS K c B tp σ H env ta) (h : TPost K c W B tp σ H env (bindT f k env ta) Q)
    (go : ∀ b t H1, RepS K c B tp σ H1 env t → Kp c tp H H1 → TPost K c W B tp σ H env (k b env t) Q → R b H1) : tTt K c W f σ H R := by
  refine ⟨B, tp, env, ta, RS, ?_⟩
  unfold bindT at h
  cases e : f env ta with
  | none => rw [e] at h; exact h
  | some p =>
    obtain ⟨r, t⟩ := p
    rw [e] at h
    cases r with
    | error x => exact h
    | ok r => exact fun H1 R1 K1 => go r t H1 R1 K1 h
theorem TPost.val {b : Bool} {t : TapeO} (RS : RepS K c B tp σ H env t) (h : TPost K c W B tp σ H env (some (.ok b, t)) Q) : Q b H := h H RS (.refl _ _ _)
theorem RepV.truth {H0 : Hp} {v : V} {x : Sl} {b : Bool} (h : RepV K c tp H0 H v x) (e : truthS x = some b) : TruV K v H b := by
  unfold truthS at e
  split at e
  · cases e; cases (show Rep K H v .non from h); rfl
  · cases e; rw [h.bl]; rfl
  · cases e; rw [h.int]; rfl
  · split at e
    · rename_i hl
      cases e; rw [h.str]; exact ⟨lim_line hl, rfl⟩
    · cases e
  · rename_i ds
    cases e
    obtain ⟨a, xs, rfl, h1, r⟩ := h.tup
    exact .inr (.inl ⟨xs, h1, by cases r <;> rfl⟩)
  · cases e
    obtain ⟨a, xs, rfl, h1, r⟩ := h.list rfl
    exact .inl ⟨xs, h1, by cases r <;> rfl⟩
  · cases e
    obtain ⟨a, xs, rfl, h1, r⟩ := h.list rfl
    exact .inl ⟨xs, h1, by cases r <;> rfl⟩
  · cases e
    obtain ⟨a, xs, rfl, h1, r⟩ := h.list rfl
    exact .inl ⟨xs, h1, by cases r <;> rfl⟩
  · cases e
end
def notT (f : Tv) : Tv := bindT f fun b => fun _ t => some (.ok (!b), t)
def andT (f g : Tv) : Tv := bindT f fun b => if b = true then g else fun _ t => some (.ok false, t)
def orT (f g : Tv) : Tv := bindT f fun b => if b = true then fun _ t => some (.ok true, t) else g
section
variable {X : Cx} {c : Ct} {W : WX} {a b : Expr} {es : List Expr} {f g : Ev} {t u : Tv} {pos : Pos}
/-- the truth of a value -/
theorem t_val (ha : PEv X c W a f) (he : ∀ whole, isTrue a X.env whole = (do let v ← whole; standAt a.pos; holding [v] (truthy v)) := by exact fun _ => rfl) : PTv X c W a (ofE f) := by
  refine ⟨pt_mono (pt_truth ha.pe he) ?_⟩
  rintro σ H Q ⟨B, tp, env, ta, RS, h⟩
  refine ⟨B, tp, env, ta, RS, ?_⟩
  unfold ofE at h
  cases e : f env ta with
  | none => rw [e] at h; exact h
  | some p =>
    obtain ⟨r, t⟩ := p
    rw [e] at h
    cases r with
    | error x => exact h
    | ok r =>
      dsimp only at h
      intro v H1 R1 K1 V1
      cases e2 : truthS r with
      | none => rw [e2] at h; exact h.elim
      | some b => rw [e2] at h; exact ⟨b, V1.truth e2, h H1 R1 K1⟩
/-- a comparison as a test; its value is a bool -/
theorem t_cmp {op : CmpOp} {r : R2} {o : Sl → Sl → Option Sl} (hr : OpR X (compareOp op) r) (ho : OpOk X.K c r o) (hb2 : ∀ x y z, o x y = some z → ∃ b, z = .val (.bl b)) (ha : PEv X c W a f) (hb : PEv X c W b g) (hm : behindInMarks op b = false := by rfl) :
    PTv X c W (.Compare a [op] [b] pos) (ofE (binE o f g)) := by
  refine ⟨pt_mono (pt_cmpR hr ha.pe hb.pe hm) ?_⟩
  rintro σ H Q ⟨B, tp, env, ta, RS, h⟩
  refine bin_of ho σ H _ ⟨B, tp, env, ta, RS, ?_⟩
  unfold ofE at h
  cases e : binE o f g env ta with
  | none => rw [e] at h; exact h
  | some p =>
    obtain ⟨r, t⟩ := p
    rw [e] at h
    cases r with
    | error x => exact h
    | ok r =>
      intro v H1 R1 K1 V1
      obtain ⟨b, rfl⟩ : ∃ b, r = .val (.bl b) := by
        unfold binE bindE at e
        split at e
        · cases e
        · cases e
        · dsimp only at e
          split at e
          · cases e
          · cases e
          · rename_i y _ _
            cases q : o _ y with
            | none => rw [q] at e; cases e
            | some z => rw [q] at e; cases e; exact hb2 _ _ _ q
      exact ⟨b, V1.bl, h H1 R1 K1⟩
theorem t_not (ha : PTv X c W a t) : PTv X c W (.UnaryOp .Not a pos) (notT t) := by
  refine ⟨pt_mono (L2.pt_not ha.pt) ?_⟩
  rintro σ H Q ⟨B, tp, env, ta, RS, h⟩
  exact tT_bind RS h fun b t1 H1 R1 K1 h1 => TPost.val R1 (h1.later K1)
theorem w_and1 (ha : PTv X c W a t) : PWv X c W (.BoolOp .And [a] pos) t := ⟨pw_and1 ha.pt⟩
theorem w_or1 (ha : PTv X c W a t) : PWv X c W (.BoolOp .Or [a] pos) t := ⟨pw_or1 ha.pt⟩
theorem w_and (ha : PTv X c W a t) (hb : PWv X c W (.BoolOp .And (b :: es) pos) u) : PWv X c W (.BoolOp .And (a :: b :: es) pos) (andT t u) := by
  refine ⟨pw_mono (pw_and ha.pt hb.pw) ?_⟩
  rintro σ H Q ⟨B, tp, env, ta, RS, h⟩
  refine tT_bind RS h fun b t1 H1 R1 K1 h1 => ?_
  cases b with
  | true => exact ⟨B, tp, env, t1, R1, h1.later K1⟩
  | false => exact TPost.val R1 (h1.later K1)
theorem w_or (ha : PTv X c W a t) (hb : PWv X c W (.BoolOp .Or (b :: es) pos) u) : PWv X c W (.BoolOp .Or (a :: b :: es) pos) (orT t u) := by
  refine ⟨pw_mono (pw_or ha.pt hb.pw) ?_⟩
  rintro σ H Q ⟨B, tp, env, ta, RS, h⟩
  refine tT_bind RS h fun b t1 H1 R1 K1 h1 => ?_
  cases b with
  | true => exact TPost.val R1 (h1.later K1)
  | false => exact ⟨B, tp, env, t1, R1, h1.later K1⟩
theorem t_w (h : PWv X c W a t) : PTv X c W a t := ⟨h.pw.pt⟩
end
/-- a < b < c -/
def chainE (o o' : Sl → Sl → Option Sl) (f g h : Ev) : Ev := bindE f fun x => bindE g fun y => fun env ta => match o x y with
  | some (.val (.bl true)) => bindE h (fun z => fun _ t => (o' y z).map fun w => (.ok w, t)) env ta
  | some (.val (.bl false)) => some (.ok (.val (.bl false)), ta)
  | _ => none
section
variable {X : Cx} {c : Ct} {W : WX} {a b d : Expr} {f g h : Ev} {pos : Pos}
theorem chain_of {K : PySem.W.Frag} {r r' : R2} {o o' : Sl → Sl → Option Sl} (ho : OpOk K c r o) (ho' : OpOk K c r' o') : ∀ σ H Q, tE K c W (chainE o o' f g h) σ H Q → tChain r r' (tE K c W f) (tE K c W g) (tE K c W h) σ H Q := by
  rintro σ H Q ⟨B, tp, env, ta, RS, hh⟩
  refine tE_bind RS hh fun x t1 v H1 R1 K1 V1 h1 => ?_
  refine tE_bind R1 (h1.later K1) fun y t2 u H2 R2 K2 V2 h2 => ?_
  cases e : o x y with
  | none => rw [e] at h2; exact h2.elim
  | some z =>
    rw [e] at h2
    refine ho tp H H1 H2 v u x y z _ (fun a => R2.vol) (V1.kp K2) V2 e fun w H3 s V => ?_
    split at h2
    · rename_i q
      cases q
      refine ⟨true, V.bl, ?_⟩
      rw [if_pos rfl]
      have K3 : Kp c tp H1 H3 := K2.trans (.same s)
      refine tE_bind (R2.grow s) (h2.later K3) fun z' t4 u4 H4 R4 K4 V4 h4 => ?_
      cases e' : o' y z' with
      | none => rw [e'] at h4; exact h4.elim
      | some z2 =>
        rw [e'] at h4
        exact ho' tp H1 H3 H4 u u4 y z' z2 Q (fun a => R4.vol) ((V2.kp (.same s)).kp K4) V4 e' fun w H5 s V => EPost.same R4 (h4.later K4) s V
    · rename_i q
      cases q
      refine ⟨false, V.bl, ?_⟩
      rw [if_neg Bool.false_ne_true]
      exact EPost.val (R2.grow s) (h2.later (K2.trans (.same s))) (Rep.bl _)
    · exact h2.elim
theorem v_chain {op op' : CmpOp} {r r' : R2} {o o' : Sl → Sl → Option Sl} (hr : OpR X (compareOp op) r) (hr' : OpR X (compareOp op') r') (ho : OpOk X.K c r o) (ho' : OpOk X.K c r' o') (ha : PEv X c W a f) (hb : PEv X c W b g) (hd : PEv X c W d h)
    (hm : lastMarks [op, op'] [b, d] = false := by with_unfolding_all rfl) : PEv X c W (.Compare a [op, op'] [b, d] pos) (chainE o o' f g h) := ⟨pe_mono (pe_chain hr hr' ha.pe hb.pe hd.pe hm) (chain_of ho ho')⟩
theorem chain_bl {o o' : Sl → Sl → Option Sl} (hb : ∀ x y z, o' x y = some z → ∃ b, z = .val (.bl b)) {env : SE} {ta t : TapeO} {r : Sl} (e : chainE o o' f g h env ta = some (.ok r, t)) : ∃ b, r = .val (.bl b) := by
  unfold chainE bindE at e
  split at e
  · cases e
  · cases e
  · dsimp only at e
    split at e
    · cases e
    · cases e
    · split at e
      · split at e
        · cases e
        · cases e
        · rename_i z _ _
          cases q : o' _ z with
          | none => rw [q] at e; cases e
          | some z => rw [q] at e; cases e; exact hb _ _ _ q
      · cases e; exact ⟨false, rfl⟩
      · cases e
theorem t_chain {op op' : CmpOp} {r r' : R2} {o o' : Sl → Sl → Option Sl} (hr : OpR X (compareOp op) r) (hr' : OpR X (compareOp op') r') (ho : OpOk X.K c r o) (ho' : OpOk X.K c r' o') (hb2 : ∀ x y z, o' x y = some z → ∃ b, z = .val (.bl b))
    (ha : PEv X c W a f) (hb : PEv X c W b g) (hd : PEv X c W d h) (hm : lastMarks [op, op'] [b, d] = false := by with_unfolding_all rfl) : PTv X c W (.Compare a [op, op'] [b, d] pos) (ofE (chainE o o' f g h)) := by
  refine ⟨pt_mono (pt_chain hr hr' ha.pe hb.pe hd.pe hm) ?_⟩
  rintro σ H Q ⟨B, tp, env, ta, RS, hh⟩
  refine chain_of ho ho' σ H _ ⟨B, tp, env, ta, RS, ?_⟩
  unfold ofE at hh
  cases e : chainE o o' f g h env ta with
  | none => rw [e] at hh; exact hh
  | some p =>
    obtain ⟨r, t⟩ := p
    rw [e] at hh
    cases r with
    | error x => exact hh
    | ok r =>
      intro v H1 R1 K1 V1
      obtain ⟨b, rfl⟩ := chain_bl hb2 e
      exact ⟨b, V1.bl, hh H1 R1 K1⟩
end
/-- bools out -/
theorem opI_bl {C : Int → Int → Bool} {g : Int → Int → Bool} : ∀ x y z, opI C (fun i j => .bl (g i j)) x y = some z → ∃ b, z = .val (.bl b) := by
  intro x y z e
  unfold opI at e
  split at e
  · split at e
    · cases e; exact ⟨_, rfl⟩
    · cases e
  · cases e
theorem map_bl {o : Option Bool} {k : Bool → Bool} {z : Sl} (e : (o.map fun b => Sl.val (.bl (k b))) = some z) : ∃ b, z = .val (.bl b) := by
  cases o with
  | none => cases e
  | some b => cases e; exact ⟨_, rfl⟩
theorem bl_lt : ∀ x y z, ltS x y = some z → ∃ b, z = .val (.bl b) := opI_bl
theorem bl_le : ∀ x y z, leS x y = some z → ∃ b, z = .val (.bl b) := opI_bl
theorem bl_gt : ∀ x y z, gtS x y = some z → ∃ b, z = .val (.bl b) := opI_bl
theorem bl_ge : ∀ x y z, geS x y = some z → ∃ b, z = .val (.bl b) := opI_bl
theorem bl_eq : ∀ x y z, eqS x y = some z → ∃ b, z = .val (.bl b) := fun _ _ _ e => map_bl (k := id) e
theorem bl_ne : ∀ x y z, neS x y = some z → ∃ b, z = .val (.bl b) := fun _ _ _ e => map_bl (k := Bool.not) e
theorem bl_in : ∀ x y z, inS x y = some z → ∃ b, z = .val (.bl b) := fun _ _ _ e => map_bl (k := id) e
theorem bl_nin : ∀ x y z, ninS x y = some z → ∃ b, z = .val (.bl b) := fun _ _ _ e => map_bl (k := Bool.not) e
theorem bl_is : ∀ x y z, isS x y = some z → ∃ b, z = .val (.bl b) := fun x y z e => by
  unfold isS at e
  split at e
  · exact map_bl (k := id) e
  · cases e
theorem bl_isnt : ∀ x y z, isntS x y = some z → ∃ b, z = .val (.bl b) := fun x y z e => by
  unfold isntS at e
  split at e
  · exact map_bl (k := Bool.not) e
  · cases e
/-! ### and, or, not as values; a if t else b -/
def andE (f g : Ev) : Ev := bindE f fun x => match x with
  | .val (.bl true) => g
  | .val (.bl false) => fun _ t => some (.ok (.val (.bl false)), t)
  | _ => fun _ _ => none
def orE (f g : Ev) : Ev := bindE f fun x => match x with
  | .val (.bl true) => fun _ t => some (.ok (.val (.bl true)), t)
  | .val (.bl false) => g
  | _ => fun _ _ => none
def notE (f : Ev) : Ev := bindE f fun x => match x with
  | .val (.bl b) => fun _ t => some (.ok (.val (.bl (!b))), t)
  | _ => fun _ _ => none
def ifE (t : Tv) (f g : Ev) : Ev := fun env ta => match t env ta with
  | none => none
  | some (.error x, ta') => some (.error x, ta')
  | some (.ok true, ta') => f env ta'
  | some (.ok false, ta') => g env ta'
section
variable {X : Cx} {c : Ct} {W : WX} {a b d : Expr} {es : List Expr} {f g : Ev} {t : Tv} {pos : Pos}
theorem v_one {op} (h : PEv X c W a f) : PEv X c W (.BoolOp op [a] pos) f := ⟨pe_one h.pe⟩
theorem v_and (ha : PEv X c W a f) (hb : PEv X c W (.BoolOp .And (b :: es) pos) g) : PEv X c W (.BoolOp .And (a :: b :: es) pos) (andE f g) := by
  refine ⟨pe_mono (pe_and ha.pe hb.pe) ?_⟩
  rintro σ H Q ⟨B, tp, env, ta, RS, h⟩
  refine tE_bind RS h fun x t1 v H1 R1 K1 V1 h1 => ?_
  split at h1
  · exact ⟨true, V1.bl, by rw [if_pos rfl]; exact ⟨B, tp, env, t1, R1, h1.later K1⟩⟩
  · exact ⟨false, V1.bl, by rw [if_neg Bool.false_ne_true]; exact EPost.val R1 (h1.later K1) (Rep.bl _)⟩
  · exact h1.elim
theorem v_or (ha : PEv X c W a f) (hb : PEv X c W (.BoolOp .Or (b :: es) pos) g) : PEv X c W (.BoolOp .Or (a :: b :: es) pos) (orE f g) := by
  refine ⟨pe_mono (pe_or ha.pe hb.pe) ?_⟩
  rintro σ H Q ⟨B, tp, env, ta, RS, h⟩
  refine tE_bind RS h fun x t1 v H1 R1 K1 V1 h1 => ?_
  split at h1
  · exact ⟨true, V1.bl, by rw [if_pos rfl]; exact EPost.val R1 (h1.later K1) (Rep.bl _)⟩
  · exact ⟨false, V1.bl, by rw [if_neg Bool.false_ne_true]; exact ⟨B, tp, env, t1, R1, h1.later K1⟩⟩
  · exact h1.elim
theorem v_not (ha : PEv X c W a f) : PEv X c W (.UnaryOp .Not a pos) (notE f) := by
  refine ⟨pe_mono (pe_not ha.pe) ?_⟩
  rintro σ H Q ⟨B, tp, env, ta, RS, h⟩
  refine tE_bind RS h fun x t1 v H1 R1 K1 V1 h1 => ?_
  split at h1
  · exact ⟨_, V1.bl, EPost.val R1 (h1.later K1) (Rep.bl _)⟩
  · exact h1.elim
theorem v_ifE (ht : PTv X c W d t) (ha : PEv X c W a f) (hb : PEv X c W b g) : PEv X c W (.IfExp d a b pos) (ifE t f g) := by
  refine ⟨pe_mono (pe_ifExp ht.pt ha.pe hb.pe) ?_⟩
  rintro σ H Q ⟨B, tp, env, ta, RS, h⟩
  refine ⟨B, tp, env, ta, RS, ?_⟩
  unfold ifE at h
  cases e : t env ta with
  | none => rw [e] at h; exact h
  | some p =>
    obtain ⟨r, t'⟩ := p
    rw [e] at h
    cases r with
    | error x => exact h
    | ok b =>
      intro H1 R1 K1
      cases b with
      | true => rw [if_pos rfl]; exact ⟨B, tp, env, t', R1, h.later K1⟩
      | false => rw [if_neg Bool.false_ne_true]; exact ⟨B, tp, env, t', R1, h.later K1⟩
end

/-! ### arguments -/
def evs : List Ev → SE → TapeO → Option (Except Str (List Sl) × TapeO)
  | [], _, ta => some (.ok [], ta)
  | f :: fs, env, ta => match f env ta with
    | none => none
    | some (.error x, t) => some (.error x, t)
    | some (.ok r, t) => match evs fs env t with
      | none => none
      | some (.error x, t) => some (.error x, t)
      | some (.ok rs, t) => some (.ok (r :: rs), t)
theorem evs_length : ∀ {fs : List Ev} {env : SE} {ta t : TapeO} {rs : List Sl}, evs fs env ta = some (.ok rs, t) → rs.length = fs.length
  | [], _, _, _, _, e => by cases e; rfl
  | f :: fs, env, ta, t, rs, e => by
    unfold evs at e
    split at e
    · cases e
    · cases e
    · split at e
      · cases e
      · cases e
      · rename_i q
        cases e
        simp [evs_length q]
inductive RepVs (K : PySem.W.Frag) (c : Ct) (tp : Option Addr) (H0 H : Hp) : List V → List Sl → Prop
  | nil : RepVs K c tp H0 H [] []
  | cons {v : V} {vs : List V} {x : Sl} {xs : List Sl} : RepV K c tp H0 H v x → RepVs K c tp H0 H vs xs → RepVs K c tp H0 H (v :: vs) (x :: xs)
section
variable {K : PySem.W.Frag} {c : Ct} {tp : Option Addr} {H0 H H1 H2 : Hp}
theorem RepVs.length : ∀ {vs : List V} {xs : List Sl}, RepVs K c tp H0 H vs xs → vs.length = xs.length
  | _, _, .nil => rfl
  | _, _, .cons _ t => by simp [t.length]
theorem RepVs.kp (k : Kp c tp H H1) : ∀ {vs : List V} {xs : List Sl}, RepVs K c tp H0 H vs xs → RepVs K c tp H0 H1 vs xs
  | _, _, .nil => .nil
  | _, _, .cons r t => .cons (r.kp k) (t.kp k)
theorem RepVs.back (k : Kp c tp H H1) : ∀ {vs : List V} {xs : List Sl}, RepVs K c tp H1 H2 vs xs → RepVs K c tp H H2 vs xs
  | _, _, .nil => .nil
  | _, _, .cons r t => .cons (r.back k) (t.back k)
end
def APost (K : PySem.W.Frag) (c : Ct) (W : WX) (B : Hp) (tp : Option Addr) (σ : L2.St) (H : Hp) (env : SE) (r : Option (Except Str (List Sl) × TapeO)) (Q : List V → Hp → Prop) : Prop :=
  match r with
  | none => False
  | some (.ok xs, ta') => ∀ vs H', RepS K c B tp σ H' env ta' → Kp c tp H H' → RepVs K c tp H H' vs xs → Q vs H'
  | some (.error x, ta') => ∀ cls d H', RepS K c B tp σ H' env ta' → Kp c tp H H' → ErrIs c H' cls d x → W cls d σ H'
def tAs (K : PySem.W.Frag) (c : Ct) (W : WX) (fs : List Ev) : TA := fun σ H Q => ∃ B tp env ta, RepS K c B tp σ H env ta ∧ APost K c W B tp σ H env (evs fs env ta) Q
structure PAv (X : Cx) (c : Ct) (W : WX) (es : List Expr) (fs : List Ev) : Prop where
  pa : PA X es (tAs X.K c W fs)
section
variable {X : Cx} {c : Ct} {W : WX} {e : Expr} {es : List Expr} {f : Ev} {fs : List Ev}
theorem a_nil : PAv X c W [] [] := by
  refine ⟨pa_mono L2.pa_nil ?_⟩
  rintro σ H Q ⟨B, tp, env, ta, RS, h⟩
  exact h [] H RS (.refl _ _ _) .nil
theorem a_cons (he : PEv X c W e f) (hs : PAv X c W es fs) (hst : starEach (e :: es) X.env = (false, eval e X.env) :: starEach es X.env := by rfl) : PAv X c W (e :: es) (f :: fs) := by
  refine ⟨pa_mono (L2.pa_cons he.pe hs.pa hst) ?_⟩
  rintro σ H Q ⟨B, tp, env, ta, RS, h⟩
  refine ⟨B, tp, env, ta, RS, ?_⟩
  unfold evs at h
  cases q : f env ta with
  | none => rw [q] at h; exact h
  | some p =>
    obtain ⟨r, t⟩ := p
    rw [q] at h
    cases r with
    | error x => exact h
    | ok r =>
      intro v H1 R1 K1 V1
      refine ⟨B, tp, env, t, R1, ?_⟩
      simp only at h
      cases q2 : evs fs env t with
      | none => rw [q2] at h; exact h
      | some p =>
        obtain ⟨rs, t'⟩ := p
        rw [q2] at h
        cases rs with
        | error x => exact fun cls d H' R' K' er => h cls d H' R' (K1.trans K') er
        | ok rs => exact fun vs H' R' K' VS => h (v :: vs) H' R' (K1.trans K') (.cons (V1.kp K') (VS.back K1))
end

/-! ### calls of built-ins -/
def callE (op : List Sl → Option Sl) (fs : List Ev) : Ev := fun env ta => match evs fs env ta with
  | none => none
  | some (.error x, t) => some (.error x, t)
  | some (.ok rs, t) => (op rs).map fun z => (.ok z, t)
def CallOk (K : PySem.W.Frag) (c : Ct) (r : List V → Hp → VK → Prop) (op : List Sl → Option Sl) : Prop :=
  ∀ (tp : Option Addr) (H0 H : Hp) (vs : List V) (xs : List Sl) (z : Sl) (Q : VK), (∀ a, H a = none → ¬ Vol c tp a) → RepVs K c tp H0 H vs xs → op xs = some z →
    (∀ w H', Same H H' → RepV K c tp H H' w z → Q w H') → r vs H Q
theorem call_of {K : PySem.W.Frag} {c : Ct} {W : WX} {r : List V → Hp → VK → Prop} {op : List Sl → Option Sl} {fs : List Ev} (ho : CallOk K c r op) : ∀ σ H Q, tE K c W (callE op fs) σ H Q → tCB r (tAs K c W fs) σ H Q := by
  rintro σ H Q ⟨B, tp, env, ta, RS, h⟩
  refine ⟨B, tp, env, ta, RS, ?_⟩
  unfold callE at h
  cases q : evs fs env ta with
  | none => rw [q] at h; exact h
  | some p =>
    obtain ⟨rs, t⟩ := p
    rw [q] at h
    cases rs with
    | error x => exact h
    | ok rs =>
      dsimp only at h
      intro vs H1 R1 K1 VS
      cases e : op rs with
      | none => rw [e] at h; exact h.elim
      | some z =>
        rw [e] at h
        exact ho tp H H1 vs rs z Q (fun a => R1.vol) VS e fun w H' s V => EPost.same R1 (h.later K1) s V
section
variable {X : Cx} {c : Ct} {W : WX} {x : Str} {p pos : Pos} {e : Expr} {es : List Expr} {fs : List Ev} {id T : String} {r : List V → Hp → VK → Prop} {op : List Sl → Option Sl}
theorem v_callB (hc : CallR X (.builtin id) r) (ho : CallOk X.K c r op) (hm : X.mg x = none) (ha : PAv X c W (e :: es) fs) (hv : bootBuiltins x = some (.builtin id) := by decide +kernel) (hg : Gl X x := by rfl) (hn : x ≠ "__name__" := by decide) (hdb : (x == ("__debug__" : Str)) = false := by decide)
    (he : starEach (e :: es) X.env = (false, eval e X.env) :: starEach es X.env := by rfl) (hpl : (backTo pos (starEach es X.env)).any (·.1) = false := by rfl) : PEv X c W (.Call (.Name x p) (e :: es) [] pos) (callE op fs) :=
  ⟨pe_mono (pe_callB hc hg hm hv ha.pa hn hdb he hpl) (call_of ho)⟩
theorem v_callTy (hc : CallR X (.type T) r) (ho : CallOk X.K c r op) (hm : X.mg x = none) (ha : PAv X c W (e :: es) fs) (hv : bootBuiltins x = some (.type T) := by decide +kernel) (hg : Gl X x := by rfl) (hn : x ≠ "__name__" := by decide) (hdb : (x == ("__debug__" : Str)) = false := by decide)
    (he : starEach (e :: es) X.env = (false, eval e X.env) :: starEach es X.env := by rfl) (hpl : (backTo pos (starEach es X.env)).any (·.1) = false := by rfl) : PEv X c W (.Call (.Name x p) (e :: es) [] pos) (callE op fs) :=
  ⟨pe_mono (pe_callTy hc hg hm hv ha.pa hn hdb he hpl) (call_of ho)⟩
end
def lenS : List Sl → Option Sl
  | [x] => match x.seq? with
    | some ds => some (.val (.int ds.length))
    | none => none
  | _ => none
def absS : List Sl → Option Sl
  | [.val (.int i)] => some (.val (.int (if i < 0 then -i else i)))
  | _ => none
def intS : List Sl → Option Sl
  | [.val (.int i)] => some (.val (.int i))
  | [.val (.bl b)] => some (.val (.int (if b then 1 else 0)))
  | _ => none
def min2S : List Sl → Option Sl
  | [.val (.int i), .val (.int j)] => some (.val (.int (if j < i then j else i)))
  | _ => none
def max2S : List Sl → Option Sl
  | [.val (.int i), .val (.int j)] => some (.val (.int (if j > i then j else i)))
  | _ => none
/-- tuple(x) -/
def tupleS : List Sl → Option Sl
  | [.val (.tup ds)] => some (.val (.tup ds))
  | [x] => match x.items? with
    | some ds => some (.val (.tup ds))
    | none => none
  | _ => none
/-- list(x) -/
def listS : List Sl → Option Sl
  | [x] => match x.seq? with
    | some ds => some (.own ds)
    | none => none
  | _ => none
def D.int? : D → Option Int
  | .int i => some i
  | _ => none
def D.bl? : D → Option Bool
  | .bl i => some i
  | _ => none
def ints? (ds : List D) : Option (List Int) := ds.mapM D.int?
def bls? (ds : List D) : Option (List Bool) := ds.mapM D.bl?
theorem ints?_eq : ∀ {ds : List D} {ns : List Int}, ints? ds = some ns → ds = ns.map D.int
  | [], ns, e => by simp [ints?] at e; subst e; rfl
  | d :: ds, ns, e => by
    unfold ints? at e
    rw [List.mapM_cons] at e
    cases d with
    | int i =>
      simp only [D.int?, bind, Option.bind, pure] at e
      split at e
      · cases e
      · rename_i ms q
        cases e
        rw [List.map_cons, ← ints?_eq (ds := ds) q]
    | _ => simp [D.int?, bind, Option.bind] at e
theorem bls?_eq : ∀ {ds : List D} {ns : List Bool}, bls? ds = some ns → ds = ns.map D.bl
  | [], ns, e => by simp [bls?] at e; subst e; rfl
  | d :: ds, ns, e => by
    unfold bls? at e
    rw [List.mapM_cons] at e
    cases d with
    | bl i =>
      simp only [D.bl?, bind, Option.bind, pure] at e
      split at e
      · cases e
      · rename_i ms q
        cases e
        rw [List.map_cons, ← bls?_eq (ds := ds) q]
    | _ => simp [D.bl?, bind, Option.bind] at e
theorem ints?_map : ∀ ns : List Int, ints? (ns.map D.int) = some ns
  | [] => rfl
  | n :: r => by
    show (n :: r |>.map D.int).mapM D.int? = _
    rw [List.map_cons, List.mapM_cons]
    have := ints?_map r
    unfold ints? at this
    rw [this]
    rfl
theorem bls?_map : ∀ ns : List Bool, bls? (ns.map D.bl) = some ns
  | [] => rfl
  | n :: r => by
    show (n :: r |>.map D.bl).mapM D.bl? = _
    rw [List.map_cons, List.mapM_cons]
    have := bls?_map r
    unfold bls? at this
    rw [this]
    rfl
/-- any(..), all(..) of a list of bools; sum, max, min, sorted of a list of ints -/
def onBls (g : List Bool → Option Sl) : List Sl → Option Sl
  | [x] => (x.items?.bind bls?).bind g
  | _ => none
def onInts (g : List Int → Option Sl) : List Sl → Option Sl
  | [x] => (x.items?.bind ints?).bind g
  | _ => none
def anyS : List Sl → Option Sl := onBls fun bs => some (.val (.bl (bs.any id)))
def allS : List Sl → Option Sl := onBls fun bs => some (.val (.bl (bs.all id)))
def sumS : List Sl → Option Sl := onInts fun ns => some (.val (.int ns.sum))
def maxL : List Int → Int
  | [] => 0
  | n :: r => r.foldl max n
def minL : List Int → Int
  | [] => 0
  | n :: r => r.foldl min n
def maxS : List Sl → Option Sl := onInts fun ns => if ns = [] then none else some (.val (.int (maxL ns)))
def minS : List Sl → Option Sl := onInts fun ns => if ns = [] then none else some (.val (.int (minL ns)))
def sortI (ns : List Int) : List Int := ns.mergeSort (fun a b => decide (a ≤ b))
def sortedS : List Sl → Option Sl := onInts fun ns => some (.own ((sortI ns).map D.int))
end MP

/-! MPd: the rules of the built-ins; displays; freezing; calls of the text's own defs. -/
namespace MP
open PySem PySem.Spec PyProof.Rows L2
section
variable {K : PySem.W.Frag} {c : Ct}
theorem co_len : CallOk K c (fun xs H Q => ∃ p ys, xs = [.ref p] ∧ (SqL K H p ys ∨ SqT K H p ys) ∧ Q (.int ys.length) H) lenS := by
  intro tp H0 H vs xs z Q nv hv e k
  unfold lenS at e
  split at e
  · rename_i x
    cases hv with
    | cons h1 h2 =>
      cases h2
      split at e
      · rename_i ds es
        cases e
        obtain ⟨a, ys, rfl, hs, r⟩ := h1.seq es
        exact ⟨a, ys, rfl, hs, k _ H (Same.refl H) (by rw [r.length]; exact Rep.int _)⟩
      · cases e
  · cases e
theorem co_abs : CallOk K c (fun xs H Q => ∃ i, xs = [.int i] ∧ Q (.int (if i < 0 then -i else i)) H) absS := by
  intro tp H0 H vs xs z Q nv hv e k
  unfold absS at e
  split at e
  · cases hv with
    | cons h1 h2 =>
      cases h2
      cases e
      rw [h1.int]
      exact ⟨_, rfl, k _ H (Same.refl H) (Rep.int _)⟩
  · cases e
theorem co_int : CallOk K c (fun xs H Q => (∃ i, xs = [.int i] ∧ Q (.int i) H) ∨ ∃ k, xs = [.bl k] ∧ Q (.int (if k then 1 else 0)) H) intS := by
  intro tp H0 H vs xs z Q nv hv e k
  unfold intS at e
  split at e
  · cases hv with
    | cons h1 h2 =>
      cases h2
      cases e
      rw [h1.int]
      exact .inl ⟨_, rfl, k _ H (Same.refl H) (Rep.int _)⟩
  · cases hv with
    | cons h1 h2 =>
      cases h2
      cases e
      rw [h1.bl]
      exact .inr ⟨_, rfl, k _ H (Same.refl H) (Rep.int _)⟩
  · cases e
theorem co_min2 : CallOk K c (fun xs H Q => ∃ i j, xs = [.int i, .int j] ∧ Q (.int (if j < i then j else i)) H) min2S := by
  intro tp H0 H vs xs z Q nv hv e k
  unfold min2S at e
  split at e
  · cases hv with
    | cons h1 h2 =>
      cases h2 with
      | cons h2 h3 =>
        cases h3
        cases e
        rw [h1.int, h2.int]
        exact ⟨_, _, rfl, k _ H (Same.refl H) (Rep.int _)⟩
  · cases e
theorem co_max2 : CallOk K c (fun xs H Q => ∃ i j, xs = [.int i, .int j] ∧ Q (.int (if j > i then j else i)) H) max2S := by
  intro tp H0 H vs xs z Q nv hv e k
  unfold max2S at e
  split at e
  · cases hv with
    | cons h1 h2 =>
      cases h2 with
      | cons h2 h3 =>
        cases h3
        cases e
        rw [h1.int, h2.int]
        exact ⟨_, _, rfl, k _ H (Same.refl H) (Rep.int _)⟩
  · cases e
def rTupleA (K : PySem.W.Frag) : List V → Hp → VK → Prop := fun xs H Q => ∃ p ys, xs = [.ref p] ∧ ((SqL K H p ys ∧ ∀ l, H l = none → Q (.ref l) (upd H l (.tup ys))) ∨ (SqT K H p ys ∧ Q (.ref p) H))
theorem co_tuple : CallOk K c (rTupleA K) tupleS := by
  intro tp H0 H vs xs z Q nv hv e k
  unfold tupleS at e
  split at e
  · cases hv with
    | cons h1 h2 =>
      cases h2
      cases e
      obtain ⟨a, ys, rfl, hs, r⟩ := h1.tup
      exact ⟨a, ys, rfl, .inr ⟨hs, k _ H (Same.refl H) (Rep.tup hs r)⟩⟩
  · cases hv with
    | cons h1 h2 =>
      cases h2
      split at e
      · rename_i ds es
        cases e
        obtain ⟨a, ys, rfl, hs, r⟩ := h1.list es
        exact ⟨a, ys, rfl, .inl ⟨hs, fun l hl => k _ _ (Same.new hl) (RepV.newT hl r)⟩⟩
      · cases e
  · cases e
theorem co_list : CallOk K c (fun xs H Q => ∃ p ys, xs = [.ref p] ∧ (SqL K H p ys ∨ SqT K H p ys) ∧ ∀ l, H l = none → Q (.ref l) (upd H l (.lst ys))) listS := by
  intro tp H0 H vs xs z Q nv hv e k
  unfold listS at e
  split at e
  · cases hv with
    | cons h1 h2 =>
      cases h2
      split at e
      · rename_i ds es
        cases e
        obtain ⟨a, ys, rfl, hs, r⟩ := h1.seq es
        exact ⟨a, ys, rfl, hs, fun l hl => k _ _ (Same.new hl) (RepV.newL hl (nv l hl) r)⟩
      · cases e
  · cases e
theorem onBls_ok {g : List Bool → Option Sl} {R : List Bool → Hp → VK → Prop} (h : ∀ tp H bs z Q, (∀ a, H a = none → ¬ Vol c tp a) → g bs = some z → (∀ w H', Same H H' → RepV K c tp H H' w z → Q w H') → R bs H Q) :
    CallOk K c (fun vs H Q => ∃ (a : Addr) (bs : List Bool), vs = [V.ref a] ∧ SqL K H a (bs.map V.bl) ∧ R bs H Q) (onBls g) := by
  intro tp H0 H vs xs z Q nv hv e k
  unfold onBls at e
  split at e
  · rename_i x
    cases hv with
    | cons h1 h2 =>
      cases h2
      cases e1 : x.items? with
      | none => rw [e1] at e; cases e
      | some ds =>
        rw [e1] at e
        cases e2 : bls? ds with
        | none => simp only [Option.bind, e2] at e; cases e
        | some bs =>
          simp only [Option.bind, e2] at e
          obtain ⟨a, ys, rfl, hs, r⟩ := h1.list e1
          have ed := bls?_eq e2
          subst ed
          have ey := Reps.blsV bs r
          subst ey
          exact ⟨a, bs, rfl, hs, h tp H bs z Q nv e k⟩
  · cases e
theorem onInts_ok {g : List Int → Option Sl} {R : List Int → Hp → VK → Prop} (h : ∀ tp H bs z Q, (∀ a, H a = none → ¬ Vol c tp a) → g bs = some z → (∀ w H', Same H H' → RepV K c tp H H' w z → Q w H') → R bs H Q) :
    CallOk K c (fun vs H Q => ∃ (a : Addr) (bs : List Int), vs = [V.ref a] ∧ SqL K H a (bs.map V.int) ∧ R bs H Q) (onInts g) := by
  intro tp H0 H vs xs z Q nv hv e k
  unfold onInts at e
  split at e
  · rename_i x
    cases hv with
    | cons h1 h2 =>
      cases h2
      cases e1 : x.items? with
      | none => rw [e1] at e; cases e
      | some ds =>
        rw [e1] at e
        cases e2 : ints? ds with
        | none => simp only [Option.bind, e2] at e; cases e
        | some bs =>
          simp only [Option.bind, e2] at e
          obtain ⟨a, ys, rfl, hs, r⟩ := h1.list e1
          have ed := ints?_eq e2
          subst ed
          have ey := Reps.intsV bs r
          subst ey
          exact ⟨a, bs, rfl, hs, h tp H bs z Q nv e k⟩
  · cases e
theorem co_any : CallOk K c (rAny K) anyS := onBls_ok (R := fun bs H Q => Q (.bl (bs.any id)) H) fun tp H bs z Q nv e k => by cases e; exact k _ H (Same.refl H) (Rep.bl _)
theorem co_all : CallOk K c (rAll K) allS := onBls_ok (R := fun bs H Q => Q (.bl (bs.all id)) H) fun tp H bs z Q nv e k => by cases e; exact k _ H (Same.refl H) (Rep.bl _)
theorem co_sum : CallOk K c (rSum K) sumS := onInts_ok (R := fun bs H Q => Q (.int bs.sum) H) fun tp H bs z Q nv e k => by cases e; exact k _ H (Same.refl H) (Rep.int _)
theorem foldl_max : ∀ (r : List Int) (n : Int), n ≤ r.foldl max n ∧ (∀ y ∈ r, y ≤ r.foldl max n) ∧ (r.foldl max n = n ∨ r.foldl max n ∈ r)
  | [], n => ⟨Int.le_refl _, by simp, .inl rfl⟩
  | m :: r, n => by
    obtain ⟨h1, h2, h3⟩ := foldl_max r (max n m)
    simp only [List.foldl_cons]
    refine ⟨by omega, fun y hy => ?_, ?_⟩
    · rcases List.mem_cons.mp hy with rfl | hy
      · omega
      · exact h2 y hy
    · rcases h3 with h3 | h3
      · rw [h3]
        by_cases q : n ≤ m
        · exact .inr (by rw [Int.max_eq_right q]; exact List.mem_cons_self)
        · exact .inl (Int.max_eq_left (by omega))
      · exact .inr (List.mem_cons_of_mem _ h3)
theorem foldl_min : ∀ (r : List Int) (n : Int), r.foldl min n ≤ n ∧ (∀ y ∈ r, r.foldl min n ≤ y) ∧ (r.foldl min n = n ∨ r.foldl min n ∈ r)
  | [], n => ⟨Int.le_refl _, by simp, .inl rfl⟩
  | m :: r, n => by
    obtain ⟨h1, h2, h3⟩ := foldl_min r (min n m)
    simp only [List.foldl_cons]
    refine ⟨by omega, fun y hy => ?_, ?_⟩
    · rcases List.mem_cons.mp hy with rfl | hy
      · omega
      · exact h2 y hy
    · rcases h3 with h3 | h3
      · rw [h3]
        by_cases q : n ≤ m
        · exact .inl (Int.min_eq_left q)
        · exact .inr (by rw [Int.min_eq_right (by omega)]; exact List.mem_cons_self)
      · exact .inr (List.mem_cons_of_mem _ h3)
theorem maxL_spec {ns : List Int} (h : ns ≠ []) : maxL ns ∈ ns ∧ ∀ y ∈ ns, y ≤ maxL ns := by
  cases ns with
  | nil => exact absurd rfl h
  | cons n r =>
    obtain ⟨h1, h2, h3⟩ := foldl_max r n
    refine ⟨?_, fun y hy => ?_⟩
    · rcases h3 with h3 | h3
      · show r.foldl max n ∈ _
        rw [h3]; exact List.mem_cons_self
      · exact List.mem_cons_of_mem _ h3
    · rcases List.mem_cons.mp hy with rfl | hy
      · exact h1
      · exact h2 y hy
theorem minL_spec {ns : List Int} (h : ns ≠ []) : minL ns ∈ ns ∧ ∀ y ∈ ns, minL ns ≤ y := by
  cases ns with
  | nil => exact absurd rfl h
  | cons n r =>
    obtain ⟨h1, h2, h3⟩ := foldl_min r n
    refine ⟨?_, fun y hy => ?_⟩
    · rcases h3 with h3 | h3
      · show r.foldl min n ∈ _
        rw [h3]; exact List.mem_cons_self
      · exact List.mem_cons_of_mem _ h3
    · rcases List.mem_cons.mp hy with rfl | hy
      · exact h1
      · exact h2 y hy
theorem co_max : CallOk K c (rMax K) maxS := onInts_ok (R := fun ns H Q => 0 < ns.length ∧ ∀ m, m ∈ ns → (∀ y, y ∈ ns → y ≤ m) → Q (.int m) H) fun tp H ns z Q nv e k => by
  split at e
  · cases e
  · rename_i hn
    cases e
    refine ⟨List.length_pos_iff.mpr hn, fun m hm hle => ?_⟩
    obtain ⟨h1, h2⟩ := maxL_spec hn
    have q : m = maxL ns := Int.le_antisymm (h2 m hm) (hle _ h1)
    rw [q]
    exact k _ H (Same.refl H) (Rep.int _)
theorem co_min : CallOk K c (rMin K) minS := onInts_ok (R := fun ns H Q => 0 < ns.length ∧ ∀ m, m ∈ ns → (∀ y, y ∈ ns → m ≤ y) → Q (.int m) H) fun tp H ns z Q nv e k => by
  split at e
  · cases e
  · rename_i hn
    cases e
    refine ⟨List.length_pos_iff.mpr hn, fun m hm hle => ?_⟩
    obtain ⟨h1, h2⟩ := minL_spec hn
    have q : m = minL ns := Int.le_antisymm (hle _ h1) (h2 m hm)
    rw [q]
    exact k _ H (Same.refl H) (Rep.int _)
theorem sorted_uniq : ∀ {xs ys : List Int}, xs.Perm ys → xs.Pairwise (· ≤ ·) → ys.Pairwise (· ≤ ·) → xs = ys := fun p h1 h2 => List.Perm.eq_of_pairwise (le := (· ≤ ·)) (fun a b _ _ h h' => Int.le_antisymm h h') h1 h2 p
theorem sortI_perm (ns : List Int) : (sortI ns).Perm ns := List.mergeSort_perm _ _
theorem sortI_sorted (ns : List Int) : (sortI ns).Pairwise (· ≤ ·) := by
  have h := List.pairwise_mergeSort (le := fun (a b : Int) => decide (a ≤ b)) (fun a b c h1 h2 => by simp at *; omega) (fun a b => by simp; omega) ns
  exact h.imp fun q => of_decide_eq_true q
theorem co_sorted : CallOk K c (rSortedI K) sortedS := onInts_ok (R := fun ns H Q => _) fun tp H ns z Q nv e k => by
  cases e
  intro ns' p hp hs hn
  have q := sorted_uniq (hp.trans (sortI_perm ns).symm) hs (sortI_sorted ns)
  subst q
  exact k _ _ (Same.new hn) (RepV.newL hn (nv _ hn) (Reps.ints _))
end
end MP

/-! MPe: displays; freezing; calls of the text's own defs; statements but loops. -/
namespace MP
open PySem PySem.Spec PyProof.Rows L2
/-! ### displays -/
def vals? : List Sl → Option (List D)
  | [] => some []
  | .val d :: r => (vals? r).map (d :: ·)
  | _ :: _ => none
theorem RepVs.vals {K : PySem.W.Frag} {c : Ct} {tp : Option Addr} {H0 H : Hp} : ∀ {vs : List V} {xs : List Sl} {ds : List D}, RepVs K c tp H0 H vs xs → vals? xs = some ds → Reps K H vs ds
  | _, _, _, .nil, e => by cases e; exact .nil
  | _, _, _, .cons (x := x) (xs := xs) r t, e => by
    cases x with
    | val d =>
      unfold vals? at e
      cases q : vals? xs with
      | none => rw [q] at e; cases e
      | some es => rw [q] at e; cases e; exact .cons r (t.vals q)
    | _ => cases e
theorem vals?_length : ∀ {xs : List Sl} {ds : List D}, vals? xs = some ds → xs.length = ds.length
  | [], _, e => by cases e; rfl
  | .val d :: r, ds, e => by
    unfold vals? at e
    cases q : vals? r with
    | none => rw [q] at e; cases e
    | some es => rw [q] at e; cases e; simp [vals?_length q]
  | .un :: _, _, e => by cases e
  | .own _ :: _, _, e => by cases e
  | .bor _ :: _, _, e => by cases e
  | .tape :: _, _, e => by cases e
  | .dic _ :: _, _, e => by cases e
  | .bdc _ :: _, _, e => by cases e
def dispE (mk : List D → Sl) (fs : List Ev) : Ev := fun env ta => match evs fs env ta with
  | none => none
  | some (.error x, t) => some (.error x, t)
  | some (.ok rs, t) => (vals? rs).map fun ds => (.ok (mk ds), t)
def tupE (fs : List Ev) : Ev := dispE (fun ds => .val (.tup ds)) fs
def lstE (fs : List Ev) : Ev := dispE .own fs
section
variable {X : Cx} {c : Ct} {W : WX} {e : Expr} {es : List Expr} {f : Ev} {fs : List Ev} {pos : Pos}
theorem v_tup {k} (h : PAv X c W es fs) (hl : fs.length ≤ LIM := by decide) : PEv X c W (.Tuple es k pos) (tupE fs) := by
  refine ⟨pe_mono (pe_tup h.pa) ?_⟩
  rintro σ H Q ⟨B, tp, env, ta, RS, h⟩
  refine ⟨B, tp, env, ta, RS, ?_⟩
  unfold tupE dispE at h
  cases q : evs fs env ta with
  | none => rw [q] at h; exact h
  | some p =>
    obtain ⟨rs, t⟩ := p
    rw [q] at h
    cases rs with
    | error x => exact h
    | ok rs =>
      dsimp only at h
      intro vs H1 R1 K1 VS
      cases e : vals? rs with
      | none => rw [e] at h; exact h.elim
      | some ds =>
        rw [e] at h
        refine ⟨by rw [VS.length, evs_length q]; exact lim_line hl, fun p hp => ?_⟩
        exact EPost.same R1 (h.later K1) (Same.new hp) (RepV.newT hp (VS.vals e))
theorem v_lst (h : PAv X c W es fs) (hl : fs.length ≤ LIM := by decide) : PEv X c W (.List es pos) (lstE fs) := by
  refine ⟨pe_mono (pe_lst h.pa) ?_⟩
  rintro σ H Q ⟨B, tp, env, ta, RS, h⟩
  refine ⟨B, tp, env, ta, RS, ?_⟩
  unfold lstE dispE at h
  cases q : evs fs env ta with
  | none => rw [q] at h; exact h
  | some p =>
    obtain ⟨rs, t⟩ := p
    rw [q] at h
    cases rs with
    | error x => exact h
    | ok rs =>
      dsimp only at h
      intro vs H1 R1 K1 VS
      cases e : vals? rs with
      | none => rw [e] at h; exact h.elim
      | some ds =>
        rw [e] at h
        refine ⟨by rw [VS.length, evs_length q]; exact lim_line hl, fun p hp => ?_⟩
        exact EPost.same R1 (h.later K1) (Same.new hp) (RepV.newL hp (R1.vol hp) (VS.vals e))
end

/-! ### a list of one's own becomes a datum: it never changes any more -/
theorem stab_lst {H : Hp} {a : Addr} {xs : List V} {o : HO} (h : H a = some (.lst xs)) : Stab H (upd H a o) :=
  ⟨fun b ys e => by rw [upd_ne (fun z => by rw [z, h] at e; cases e)]; exact e, fun b ob u e => by rw [upd_ne (fun z => by rw [z, h] at e; cases e)]; exact e⟩
section
variable {K : PySem.W.Frag} {c : Ct} {tp : Option Addr} {H H0 B : Hp} {σ : L2.St} {env : SE} {ta : TapeO}
theorem TapeR.upd {a : Addr} {o : HO} {xs : List V} (h : TapeR K H tp ta) (ha : H a = some (.lst xs)) (nt : tp ≠ some a) : TapeR K (upd H a o) tp ta := by
  cases tp <;> cases ta
  · exact h
  · exact h
  · exact h
  · rename_i b t
    obtain ⟨sc, e1, e2⟩ := h
    refine ⟨sc, ?_, (stab_lst ha).fz e2⟩
    rw [upd_ne (fun z => nt (by rw [z]))]; exact e1
theorem Tabs.upd {T : List (Addr × Str)} {a : Addr} {o : HO} {xs : List V} (h : LamX.Tabs T H) (ha : H a = some (.lst xs)) : LamX.Tabs T (upd H a o) := fun p hp => by
  obtain ⟨ps, e1, e2, e3⟩ := h p hp
  refine ⟨ps, by rw [upd_ne (fun z => by rw [z, ha] at e1; cases e1)]; exact e1, e2, fun pos cv q => ?_⟩
  obtain ⟨d, e4, e5⟩ := e3 pos cv q
  refine ⟨d, e4, ?_⟩
  rw [upd_ne (fun z => by rw [z, ha] at e5; unfold LamX.CodeO at e5; cases e5)]; exact e5
/-- a list that no slot owns is frozen -/
theorem RepS.frz {a : Addr} {xs : List V} {o : Obj} (R : RepS K c B tp σ H env ta) (h : H a = some (.lst xs)) (nv : ¬ Vol c tp a) (no : ∀ i, ¬ OwnAt env σ i a) (nB : B a = none) : RepS K c B tp σ (upd H a (.frz o (.lst xs))) env ta where
  len := R.len
  slot := fun i sl e => by
    have q := R.slot i sl e
    cases sl with
    | un => exact q
    | val d => obtain ⟨v, e1, r⟩ := q; exact ⟨v, e1, r.st (stab_lst h)⟩
    | own ds =>
      obtain ⟨b, ys, e1, e2, r⟩ := q
      have hb : b ≠ a := fun z => no i ⟨⟨_, e, trivial⟩, by rw [← z]; exact e1⟩
      exact ⟨b, ys, e1, by rw [upd_ne hb]; exact e2, r.st (stab_lst h)⟩
    | bor _ => exact q
    | tape => exact q
    | dic fs =>
      obtain ⟨b, ys, e1, e2, r⟩ := q
      exact ⟨b, ys, e1, by rw [upd_ne (fun z => by rw [z, h] at e2; cases e2)]; exact e2, r.st (stab_lst h)⟩
    | bdc _ => exact q
  fresh := R.fresh
  dist := R.dist
  tape := R.tape.upd h fun z => nv (.inl z)
  tabs := Tabs.upd R.tabs h
  keep := fun b u e n => by
    rw [upd_ne (fun z => by rw [z, nB] at e; cases e)]; exact R.keep b u e n
  stab := R.stab.trans (stab_lst h)
theorem Kp.frz {H1 : Hp} {a : Addr} {xs : List V} {o : Obj} (k : Kp c tp H H1) (h : H1 a = some (.lst xs)) (n : H a = none) : Kp c tp H (upd H1 a (.frz o (.lst xs))) where
  kp := fun b u e nv => by rw [upd_ne (fun z => by rw [z, n] at e; cases e)]; exact k.kp b u e nv
  st := k.st.trans (stab_lst h)
  nn := fun b e => by
    by_cases hb : b = a
    · rw [hb, upd_same] at e; cases e
    · rw [upd_ne hb] at e; exact k.nn b e
theorem RepS.noB (R : RepS K c B tp σ H env ta) {a : Addr} (n : H a = none) : B a = none := by
  cases e : B a with
  | none => rfl
  | some o =>
    have q := R.keep a o e (R.vol n)
    rw [n] at q; cases q
theorem RepS.noOwn (R : RepS K c B tp σ H env ta) {a : Addr} (n : H a = none) (i : Nat) : ¬ OwnAt env σ i a := by
  rintro ⟨⟨s, e, so⟩, e2⟩
  have q := R.slot i _ e
  cases s with
  | own ds =>
    obtain ⟨b, ys, e1, e3, _⟩ := q
    rw [e1] at e2
    cases e2
    rw [n] at e3; cases e3
  | dic ds =>
    obtain ⟨b, ys, e1, e3, _⟩ := q
    rw [e1] at e2
    cases e2
    rw [n] at e3; cases e3
  | _ => exact so.elim
end
def escE (f : Ev) : Ev := bindE f fun x => match x with
  | .val d => fun _ t => some (.ok (.val d), t)
  | .own ds => fun _ t => some (.ok (.val (.lst ds)), t)
  | .tape => fun _ t => some (.ok .tape, t)
  | _ => fun _ _ => none
section
variable {X : Cx} {c : Ct} {W : WX} {e : Expr} {es : List Expr} {f : Ev} {fs : List Ev} {pos : Pos}
theorem v_esc (h : PEv X c W e f) : PEv X c W e (escE f) := by
  refine ⟨⟨fun pins s σ H Q I w => ?_⟩⟩
  obtain ⟨B, tp, env, ta, RS, hh⟩ := w
  refine thn (h.pe.run pins s σ H (fun v H1 => Q v H1 ∨ ∃ a xs, v = .ref a ∧ H1 a = some (.lst xs) ∧ ∀ o, Q v (upd H1 a (.frz o (.lst xs)))) I
    (tE_bind RS hh fun r t v H1 R1 K1 V1 h1 => ?_)) fun u s1 ⟨v, H1, I1, r1, q⟩ => ?_
  · split at h1
    · exact .inl (EPost.val R1 (h1.later K1) V1)
    · obtain ⟨a, xs, rfl, n, nv, hl, r⟩ := V1
      refine .inr ⟨a, xs, rfl, hl, fun o => ?_⟩
      exact h1 _ _ (R1.frz hl nv (RS.noOwn n) (RS.noB n)) (K1.frz hl n) (Rep.lst (.inl ⟨o, upd_same⟩) (r.st (stab_lst hl)))
    · exact .inl (EPost.val R1 (h1.later K1) V1)
    · exact h1.elim
  · rcases q with q | ⟨a, xs, rfl, hl, q⟩
    · exact ⟨v, H1, I1, r1, q⟩
    · obtain ⟨od, I2⟩ := I1.lock hl trivial
      exact ⟨_, _, I2, r1, q od⟩
end

/-! ### calls of the text's own defs -/
abbrev Fn := List Sl → TapeO → Option (Except Str Sl × TapeO)
def Sl.arg? : Sl → Bool
  | .val _ => true
  | .tape => true
  | _ => false
def FPost (K : PySem.W.Frag) (c : Ct) (tp : Option Addr) (H : Hp) (r : Option (Except Str Sl × TapeO)) (Q : VK) (E : XK) : Prop :=
  match r with
  | none => False
  | some (.ok z, ta') => ∀ v H', Kp c tp H H' → TapeR K H' tp ta' → LamX.Tabs c.T H' → RepV K c tp H H' v z → Q v H'
  | some (.error x, ta') => ∀ cls d H', Kp c tp H H' → TapeR K H' tp ta' → LamX.Tabs c.T H' → ErrIs c H' cls d x → E cls d H'
def FSp (K : PySem.W.Frag) (c : Ct) (n : Nat) (Φ : Fn) : Sp := fun vs H Q E => vs.length = n ∧ ∃ tp args ta, RepVs K c tp H H vs args ∧ args.all Sl.arg? = true ∧ TapeR K H tp ta ∧ LamX.Tabs c.T H ∧ FPost K c tp H (Φ args ta) Q E
def callF (Φ : Fn) (fs : List Ev) : Ev := fun env ta => match evs fs env ta with
  | none => none
  | some (.error x, t) => some (.error x, t)
  | some (.ok rs, t) => if rs.all Sl.arg? = true then Φ rs t else none
section
variable {K : PySem.W.Frag} {c : Ct} {tp : Option Addr} {H H0 H1 B : Hp} {σ : L2.St} {env : SE} {ta ta' : TapeO}
theorem RepS.kp (R : RepS K c B tp σ H env ta) (k : Kp c tp H H1) (t : TapeR K H1 tp ta') (tb : LamX.Tabs c.T H1) : RepS K c B tp σ H1 env ta' where
  len := R.len
  slot := fun i sl e => by
    have q := R.slot i sl e
    cases sl with
    | un => exact q
    | val d => obtain ⟨v, e1, r⟩ := q; exact ⟨v, e1, r.st k.st⟩
    | own ds => obtain ⟨a, xs, e1, e2, r⟩ := q; exact ⟨a, xs, e1, k.kp _ _ e2 (R.fresh i a ⟨⟨_, e, trivial⟩, e1⟩).2, r.st k.st⟩
    | bor _ => exact q
    | tape => exact q
    | dic ds => obtain ⟨a, xs, e1, e2, r⟩ := q; exact ⟨a, xs, e1, k.kp _ _ e2 (R.fresh i a ⟨⟨_, e, trivial⟩, e1⟩).2, r.st k.st⟩
    | bdc _ => exact q
  fresh := R.fresh
  dist := R.dist
  tape := t
  tabs := tb
  keep := fun a o e n => k.kp _ _ (R.keep a o e n) n
  stab := R.stab.trans k.st
theorem RepVs.args : ∀ {vs : List V} {xs : List Sl}, RepVs K c tp H0 H vs xs → xs.all Sl.arg? = true → RepVs K c tp H1 H vs xs
  | _, _, .nil, _ => .nil
  | _, _, .cons (x := x) r t, e => by
    simp only [List.all_cons, Bool.and_eq_true] at e
    refine .cons ?_ (t.args e.2)
    cases x with
    | val d => exact r
    | tape => exact r
    | _ => cases e.1
end
section
variable {X : Cx} {c : Ct} {W : WX} {e : Expr} {es : List Expr} {f : Ev} {fs : List Ev} {x : Str} {p pos : Pos} {k n : Nat} {g : Addr} {fd : FuncData} {ps : List Str} {Φ : Fn}
theorem v_call (F : FnOk X.prog X.w X.K X.mg X.base (L2.CX X.prog X.w) k g fd ps (FSp X.K c n Φ)) (tk : Takes X W) (hr : Room k X.A) (hm : X.mg x = some (.ref g)) (hk : PySem.W.keepIn X.K (.ref g) = true) (hb : Binds X.K fd ps []) (ha : PAv X c W (e :: es) fs)
    (hn : fs.length = n := by rfl) (hg : Gl X x := by rfl) (hdb : (x == ("__debug__" : Str)) = false := by decide) (he : starEach (e :: es) X.env = (false, eval e X.env) :: starEach es X.env := by rfl) (hpl : (backTo pos (starEach es X.env)).any (·.1) = false := by rfl) :
    PEv X c W (.Call (.Name x p) (e :: es) [] pos) (callF Φ fs) := by
  refine ⟨pe_mono (pe_callS F hr hg hm hk hb (fun σ => passAt tk σ) ha.pa hdb he hpl) ?_⟩
  rintro σ H Q ⟨B, tp, env, ta, RS, h⟩
  refine ⟨B, tp, env, ta, RS, ?_⟩
  unfold callF at h
  cases q : evs fs env ta with
  | none => rw [q] at h; exact h
  | some p =>
    obtain ⟨rs, t⟩ := p
    rw [q] at h
    cases rs with
    | error x => exact h
    | ok rs =>
      dsimp only at h
      intro vs H1 R1 K1 VS
      split at h
      · rename_i hall
        refine ⟨by rw [VS.length, evs_length q, hn], tp, rs, t, VS.args hall, hall, R1.tape, R1.tabs, ?_⟩
        have h2 := h.later K1
        cases e2 : Φ rs t with
        | none => rw [e2] at h2; exact h2
        | some p =>
          obtain ⟨r, t'⟩ := p
          rw [e2] at h2
          cases r with
          | error x => exact fun cls d H' K' T' B' er => h2 cls d H' (R1.kp K' T' B') K' er
          | ok z => exact fun v H' K' T' B' V' => h2 v H' (R1.kp K' T' B') K' V'
      · exact h.elim
end

/-! ### statements -/
inductive Fl where
  | nx | bk | ct | rt (r : Sl) | ex (x : Str)
abbrev Cs := SE → TapeO → Option (Fl × SE × TapeO)
def tpLe (tp tp' : Option Addr) : Prop := tp = none ∨ tp' = tp
theorem tpLe.refl (tp : Option Addr) : tpLe tp tp := .inr rfl
theorem tpLe.trans {a b d : Option Addr} (h : tpLe a b) (h' : tpLe b d) : tpLe a d := by
  rcases h with h | h
  · exact .inl h
  · subst h; exact h'
def SPost (K : PySem.W.Frag) (c : Ct) (W : WX) (B : Hp) (tp : Option Addr) (H : Hp) (D : Ends) (r : Option (Fl × SE × TapeO)) : Prop :=
  match r with
  | none => False
  | some (.nx, env, ta) => ∀ tp' σ' H', tpLe tp tp' → Stab H H' → RepS K c B tp' σ' H' env ta → D.nx σ' H'
  | some (.bk, env, ta) => ∀ tp' σ' H', tpLe tp tp' → Stab H H' → RepS K c B tp' σ' H' env ta → D.bk σ' H'
  | some (.ct, env, ta) => ∀ tp' σ' H', tpLe tp tp' → Stab H H' → RepS K c B tp' σ' H' env ta → D.ct σ' H'
  | some (.rt z, env, ta) => ∀ tp' σ' H' v, tpLe tp tp' → Stab H H' → RepS K c B tp' σ' H' env ta → RepV K c tp' B H' v z → D.rt v H'
  | some (.ex x, env, ta) => ∀ tp' σ' H' cls d, tpLe tp tp' → Stab H H' → RepS K c B tp' σ' H' env ta → ErrIs c H' cls d x → W cls d σ' H'
def tSs (K : PySem.W.Frag) (c : Ct) (W : WX) (f : Cs) : TS := fun D σ H => ∃ B tp env ta, RepS K c B tp σ H env ta ∧ SPost K c W B tp H D (f env ta)
structure PSv (X : Cx) (c : Ct) (W : WX) (st : Stmt) (f : Cs) : Prop where
  ps : PS X st (tSs X.K c W f)
structure PSsv (X : Cx) (c : Ct) (W : WX) (st : List Stmt) (f : Cs) : Prop where
  ps : PSs X st (tSs X.K c W f)
def skipC : Cs := fun env ta => some (.nx, env, ta)
def breakC : Cs := fun env ta => some (.bk, env, ta)
def contC : Cs := fun env ta => some (.ct, env, ta)
def seqC (f g : Cs) : Cs := fun env ta => match f env ta with
  | some (.nx, env', ta') => g env' ta'
  | r => r
theorem SPost.le {K : PySem.W.Frag} {c : Ct} {W : WX} {B : Hp} {tp tp' : Option Addr} {H H1 : Hp} {D : Ends} {r : Option (Fl × SE × TapeO)} (h : SPost K c W B tp H D r) (l : tpLe tp tp') (s : Stab H H1) : SPost K c W B tp' H1 D r := by
  cases r with
  | none => exact h
  | some p =>
    obtain ⟨fl, env, ta⟩ := p
    cases fl with
    | nx => exact fun tp2 σ' H' l2 s2 R => h tp2 σ' H' (l.trans l2) (s.trans s2) R
    | bk => exact fun tp2 σ' H' l2 s2 R => h tp2 σ' H' (l.trans l2) (s.trans s2) R
    | ct => exact fun tp2 σ' H' l2 s2 R => h tp2 σ' H' (l.trans l2) (s.trans s2) R
    | rt z => exact fun tp2 σ' H' v l2 s2 R V => h tp2 σ' H' v (l.trans l2) (s.trans s2) R V
    | ex x => exact fun tp2 σ' H' cls d l2 s2 R e => h tp2 σ' H' cls d (l.trans l2) (s.trans s2) R e
section
variable {X : Cx} {c : Ct} {W : WX} {st : Stmt} {rest : List Stmt} {e : Expr} {f g : Cs} {fe : Ev} {t : Tv} {pos : Pos}
theorem ss_nil : PSsv X c W [] skipC := by
  refine ⟨pss_mono L2.pss_nil ?_⟩
  rintro D σ H ⟨B, tp, env, ta, RS, h⟩
  exact h tp σ H (.refl _) (.refl _) RS
theorem ss_cons (h1 : PSv X c W st f) (h2 : PSsv X c W rest g) : PSsv X c W (st :: rest) (seqC f g) := by
  refine ⟨pss_mono (L2.pss_cons h1.ps h2.ps) ?_⟩
  rintro D σ H ⟨B, tp, env, ta, RS, h⟩
  refine ⟨B, tp, env, ta, RS, ?_⟩
  unfold seqC at h
  cases q : f env ta with
  | none => rw [q] at h; exact h
  | some p =>
    obtain ⟨fl, env', ta'⟩ := p
    rw [q] at h
    cases fl with
    | nx => exact fun tp' σ' H' l s R' => ⟨B, tp', env', ta', R', h.le l s⟩
    | _ => exact h
theorem ss_one (h1 : PSv X c W st f) : PSsv X c W [st] f := ⟨L2.pss_one h1.ps⟩
theorem s_pass : PSv X c W (.Pass pos) skipC := by
  refine ⟨ps_mono L2.ps_pass ?_⟩
  rintro D σ H ⟨B, tp, env, ta, RS, h⟩
  exact h tp σ H (.refl _) (.refl _) RS
theorem s_break : PSv X c W (.Break pos) breakC := by
  refine ⟨ps_mono L2.ps_break ?_⟩
  rintro D σ H ⟨B, tp, env, ta, RS, h⟩
  exact h tp σ H (.refl _) (.refl _) RS
theorem s_cont : PSv X c W (.Continue pos) contC := by
  refine ⟨ps_mono L2.ps_continue ?_⟩
  rintro D σ H ⟨B, tp, env, ta, RS, h⟩
  exact h tp σ H (.refl _) (.refl _) RS
theorem s_doc {x j pos pos'} : PSv X c W (.Expr (.Constant (.str x) j pos) pos') skipC := by
  refine ⟨ps_mono L2.ps_doc ?_⟩
  rintro D σ H ⟨B, tp, env, ta, RS, h⟩
  exact h tp σ H (.refl _) (.refl _) RS
end
/-! a value, then a statement's end -/
def onE (f : Ev) (k : Sl → Cs) : Cs := fun env ta => match f env ta with
  | none => none
  | some (.error x, t) => some (.ex x, env, t)
  | some (.ok r, t) => k r env t
theorem on_of {K : PySem.W.Frag} {c : Ct} {W : WX} {f : Ev} {k : Sl → Cs} {B : Hp} {tp : Option Addr} {σ : L2.St} {H : Hp} {env : SE} {ta : TapeO} {D : Ends} {R : VK} (RS : RepS K c B tp σ H env ta) (h : SPost K c W B tp H D (onE f k env ta))
    (go : ∀ r t v H1, RepS K c B tp σ H1 env t → Kp c tp H H1 → RepV K c tp H H1 v r → SPost K c W B tp H D (k r env t) → R v H1) : tE K c W f σ H R := by
  refine ⟨B, tp, env, ta, RS, ?_⟩
  unfold onE at h
  cases e : f env ta with
  | none => rw [e] at h; exact h
  | some p =>
    obtain ⟨r, t⟩ := p
    rw [e] at h
    cases r with
    | error x => exact fun cls d H' R' K' er => h tp σ H' cls d (.refl _) K'.st R' er
    | ok r => exact fun v H1 R1 K1 V1 => go r t v H1 R1 K1 V1 h
def Sl.store? : Sl → Option Sl
  | .val d => some (.val d)
  | .own ds => some (.own ds)
  | .tape => some .tape
  | .dic ds => some (.dic ds)
  | _ => none
def asgC (i : Nat) (f : Ev) : Cs := onE f fun r env t => r.store?.map fun s => (.nx, env.set i s, t)
def retC (f : Ev) : Cs := onE f fun r env t => r.store?.map fun s => (.rt s, env, t)
def retNC : Cs := fun env ta => some (.rt (.val .non), env, ta)
/-- return x, x a name -/
def retVC (i : Nat) : Cs := fun env ta => match env[i]? with
  | some (.val d) => some (.rt (.val d), env, ta)
  | some (.own ds) => some (.rt (.own ds), env, ta)
  | some .tape => some (.rt .tape, env, ta)
  | some (.dic ds) => some (.rt (.dic ds), env, ta)
  | _ => none
def dropC (f : Ev) : Cs := onE f fun _ env t => some (.nx, env, t)
def ifC (t : Tv) (f g : Cs) : Cs := fun env ta => match t env ta with
  | none => none
  | some (.error x, ta') => some (.ex x, env, ta')
  | some (.ok true, ta') => f env ta'
  | some (.ok false, ta') => g env ta'
section
variable {K : PySem.W.Frag} {c : Ct} {tp : Option Addr} {H H0 H1 B : Hp} {σ : L2.St} {env : SE} {ta ta' : TapeO}
theorem RepS.store {i : Nat} {v : V} {r s : Sl} (R0 : RepS K c B tp σ H0 env ta) (R : RepS K c B tp σ H env ta') (V : RepV K c tp H0 H v r) (e : r.store? = some s) : RepS K c B tp (σ.set i (some v)) H (env.set i s) ta' where
  len := by rw [List.length_set, List.length_set]; exact R.len
  slot := fun j sl e1 => by
    by_cases hj : i = j
    · subst hj
      have hi : i < env.length := by
        have := (List.getElem?_eq_some_iff.mp e1).1
        rwa [List.length_set] at this
      rw [List.getElem?_set_self hi] at e1
      cases e1
      have hs : (σ.set i (some v))[i]? = some (some v) := List.getElem?_set_self (by rw [← R.len]; exact hi)
      cases r with
      | val d => cases e; exact ⟨v, hs, V⟩
      | own ds => cases e; obtain ⟨a, xs, rfl, n, nv, hl, rr⟩ := V; exact ⟨a, xs, hs, hl, rr⟩
      | dic ds => cases e; obtain ⟨a, xs, rfl, n, nv, hl, rr⟩ := V; exact ⟨a, xs, hs, hl, rr⟩
      | tape => cases e; obtain ⟨a, e2, rfl⟩ := V; exact ⟨a, e2, hs⟩
      | _ => cases e
    · rw [List.getElem?_set_ne hj] at e1
      have q := R.slot j sl e1
      cases sl with
      | un => trivial
      | val d => obtain ⟨w, e2, rr⟩ := q; exact ⟨w, by rw [List.getElem?_set_ne hj]; exact e2, rr⟩
      | own ds => obtain ⟨a, xs, e2, rr⟩ := q; exact ⟨a, xs, by rw [List.getElem?_set_ne hj]; exact e2, rr⟩
      | bor _ => exact q
      | tape => obtain ⟨a, e2, e3⟩ := q; exact ⟨a, e2, by rw [List.getElem?_set_ne hj]; exact e3⟩
      | dic ds => obtain ⟨a, xs, e2, rr⟩ := q; exact ⟨a, xs, by rw [List.getElem?_set_ne hj]; exact e2, rr⟩
      | bdc _ => exact q
  fresh := fun j a o => by
    obtain ⟨⟨ds, e1, so⟩, e2⟩ := o
    by_cases hj : i = j
    · subst hj
      have hi : i < env.length := by
        have := (List.getElem?_eq_some_iff.mp e1).1
        rwa [List.length_set] at this
      rw [List.getElem?_set_self hi] at e1
      rw [List.getElem?_set_self (by rw [← R.len]; exact hi)] at e2
      cases e1
      cases e2
      cases r with
      | own es => cases e; obtain ⟨b, xs, eb, n, nv, hl, rr⟩ := V; cases eb; exact ⟨R0.noB n, nv⟩
      | dic es => cases e; obtain ⟨b, xs, eb, n, nv, hl, rr⟩ := V; cases eb; exact ⟨R0.noB n, nv⟩
      | val d => cases e; exact so.elim
      | tape => cases e; exact so.elim
      | _ => cases e
    · rw [List.getElem?_set_ne hj] at e1 e2
      exact R.fresh j a ⟨⟨ds, e1, so⟩, e2⟩
  dist := fun j1 j2 a o1 o2 => by
    have key : ∀ j, OwnAt (env.set i s) (σ.set i (some v)) j a → (i = j ∧ H0 a = none) ∨ (i ≠ j ∧ OwnAt env σ j a) := fun j o => by
      obtain ⟨⟨ds, e1, so⟩, e2⟩ := o
      by_cases hj : i = j
      · subst hj
        have hi : i < env.length := by
          have := (List.getElem?_eq_some_iff.mp e1).1
          rwa [List.length_set] at this
        rw [List.getElem?_set_self hi] at e1
        rw [List.getElem?_set_self (by rw [← R.len]; exact hi)] at e2
        cases e1
        cases e2
        cases r with
        | own es => cases e; obtain ⟨b, xs, eb, n, nv, hl, rr⟩ := V; cases eb; exact .inl ⟨rfl, n⟩
        | dic es => cases e; obtain ⟨b, xs, eb, n, nv, hl, rr⟩ := V; cases eb; exact .inl ⟨rfl, n⟩
        | val d => cases e; exact so.elim
        | tape => cases e; exact so.elim
        | _ => cases e
      · rw [List.getElem?_set_ne hj] at e1 e2
        exact .inr ⟨hj, ⟨ds, e1, so⟩, e2⟩
    rcases key j1 o1 with ⟨h1, n1⟩ | ⟨h1, q1⟩
    · rcases key j2 o2 with ⟨h2, n2⟩ | ⟨h2, q2⟩
      · rw [← h1, ← h2]
      · exact (R0.noOwn n1 j2 q2).elim
    · rcases key j2 o2 with ⟨h2, n2⟩ | ⟨h2, q2⟩
      · exact (R0.noOwn n2 j1 q1).elim
      · exact R.dist j1 j2 a q1 q2
  tape := R.tape
  tabs := R.tabs
  keep := R.keep
  stab := R.stab
theorem RepV.out {v : V} {r s : Sl} (V : RepV K c tp H0 H v r) (e : r.store? = some s) (hB : ∀ a, H0 a = none → B a = none) : RepV K c tp B H v s := by
  cases r with
  | val d => cases e; exact V
  | own ds => cases e; obtain ⟨a, xs, rfl, n, nv, hl, rr⟩ := V; exact ⟨a, xs, rfl, hB a n, nv, hl, rr⟩
  | tape => cases e; exact V
  | dic ds => cases e; obtain ⟨a, xs, rfl, n, nv, hl, rr⟩ := V; exact ⟨a, xs, rfl, hB a n, nv, hl, rr⟩
  | _ => cases e
end
section
variable {X : Cx} {c : Ct} {W : WX} {st : Stmt} {rest : List Stmt} {e : Expr} {es : List Stmt} {f g : Cs} {fe : Ev} {t : Tv} {pos : Pos}
/-- x = e -/
theorem s_asg {i : Nat} {x : Str} {pos' : Pos} (hN : X.N.Nodup) (he : PEv X c W e fe) (hi : X.N[i]? = some x := by rfl) (hx : Loc X.env.scope x := by first | exact Or.inl rfl | exact Or.inr rfl) (hs : swapsWith e (some (.Name x pos')) pos.line X.env = pure false := by rfl)
    (hf : X.fn x = true ∨ X.env.scope.names.lookup x = some .local := by first | exact .inl rfl | exact .inr rfl | assumption) : PSv X c W (.Assign [.Name x pos'] e pos) (asgC i fe) := by
  refine ⟨ps_mono (ps_set hN hi hx he.pe hs hf) ?_⟩
  rintro D σ H ⟨B, tp, env, ta, RS, h⟩
  refine on_of RS h fun r t v H1 R1 K1 V1 h1 => ?_
  cases es : r.store? with
  | none => rw [es] at h1; exact h1.elim
  | some s => rw [es] at h1; exact h1 tp _ H1 (.refl _) K1.st (RepS.store RS R1 V1 es)
theorem s_ret (he : PEv X c W e fe) : PSv X c W (.Return (some e) pos) (retC fe) := by
  refine ⟨ps_mono (L2.ps_ret he.pe) ?_⟩
  rintro D σ H ⟨B, tp, env, ta, RS, h⟩
  refine on_of RS h fun r t v H1 R1 K1 V1 h1 => ?_
  cases es : r.store? with
  | none => rw [es] at h1; exact h1.elim
  | some s => rw [es] at h1; exact h1 tp σ H1 v (.refl _) K1.st R1 (V1.out es fun a n => RS.noB n)
theorem s_retN : PSv X c W (.Return none pos) retNC := by
  refine ⟨ps_mono L2.ps_retN ?_⟩
  rintro D σ H ⟨B, tp, env, ta, RS, h⟩
  exact h tp σ H .non (.refl _) (.refl _) RS Rep.non
theorem s_retV {i : Nat} {x : Str} {p : Pos} (hN : X.N[i]? = some x := by rfl) (hv : Vis X.env.scope x := by first | exact Or.inl rfl | exact Or.inr (Or.inl rfl) | exact Or.inr (Or.inr rfl))
    (hd : (x == ("__debug__" : Str)) = false := by decide) (hcd : (x == ("__classdict__" : Str)) = false := by decide) : PSv X c W (.Return (some (.Name x p)) pos) (retVC i) := by
  refine ⟨ps_mono (L2.ps_ret (pe_var hN hv hd hcd)) ?_⟩
  rintro D σ H ⟨B, tp, env, ta, RS, h⟩
  unfold retVC at h
  cases e : env[i]? with
  | none => rw [e] at h; exact h.elim
  | some s =>
    rw [e] at h
    have q := RS.slot i s e
    cases s with
    | un => exact h.elim
    | val d => obtain ⟨v, e1, r⟩ := q; exact ⟨v, e1, h tp σ H v (.refl _) (.refl _) RS r⟩
    | own ds =>
      obtain ⟨a, xs, e1, e2, r⟩ := q
      have fr := RS.fresh i a ⟨⟨_, e, trivial⟩, e1⟩
      exact ⟨_, e1, h tp σ H _ (.refl _) (.refl _) RS ⟨a, xs, rfl, fr.1, fr.2, e2, r⟩⟩
    | bor _ => exact h.elim
    | tape => obtain ⟨a, e1, e2⟩ := q; exact ⟨_, e2, h tp σ H _ (.refl _) (.refl _) RS ⟨a, e1, rfl⟩⟩
    | dic ds =>
      obtain ⟨a, xs, e1, e2, r⟩ := q
      have fr := RS.fresh i a ⟨⟨_, e, trivial⟩, e1⟩
      exact ⟨_, e1, h tp σ H _ (.refl _) (.refl _) RS ⟨a, xs, rfl, fr.1, fr.2, e2, r⟩⟩
    | bdc _ => exact h.elim
theorem s_drop (he : PEv X c W e fe) (hs : swapsWith e none pos.line X.env = pure false := by rfl) : PSv X c W (.Expr e pos) (dropC fe) := by
  refine ⟨ps_mono (L2.ps_expr he.pe hs) ?_⟩
  rintro D σ H ⟨B, tp, env, ta, RS, h⟩
  exact on_of RS h fun r t v H1 R1 K1 V1 h1 => h1 tp σ H1 (.refl _) K1.st R1
theorem s_if {cnd : Expr} {a b : List Stmt} (hc : PTv X c W cnd t) (ha : PSsv X c W a f) (hb : PSsv X c W b g) : PSv X c W (.If cnd a b pos) (ifC t f g) := by
  refine ⟨ps_mono (L2.ps_if hc.pt ha.ps hb.ps) ?_⟩
  rintro D σ H ⟨B, tp, env, ta, RS, h⟩
  refine ⟨B, tp, env, ta, RS, ?_⟩
  unfold ifC at h
  cases e : t env ta with
  | none => rw [e] at h; exact h
  | some p =>
    obtain ⟨r, t'⟩ := p
    rw [e] at h
    cases r with
    | error x => exact fun cls d H' R' K' er => h tp σ H' cls d (.refl _) K'.st R' er
    | ok b =>
      intro H1 R1 K1
      cases b with
      | true => rw [if_pos rfl]; exact ⟨B, tp, env, t', R1, h.le (.refl _) K1.st⟩
      | false => rw [if_neg Bool.false_ne_true]; exact ⟨B, tp, env, t', R1, h.le (.refl _) K1.st⟩
/-- a statement that is never reached -/
def neverC : Cs := fun _ _ => none
theorem s_never : PSv X c W st neverC := by
  refine ⟨ps_mono L2.ps_never ?_⟩
  rintro D σ H ⟨B, tp, env, ta, RS, h⟩
  exact h
theorem ss_never {sts : List Stmt} : PSsv X c W sts neverC := by
  refine ⟨pss_mono L2.pss_never ?_⟩
  rintro D σ H ⟨B, tp, env, ta, RS, h⟩
  exact h
end
end MP

/-! MPf: lists that change; while; for; comprehensions; raise; whole defs. -/
namespace MP
open PySem PySem.Spec PyProof.Rows L2
section
variable {K : PySem.W.Frag} {c : Ct} {tp : Option Addr} {H H0 H1 B : Hp} {σ : L2.St} {env : SE} {ta ta' : TapeO}
/-- the frame's own list at slot i is changed -/
theorem RepS.mut {i : Nat} {a : Addr} {xs ys : List V} {ds es : List D} (R : RepS K c B tp σ H env ta) (ei : env[i]? = some (.own ds)) (ea : σ[i]? = some (some (.ref a))) (h : H a = some (.lst xs)) (r : Reps K H ys es) :
    RepS K c B tp σ (upd H a (.lst ys)) (env.set i (.own es)) ta := by
  have hi : i < env.length := (List.getElem?_eq_some_iff.mp ei).1
  have own : ∀ j b, OwnAt (env.set i (.own es)) σ j b → OwnAt env σ j b := fun j b o => by
    obtain ⟨⟨fs, e1, so⟩, e2⟩ := o
    by_cases hj : i = j
    · subst hj; exact ⟨⟨_, ei, trivial⟩, e2⟩
    · rw [List.getElem?_set_ne hj] at e1; exact ⟨⟨fs, e1, so⟩, e2⟩
  have fr := R.fresh i a ⟨⟨_, ei, trivial⟩, ea⟩
  refine ⟨by rw [List.length_set]; exact R.len, fun j sl e1 => ?_, fun j b o => R.fresh j b (own j b o), fun j1 j2 b o1 o2 => R.dist j1 j2 b (own _ _ o1) (own _ _ o2), R.tape.upd h fun z => fr.2 (.inl z), Tabs.upd R.tabs h, fun b u e n => ?_, R.stab.trans (stab_lst h)⟩
  · by_cases hj : i = j
    · subst hj
      rw [List.getElem?_set_self hi] at e1
      cases e1
      exact ⟨a, ys, ea, upd_same, r.st (stab_lst h)⟩
    · rw [List.getElem?_set_ne hj] at e1
      have q := R.slot j sl e1
      cases sl with
      | un => exact q
      | val d => obtain ⟨v, e2, rr⟩ := q; exact ⟨v, e2, rr.st (stab_lst h)⟩
      | own fs =>
        obtain ⟨b, zs, e2, e3, rr⟩ := q
        have hb : b ≠ a := fun z => hj (R.dist i j a ⟨⟨_, ei, trivial⟩, ea⟩ ⟨⟨_, e1, trivial⟩, by rw [← z]; exact e2⟩)
        exact ⟨b, zs, e2, by rw [upd_ne hb]; exact e3, rr.st (stab_lst h)⟩
      | bor _ => exact q
      | tape => exact q
      | dic fs =>
        obtain ⟨b, zs, e2, e3, rr⟩ := q
        exact ⟨b, zs, e2, by rw [upd_ne (fun z => by rw [z, h] at e3; cases e3)]; exact e3, rr.st (stab_lst h)⟩
      | bdc _ => exact q
  · rw [upd_ne (fun z => by rw [z, fr.1] at e; cases e)]; exact R.keep b u e n
/-- .. frozen -/
theorem RepS.frzAt {i : Nat} {a : Addr} {xs : List V} {ds : List D} {o : Obj} (R : RepS K c B tp σ H env ta) (ei : env[i]? = some (.own ds)) (ea : σ[i]? = some (some (.ref a))) (h : H a = some (.lst xs)) (r : Reps K H xs ds) :
    RepS K c B tp σ (upd H a (.frz o (.lst xs))) (env.set i (.val (.lst ds))) ta := by
  have hi : i < env.length := (List.getElem?_eq_some_iff.mp ei).1
  have own : ∀ j b, OwnAt (env.set i (.val (.lst ds))) σ j b → i ≠ j ∧ OwnAt env σ j b := fun j b o => by
    obtain ⟨⟨fs, e1, so⟩, e2⟩ := o
    by_cases hj : i = j
    · subst hj; rw [List.getElem?_set_self hi] at e1; cases e1; exact so.elim
    · rw [List.getElem?_set_ne hj] at e1; exact ⟨hj, ⟨fs, e1, so⟩, e2⟩
  have fr := R.fresh i a ⟨⟨_, ei, trivial⟩, ea⟩
  refine ⟨by rw [List.length_set]; exact R.len, fun j sl e1 => ?_, fun j b o => R.fresh j b (own j b o).2, fun j1 j2 b o1 o2 => R.dist j1 j2 b (own _ _ o1).2 (own _ _ o2).2, R.tape.upd h fun z => fr.2 (.inl z), Tabs.upd R.tabs h, fun b u e n => ?_, R.stab.trans (stab_lst h)⟩
  · by_cases hj : i = j
    · subst hj
      rw [List.getElem?_set_self hi] at e1
      cases e1
      exact ⟨_, ea, Rep.lst (.inl ⟨o, upd_same⟩) (r.st (stab_lst h))⟩
    · rw [List.getElem?_set_ne hj] at e1
      have q := R.slot j sl e1
      cases sl with
      | un => exact q
      | val d => obtain ⟨v, e2, rr⟩ := q; exact ⟨v, e2, rr.st (stab_lst h)⟩
      | own fs =>
        obtain ⟨b, zs, e2, e3, rr⟩ := q
        have hb : b ≠ a := fun z => hj (R.dist i j a ⟨⟨_, ei, trivial⟩, ea⟩ ⟨⟨_, e1, trivial⟩, by rw [← z]; exact e2⟩)
        exact ⟨b, zs, e2, by rw [upd_ne hb]; exact e3, rr.st (stab_lst h)⟩
      | bor _ => exact q
      | tape => exact q
      | dic fs =>
        obtain ⟨b, zs, e2, e3, rr⟩ := q
        exact ⟨b, zs, e2, by rw [upd_ne (fun z => by rw [z, h] at e3; cases e3)]; exact e3, rr.st (stab_lst h)⟩
      | bdc _ => exact q
  · rw [upd_ne (fun z => by rw [z, fr.1] at e; cases e)]; exact R.keep b u e n
theorem RepS.ownAt {i : Nat} {ds : List D} (R : RepS K c B tp σ H env ta) (ei : env[i]? = some (.own ds)) : ∃ a xs, σ[i]? = some (some (.ref a)) ∧ H a = some (.lst xs) ∧ Reps K H xs ds := R.slot i _ ei
end
def frzC (i : Nat) : Cs := fun env ta => match env[i]? with
  | some (.own ds) => some (.nx, env.set i (.val (.lst ds)), ta)
  | some s => some (.nx, env, ta)
  | none => none
def appC (i : Nat) (f : Ev) : Cs := fun env ta => match env[i]? with
  | some (.own ds) => onE f (fun r env t => match r with
    | .val d => if ds.length < LIM then some (.nx, env.set i (.own (ds ++ [d])), t) else none
    | _ => none) env ta
  | _ => none
def popOf (i j : Nat) (ds : List D) (k : Int) (env : SE) (t : TapeO) : Option (Fl × SE × TapeO) :=
  if ds.length ≤ LIM then (match ixN ds.length k with
    | some m => (ds[m]?).map fun d => (.nx, (env.set i (.own (ds.eraseIdx m))).set j (.val d), t)
    | none => none) else none
/-- y = x.pop(k): x slot i, y slot j -/
def popAtC (i j : Nat) (f : Ev) : Cs := fun env ta => match env[i]? with
  | some (.own ds) => onE f (fun r env t => match r with
    | .val (.int k) => popOf i j ds k env t
    | _ => none) env ta
  | _ => none
/-- x.append(y.pop(k)): x slot i, y slot j -/
def appPopC (i j : Nat) (f : Ev) : Cs := fun env ta => match env[i]?, env[j]? with
  | some (.own ds), some (.own es) => onE f (fun r env t => match r with
    | .val (.int k) => if ds.length < LIM ∧ es.length ≤ LIM ∧ i ≠ j then (match ixN es.length k with
      | some m => (es[m]?).map fun d => (.nx, (env.set j (.own (es.eraseIdx m))).set i (.own (ds ++ [d])), t)
      | none => none) else none
    | _ => none) env ta
  | _, _ => none
/-- x[k] = e -/
def setC (i : Nat) (f g : Ev) : Cs := onE f fun r env t => match env[i]? with
  | some (.own ds) => onE g (fun q env t => match r, q with
    | .val d, .val (.int k) => (ixN ds.length k).map fun m => (.nx, env.set i (.own (ds.set m d)), t)
    | _, _ => none) env t
  | _ => none
section
variable {X : Cx} {c : Ct} {W : WX} {st : Stmt} {e k : Expr} {f g : Ev} {cs : Cs} {pos : Pos}
theorem s_frz {i : Nat} (h : PSv X c W st cs) : PSv X c W st (seqC (frzC i) cs) := by
  refine ⟨⟨fun pins s σ H D I w => ?_⟩⟩
  obtain ⟨B, tp, env, ta, RS, hh⟩ := w
  unfold seqC frzC at hh
  cases q : env[i]? with
  | none => rw [q] at hh; exact hh.elim
  | some sl =>
    rw [q] at hh
    have plain : SPost X.K c W B tp H D (cs env ta) → wpAny (model X.prog X.w) X.A (exec st X.env) (SP X pins D) X.xe s := fun hh => h.ps.run pins s σ H D I ⟨B, tp, env, ta, RS, hh⟩
    cases sl with
    | own ds =>
      obtain ⟨a, xs, ea, hl, r⟩ := RS.ownAt q
      obtain ⟨od, I2⟩ := I.lock hl trivial
      exact h.ps.run pins s σ _ D I2 ⟨B, tp, _, ta, RS.frzAt q ea hl r, SPost.le hh (.refl _) (stab_lst hl)⟩
    | un => exact plain hh
    | val d => exact plain hh
    | bor d => exact plain hh
    | tape => exact plain hh
    | dic _ => exact plain hh
    | bdc _ => exact plain hh
/-- x.append(e) -/
theorem s_app {i : Nat} {x : Str} {p apos cpos : Pos} (he : PEv X c W e f) (hN : X.N[i]? = some x := by rfl) (hv : Vis X.env.scope x := by first | exact Or.inl rfl | exact Or.inr (Or.inl rfl) | exact Or.inr (Or.inr rfl))
    (hd : (x == ("__debug__" : Str)) = false := by decide) (hcd : (x == ("__classdict__" : Str)) = false := by decide)
    (hbase : attributeBase (.Name x p) "append" X.env (eval (.Name x p) X.env) = eval (.Name x p) X.env := by rfl)
    (hfew : ((backTo cpos (starEach [e] X.env)).all (fun x => !x.1) && (backToKw cpos (keywordEach [] X.env)).all (fun x => x.1.isSome)
      && decide ([e].length + ([] : List Keyword).length + (if ([] : List Keyword).isEmpty then 0 else 1) < 30)) = true := by rfl)
    (hline : (apos.endLine == cpos.line) = true := by rfl) (hs : starEach [e] X.env = (false, eval e X.env) :: starEach [] X.env := by rfl)
    (hsw : swapsWith (.Call (.Attribute (.Name x p) "append" apos) [e] [] cpos) none pos.line X.env = pure false := by rfl) :
    PSv X c W (.Expr (.Call (.Attribute (.Name x p) "append" apos) [e] [] cpos) pos) (appC i f) := by
  refine ⟨ps_mono (L2.ps_expr (pe_bm PySem.F.plainAttrs_list PySem.F.slot_list_append PySem.F.type_list_append mt_append (pe_var hN hv hd hcd) (L2.pa_cons he.pe L2.pa_nil hs) hbase hfew hline hs rfl) hsw) ?_⟩
  rintro D σ H ⟨B, tp, env, ta, RS, h⟩
  unfold appC at h
  split at h
  · rename_i ds q
    obtain ⟨a, xs, ea, hl, r⟩ := RS.ownAt q
    refine ⟨_, ea, .inl ⟨rfl, xs, SqL.of hl⟩, on_of RS h fun z t v H1 R1 K1 V1 h1 => ?_⟩
    split at h1
    · rename_i d
      split at h1
      · rename_i hlt
        obtain ⟨a', ys, ea', hl', r'⟩ := R1.ownAt q
        rw [ea] at ea'
        cases ea'
        refine ⟨a, ys, v, rfl, rfl, hl', by rw [r'.length, sizeLine_eq]; exact hlt, ?_⟩
        exact h1 tp σ _ (.refl _) (K1.st.trans (stab_lst hl')) (R1.mut q ea hl' (r'.append (.cons V1 .nil)))
      · exact h1.elim
    · exact h1.elim
  · exact h.elim
/-- y = x.pop(k) -/
theorem s_popAt {i j : Nat} {x y : Str} {p py apos cpos : Pos} (hNd : X.N.Nodup) (he : PEv X c W e f) (hN : X.N[i]? = some x := by rfl) (hv : Vis X.env.scope x := by first | exact Or.inl rfl | exact Or.inr (Or.inl rfl) | exact Or.inr (Or.inr rfl))
    (hj : X.N[j]? = some y := by rfl) (hx : Loc X.env.scope y := by first | exact Or.inl rfl | exact Or.inr rfl)
    (hd : (x == ("__debug__" : Str)) = false := by decide) (hcd : (x == ("__classdict__" : Str)) = false := by decide)
    (hbase : attributeBase (.Name x p) "pop" X.env (eval (.Name x p) X.env) = eval (.Name x p) X.env := by rfl)
    (hfew : ((backTo cpos (starEach [e] X.env)).all (fun x => !x.1) && (backToKw cpos (keywordEach [] X.env)).all (fun x => x.1.isSome)
      && decide ([e].length + ([] : List Keyword).length + (if ([] : List Keyword).isEmpty then 0 else 1) < 30)) = true := by rfl)
    (hline : (apos.endLine == cpos.line) = true := by rfl) (hs : starEach [e] X.env = (false, eval e X.env) :: starEach [] X.env := by rfl)
    (hsw : swapsWith (.Call (.Attribute (.Name x p) "pop" apos) [e] [] cpos) (some (.Name y py)) pos.line X.env = pure false := by rfl)
    (hf : X.fn y = true ∨ X.env.scope.names.lookup y = some .local := by first | exact .inl rfl | exact .inr rfl | assumption) :
    PSv X c W (.Assign [.Name y py] (.Call (.Attribute (.Name x p) "pop" apos) [e] [] cpos) pos) (popAtC i j f) := by
  refine ⟨ps_mono (ps_set hNd hj hx (pe_bm PySem.F.plainAttrs_list PySem.F.slot_list_pop PySem.F.type_list_pop mt_popAt (pe_var hN hv hd hcd) (L2.pa_cons he.pe L2.pa_nil hs) hbase hfew hline hs rfl) hsw hf) ?_⟩
  rintro D σ H ⟨B, tp, env, ta, RS, h⟩
  unfold popAtC at h
  split at h
  · rename_i ds q
    obtain ⟨a, xs, ea, hl, r⟩ := RS.ownAt q
    refine ⟨_, ea, .inl ⟨rfl, xs, SqL.of hl⟩, on_of RS h fun z t v H1 R1 K1 V1 h1 => ?_⟩
    split at h1
    · rename_i k
      unfold popOf at h1
      split at h1
      · rename_i hlim
        split at h1
        · rename_i m hm
          cases ed : ds[m]? with
          | none => rw [ed] at h1; exact h1.elim
          | some d =>
            rw [ed] at h1
            obtain ⟨a', ys, ea', hl', r'⟩ := R1.ownAt q
            rw [ea] at ea'
            cases ea'
            obtain ⟨w, hw, rw'⟩ := r'.get ed
            obtain ⟨h5, h6, h7, h8⟩ := ixN_seq hm
            have hb : (ds.length : Int) ≤ 16777216 := by have := hlim; unfold LIM at this; omega
            refine ⟨a, ys, k, m, w, rfl, by rw [V1.int], hl', by omega, by omega, by rw [r'.length]; exact h5, hw, ?_⟩
            have R2 := R1.mut q ea hl' (r'.eraseIdx m)
            have V2 : RepV X.K c tp (upd H1 a (.lst (ys.eraseIdx m))) (upd H1 a (.lst (ys.eraseIdx m))) w (.val d) := Rep.st rw' (stab_lst hl')
            exact h1 tp _ _ (.refl _) (K1.st.trans (stab_lst hl')) (RepS.store R2 R2 V2 rfl)
        · exact h1.elim
      · exact h1.elim
    · exact h1.elim
  · exact h.elim
/-- x.append(y.pop(k)) -/
theorem s_appPop {i j : Nat} {x y : Str} {p apos cpos py ypos zpos : Pos} (he : PEv X c W e f) (hN : X.N[i]? = some x := by rfl) (hv : Vis X.env.scope x := by first | exact Or.inl rfl | exact Or.inr (Or.inl rfl) | exact Or.inr (Or.inr rfl))
    (hj : X.N[j]? = some y := by rfl) (hvy : Vis X.env.scope y := by first | exact Or.inl rfl | exact Or.inr (Or.inl rfl) | exact Or.inr (Or.inr rfl))
    (hd : (x == ("__debug__" : Str)) = false := by decide) (hcd : (x == ("__classdict__" : Str)) = false := by decide) (hd2 : (y == ("__debug__" : Str)) = false := by decide) (hcd2 : (y == ("__classdict__" : Str)) = false := by decide)
    (hbase : attributeBase (.Name x p) "append" X.env (eval (.Name x p) X.env) = eval (.Name x p) X.env := by rfl)
    (hbase2 : attributeBase (.Name y py) "pop" X.env (eval (.Name y py) X.env) = eval (.Name y py) X.env := by rfl)
    (hfew : ((backTo cpos (starEach [.Call (.Attribute (.Name y py) "pop" ypos) [e] [] zpos] X.env)).all (fun x => !x.1) && (backToKw cpos (keywordEach [] X.env)).all (fun x => x.1.isSome)
      && decide (([.Call (.Attribute (.Name y py) "pop" ypos) [e] [] zpos] : List Expr).length + ([] : List Keyword).length + (if ([] : List Keyword).isEmpty then 0 else 1) < 30)) = true := by rfl)
    (hfew2 : ((backTo zpos (starEach [e] X.env)).all (fun x => !x.1) && (backToKw zpos (keywordEach [] X.env)).all (fun x => x.1.isSome)
      && decide ([e].length + ([] : List Keyword).length + (if ([] : List Keyword).isEmpty then 0 else 1) < 30)) = true := by rfl)
    (hline : (apos.endLine == cpos.line) = true := by rfl) (hline2 : (ypos.endLine == zpos.line) = true := by rfl) (hs : starEach [e] X.env = (false, eval e X.env) :: starEach [] X.env := by rfl)
    (hs2 : starEach [.Call (.Attribute (.Name y py) "pop" ypos) [e] [] zpos] X.env = (false, eval (.Call (.Attribute (.Name y py) "pop" ypos) [e] [] zpos) X.env) :: starEach [] X.env := by rfl)
    (hsw : swapsWith (.Call (.Attribute (.Name x p) "append" apos) [.Call (.Attribute (.Name y py) "pop" ypos) [e] [] zpos] [] cpos) none pos.line X.env = pure false := by rfl) :
    PSv X c W (.Expr (.Call (.Attribute (.Name x p) "append" apos) [.Call (.Attribute (.Name y py) "pop" ypos) [e] [] zpos] [] cpos) pos) (appPopC i j f) := by
  refine ⟨ps_mono (L2.ps_expr (pe_bm PySem.F.plainAttrs_list PySem.F.slot_list_append PySem.F.type_list_append mt_append (pe_var hN hv hd hcd)
    (L2.pa_cons (pe_bm PySem.F.plainAttrs_list PySem.F.slot_list_pop PySem.F.type_list_pop mt_popAt (pe_var hj hvy hd2 hcd2) (L2.pa_cons he.pe L2.pa_nil hs) hbase2 hfew2 hline2 hs rfl) L2.pa_nil hs2) hbase hfew hline hs2 rfl) hsw) ?_⟩
  rintro D σ H ⟨B, tp, env, ta, RS, h⟩
  unfold appPopC at h
  split at h
  · rename_i ds es q1 q2
    obtain ⟨a, xs, ea, hl, r⟩ := RS.ownAt q1
    obtain ⟨b, zs, eb, hlb, rb⟩ := RS.ownAt q2
    refine ⟨_, ea, .inl ⟨rfl, xs, SqL.of hl⟩, _, eb, .inl ⟨rfl, zs, SqL.of hlb⟩, on_of RS h fun z t v H1 R1 K1 V1 h1 => ?_⟩
    split at h1
    · rename_i k
      split at h1
      · rename_i hlim
        split at h1
        · rename_i m hm
          cases ed : es[m]? with
          | none => rw [ed] at h1; exact h1.elim
          | some d =>
            rw [ed] at h1
            obtain ⟨a', ys, ea', hl', r'⟩ := R1.ownAt q1
            rw [ea] at ea'
            cases ea'
            obtain ⟨b', ws, eb', hlb', rb'⟩ := R1.ownAt q2
            rw [eb] at eb'
            cases eb'
            have hab : a ≠ b := fun z => hlim.2.2 (R1.dist i j a ⟨⟨_, q1, trivial⟩, ea⟩ ⟨⟨_, q2, trivial⟩, by rw [z]; exact eb⟩)
            obtain ⟨w, hw, rw'⟩ := rb'.get ed
            obtain ⟨h5, h6, h7, h8⟩ := ixN_seq hm
            have hb : (es.length : Int) ≤ 16777216 := by have := hlim.2.1; unfold LIM at this; omega
            refine ⟨b, ws, k, m, w, rfl, by rw [V1.int], hlb', by omega, by omega, by rw [rb'.length]; exact h5, hw, ?_⟩
            have R2 := R1.mut q2 eb hlb' (rb'.eraseIdx m)
            have hl2 : upd H1 b (.lst (ws.eraseIdx m)) a = some (.lst ys) := by rw [upd_ne hab]; exact hl'
            refine ⟨a, ys, w, rfl, rfl, hl2, by rw [r'.length, sizeLine_eq]; exact hlim.1, ?_⟩
            have q1' : (env.set j (.own (es.eraseIdx m)))[i]? = some (.own ds) := by rw [List.getElem?_set_ne (Ne.symm hlim.2.2)]; exact q1
            have R3 := R2.mut q1' ea hl2 ((r'.append (.cons rw' .nil)).st (stab_lst hlb'))
            exact h1 tp σ _ (.refl _) ((K1.st.trans (stab_lst hlb')).trans (stab_lst hl2)) R3
        · exact h1.elim
      · exact h1.elim
    · exact h1.elim
  · exact h.elim
end
end MP

/-! MPg: stores by place, while, for, what is walked. -/
namespace MP
open PySem PySem.Spec PyProof.Rows L2
section
variable {X : Cx} {c : Ct} {W : WX} {st : Stmt} {e k : Expr} {f g : Ev} {cs : Cs} {pos : Pos}
theorem s_set {i : Nat} {x : Str} {p tpos : Pos} (he : PEv X c W e f) (hk : PEv X c W k g) (hN : X.N[i]? = some x := by rfl) (hv : Vis X.env.scope x := by first | exact Or.inl rfl | exact Or.inr (Or.inl rfl) | exact Or.inr (Or.inr rfl))
    (hd : (x == ("__debug__" : Str)) = false := by decide) (hcd : (x == ("__classdict__" : Str)) = false := by decide)
    (hsb : ∀ v, assign (.Subscript (.Name x p) k tpos) X.env v = (do
      let ov ← holding [v] (eval (.Name x p) X.env)
      let iv ← holding [v, ov] (eval k X.env)
      standAt tpos
      holding [v, ov, iv] (setItem ov iv v)
      release [v, ov, iv] []) := by exact fun _ => rfl)
    (hs : swapsWithSole [.Subscript (.Name x p) k tpos] e pos.line X.env = pure false := by rfl) (hw : swappedStores [.Subscript (.Name x p) k tpos] e X.env = pure none := by rfl)
    (h1 : (assignEach [.Subscript (.Name x p) k tpos] X.env).map (·.2) = [assign (.Subscript (.Name x p) k tpos) X.env] := by rfl) :
    PSv X c W (.Assign [.Subscript (.Name x p) k tpos] e pos) (setC i f g) := by
  refine ⟨ps_mono (ps_asg he.pe (pg_sub (pe_var hN hv hd hcd) hk.pe set_list hsb) hs hw h1) ?_⟩
  rintro D σ H ⟨B, tp, env, ta, RS, h⟩
  refine on_of RS h fun r t v H1 R1 K1 V1 h1 => ?_
  split at h1
  · rename_i ds q
    obtain ⟨a, xs, ea, hl, rr⟩ := R1.ownAt q
    refine ⟨_, ea, on_of R1 (h1.le (.refl _) K1.st) fun z t2 u H2 R2 K2 V2 h2 => ?_⟩
    split at h2
    · rename_i d m
      cases em : ixN ds.length m with
      | none => rw [em] at h2; exact h2.elim
      | some j =>
        rw [em] at h2
        obtain ⟨a', ys, ea', hl', r'⟩ := R2.ownAt q
        rw [ea] at ea'
        cases ea'
        refine ⟨a, ys, m, j, rfl, V2.int, hl', by rw [r'.length]; exact em, ?_⟩
        exact h2 tp σ _ (.refl _) (K2.st.trans (stab_lst hl')) (R2.mut q ea hl' (Reps.set (Rep.st V1 K2.st) j r'))
    · exact h2.elim
  · exact h1.elim
end

/-! ### while -/
def whileC (t : Tv) (f : Cs) : Nat → Cs
  | 0 => fun _ _ => none
  | n + 1 => fun env ta => match t env ta with
    | none => none
    | some (.error x, ta') => some (.ex x, env, ta')
    | some (.ok false, ta') => some (.nx, env, ta')
    | some (.ok true, ta') => match f env ta' with
      | some (.nx, e', t') => whileC t f n e' t'
      | some (.ct, e', t') => whileC t f n e' t'
      | some (.bk, e', t') => some (.nx, e', t')
      | r => r
section
variable {X : Cx} {c : Ct} {W : WX} {cnd : Expr} {body : List Stmt} {t : Tv} {f : Cs} {pos : Pos}
theorem s_while (n : Nat) (hp : PassesOwn (model X.prog X.w) X.A X.env X.xe) (hc : PTv X c W cnd t) (hb : PSsv X c W body f) : PSv X c W (.While cnd body [] pos) (whileC t f n) := by
  refine ⟨ps_mono (ps_while hp hc.pt hb.ps) ?_⟩
  rintro D σ H ⟨B, tp, env, ta, RS, h⟩
  refine ⟨fun m σ' H' => ∃ B tp env ta, RepS X.K c B tp σ' H' env ta ∧ SPost X.K c W B tp H' D (whileC t f m env ta), ⟨n, B, tp, env, ta, RS, h⟩, ?_⟩
  rintro m σ1 H1 ⟨B, tp, env, ta, RS, h⟩
  cases m with
  | zero => exact h.elim
  | succ m =>
    refine ⟨B, tp, env, ta, RS, ?_⟩
    unfold whileC at h
    cases e : t env ta with
    | none => rw [e] at h; exact h
    | some p =>
      obtain ⟨r, t'⟩ := p
      rw [e] at h
      cases r with
      | error x => exact fun cls d H' R' K' er => h tp σ1 H' cls d (.refl _) K'.st R' er
      | ok b =>
        intro H2 R2 K2
        cases b with
        | false => exact h tp σ1 H2 (.refl _) K2.st R2
        | true =>
          dsimp only at h
          refine ⟨fun σ' H' => ∃ B tp env ta, RepS X.K c B tp σ' H' env ta ∧ SPost X.K c W B tp H' D (whileC t f m env ta), fun σ' H' q => ⟨m, Nat.lt_succ_self m, q⟩, B, tp, env, t', R2, ?_⟩
          have h := h.le (.refl _) K2.st
          cases e2 : f env t' with
          | none => rw [e2] at h; exact h
          | some p =>
            obtain ⟨fl, e', t2⟩ := p
            rw [e2] at h
            cases fl with
            | nx => exact fun tp' σ' H' l s R => ⟨B, tp', e', t2, R, h.le l s⟩
            | ct => exact fun tp' σ' H' l s R => ⟨B, tp', e', t2, R, h.le l s⟩
            | bk => exact h
            | rt z => exact h
            | ex x => exact h
end

/-! ### what is walked -/
abbrev Iv := SE → TapeO → Option (Except Str (List D) × TapeO)
/-- the walk J yields ds, from H1 on, wherever Rl H1 holds -/
def JW (K : PySem.W.Frag) (Rl : Hp → Prop) (J : It) (ds : List D) : Prop := ∀ i H, Rl H → (∀ d, ds[i]? = some d → J.go i H ∧ ∀ x H', J.yld i H x H' → Same H H' ∧ Rep K H' x d) ∧ (ds.length ≤ i → J.stop i H)
/-- strong: the walk stands whatever the body changes; else whatever an expression may change -/
def IPost (K : PySem.W.Frag) (c : Ct) (W : WX) (strong : Bool) (B : Hp) (tp : Option Addr) (σ : L2.St) (H : Hp) (env : SE) (r : Option (Except Str (List D) × TapeO)) (R : It → Hp → Prop) : Prop :=
  match r with
  | none => False
  | some (.ok ds, ta') => ∀ J H', RepS K c B tp σ H' env ta' → Kp c tp H H' → JW K (fun H2 => if strong = true then Stab H' H2 else Kp c tp H' H2) J ds → R J H'
  | some (.error x, ta') => ∀ cls d H', RepS K c B tp σ H' env ta' → Kp c tp H H' → ErrIs c H' cls d x → W cls d σ H'
def tIt (K : PySem.W.Frag) (c : Ct) (W : WX) (strong : Bool) (f : Iv) : TI := fun σ H R => ∃ B tp env ta, RepS K c B tp σ H env ta ∧ IPost K c W strong B tp σ H env (f env ta) R
structure PIv (X : Cx) (c : Ct) (W : WX) (strong : Bool) (tg e : Expr) (f : Iv) : Prop where
  pi : PI X tg e (tIt X.K c W strong f)
theorem pi_mono {X : Cx} {tg e : Expr} {t t' : TI} (h : PI X tg e t) (i : ∀ σ H Q, t' σ H Q → t σ H Q) : PI X tg e t' := ⟨fun pins s σ H Q I w => h.run pins s σ H Q I (i σ H Q w)⟩
theorem pi_or {X : Cx} {tg e : Expr} {t u : TI} (h : PI X tg e t) (h' : PI X tg e u) : PI X tg e (fun σ H R => t σ H R ∨ u σ H R) := ⟨fun pins s σ H Q I w => w.elim (h.run pins s σ H Q I) (h'.run pins s σ H Q I)⟩
def seqI (f : Ev) : Iv := fun env ta => match f env ta with
  | none => none
  | some (.error x, t) => some (.error x, t)
  | some (.ok r, t) => (r.seq?).map fun ds => (.ok ds, t)
theorem jw_list {K : PySem.W.Frag} {Rl : Hp → Prop} {H1 : Hp} {a : Addr} {xs : List V} {ds : List D} (h : ∀ H, Rl H → SqL K H a xs ∧ Stab H1 H) (r : Reps K H1 xs ds) : JW K Rl (Itl K a) ds := by
  intro i H hR
  obtain ⟨hs, st⟩ := h H hR
  refine ⟨fun d e => ?_, fun hl => ⟨xs, hs, by rw [r.length]; exact hl⟩⟩
  obtain ⟨v, e1, r1⟩ := r.get e
  refine ⟨⟨xs, v, hs, e1⟩, fun x H' y => ?_⟩
  obtain ⟨rfl, y⟩ := y
  have q := y xs hs
  rw [e1] at q
  cases q
  exact ⟨Same.refl _, r1.st st⟩
theorem jw_tup {K : PySem.W.Frag} {Rl : Hp → Prop} {H1 : Hp} {a : Addr} {xs : List V} {ds : List D} (h : ∀ H, Rl H → SqT K H a xs ∧ Stab H1 H) (r : Reps K H1 xs ds) : JW K Rl (Itt K a) ds := by
  intro i H hR
  obtain ⟨hs, st⟩ := h H hR
  refine ⟨fun d e => ?_, fun hl => ⟨xs, hs, by rw [r.length]; exact hl⟩⟩
  obtain ⟨v, e1, r1⟩ := r.get e
  refine ⟨⟨xs, v, hs, e1⟩, fun x H' y => ?_⟩
  obtain ⟨rfl, y⟩ := y
  have q := y xs hs
  rw [e1] at q
  cases q
  exact ⟨Same.refl _, r1.st st⟩
section
variable {X : Cx} {c : Ct} {W : WX} {tg e : Expr} {f : Ev} {b : Bool}
/-- a list or a tuple, whose result does not change: a datum -/
def Sl.isVal? : Sl → Bool
  | .val _ => true
  | _ => false
/-- over data (frozen) -/
def seqF (f : Ev) : Iv := fun env ta => match f env ta with
  | none => none
  | some (.error x, t) => some (.error x, t)
  | some (.ok (.val (.tup ds)), t) => some (.ok ds, t)
  | some (.ok (.val (.lst ds)), t) => some (.ok ds, t)
  | _ => none
theorem i_seqF (he : PEv X c W e f) : PIv X c W b tg e (seqF f) := by
  refine ⟨pi_mono (pi_or (pi_list he.pe) (pi_tup he.pe)) ?_⟩
  rintro σ H R ⟨B, tp, env, ta, RS, h⟩
  unfold seqF at h
  cases q : f env ta with
  | none => rw [q] at h; exact h.elim
  | some p =>
    obtain ⟨r, t⟩ := p
    rw [q] at h
    cases r with
    | error x => exact .inl ⟨B, tp, env, ta, RS, by rw [q]; exact h⟩
    | ok r =>
      have st : ∀ {H1 H2 : Hp}, (if b = true then Stab H1 H2 else Kp c tp H1 H2) → Stab H1 H2 := fun {H1 H2} hh => by
        cases b with
        | true => exact hh
        | false => exact hh.st
      cases r with
      | val d =>
        cases d with
        | tup ds =>
          refine .inr ⟨B, tp, env, ta, RS, ?_⟩
          rw [q]
          intro v H1 R1 K1 V1
          obtain ⟨a, xs, rfl, hs, r⟩ := V1.tup
          exact ⟨a, rfl, ⟨xs, hs⟩, h _ H1 R1 K1 (jw_tup (fun H2 hh => ⟨(st hh).sqT hs, st hh⟩) r)⟩
        | lst ds =>
          refine .inl ⟨B, tp, env, ta, RS, ?_⟩
          rw [q]
          intro v H1 R1 K1 V1
          cases (show Rep X.K H1 v (.lst ds) from V1) with
          | lst hs r => exact ⟨_, rfl, ⟨_, hs.sq⟩, h _ H1 R1 K1 (jw_list (fun H2 hh => ⟨((st hh).fz hs).sq, st hh⟩) r)⟩
        | _ => exact h.elim
      | _ => exact h.elim
/-- over anything, in an expression -/
theorem i_seq (he : PEv X c W e f) : PIv X c W false tg e (seqI f) := by
  refine ⟨pi_mono (pi_or (pi_list he.pe) (pi_tup he.pe)) ?_⟩
  rintro σ H R ⟨B, tp, env, ta, RS, h⟩
  unfold seqI at h
  cases q : f env ta with
  | none => rw [q] at h; exact h.elim
  | some p =>
    obtain ⟨r, t⟩ := p
    rw [q] at h
    cases r with
    | error x => exact .inl ⟨B, tp, env, ta, RS, by rw [q]; exact h⟩
    | ok r =>
      dsimp only at h
      have kp : ∀ {H1 H2 : Hp}, (if false = true then Stab H1 H2 else Kp c tp H1 H2) → Kp c tp H1 H2 := fun {H1 H2} hh => hh
      cases e2 : r.seq? with
      | none => rw [e2] at h; exact h.elim
      | some ds =>
        rw [e2] at h
        cases r with
        | un => cases e2
        | val d =>
          cases d with
          | tup es =>
            cases e2
            refine .inr ⟨B, tp, env, ta, RS, ?_⟩
            rw [q]
            intro v H1 R1 K1 V1
            obtain ⟨a, xs, rfl, hs, r⟩ := V1.tup
            exact ⟨a, rfl, ⟨xs, hs⟩, h _ H1 R1 K1 (jw_tup (fun H2 hh => ⟨(kp hh).st.sqT hs, (kp hh).st⟩) r)⟩
          | lst es =>
            cases e2
            refine .inl ⟨B, tp, env, ta, RS, ?_⟩
            rw [q]
            intro v H1 R1 K1 V1
            cases (show Rep X.K H1 v (.lst ds) from V1) with
            | lst hs r => exact ⟨_, rfl, ⟨_, hs.sq⟩, h _ H1 R1 K1 (jw_list (fun H2 hh => ⟨((kp hh).st.fz hs).sq, (kp hh).st⟩) r)⟩
          | _ => cases e2
        | own es =>
          cases e2
          refine .inl ⟨B, tp, env, ta, RS, ?_⟩
          rw [q]
          intro v H1 R1 K1 V1
          obtain ⟨a, xs, rfl, n, nv, hl, r⟩ := V1
          exact ⟨a, rfl, ⟨xs, SqL.of hl⟩, h _ H1 R1 K1 (jw_list (fun H2 hh => ⟨SqL.of ((kp hh).kp _ _ hl nv), (kp hh).st⟩) r)⟩
        | bor es =>
          cases e2
          refine .inl ⟨B, tp, env, ta, RS, ?_⟩
          rw [q]
          intro v H1 R1 K1 V1
          obtain ⟨a, xs, rfl, hl, nv, r⟩ := V1
          exact ⟨a, rfl, ⟨xs, SqL.of hl⟩, h _ H1 R1 K1 (jw_list (fun H2 hh => ⟨SqL.of ((kp hh).kp _ _ hl nv), (kp hh).st⟩) r)⟩
        | tape => cases e2
        | dic _ => cases e2
        | bdc _ => cases e2
end
/-! ranges -/
def rgL (lo : Int) (n : Nat) : List D := (List.range n).map fun i => D.int (lo + (i : Nat))
def small62 (i : Int) : Bool := decide (-(2 ^ 62) ≤ i ∧ i < 2 ^ 62)
def rg1S : List Sl → Option (List D)
  | [.val (.int j)] => if small62 j = true then some (rgL 0 j.toNat) else none
  | _ => none
def rg2S : List Sl → Option (List D)
  | [.val (.int i), .val (.int j)] => if small62 i = true ∧ small62 j = true then some (rgL i (j - i).toNat) else none
  | _ => none
def rg3S : List Sl → Option (List D)
  | [.val (.int i), .val (.int j), .val (.int k)] => if small62 i = true ∧ small62 j = true ∧ k ≠ 0 ∧ k.natAbs < 1073741824 ∧ Builtin.Range.small i j k = true ∧ 0 ≤ Builtin.Range.rangeSize i j k then some ((List.range (Builtin.Range.rangeSize i j k).toNat).map fun m => D.int (i + (m : Nat) * k)) else none
  | _ => none
def argI (op : List Sl → Option (List D)) (fs : List Ev) : Iv := fun env ta => match evs fs env ta with
  | none => none
  | some (.error x, t) => some (.error x, t)
  | some (.ok rs, t) => (op rs).map fun ds => (.ok ds, t)
theorem jw_range {K : PySem.W.Frag} {Rl : Hp → Prop} {lo : Int} {n : Nat} : JW K Rl (Itr lo n) (rgL lo n) := by
  intro i H _
  unfold rgL
  refine ⟨fun d e => ?_, fun hl => ?_⟩
  · rw [List.getElem?_map] at e
    cases q : (List.range n)[i]? with
    | none => rw [q] at e; cases e
    | some j =>
      rw [q] at e
      cases e
      obtain ⟨h1, h2⟩ := List.getElem?_eq_some_iff.mp q
      rw [List.length_range] at h1
      rw [List.getElem_range] at h2
      subst h2
      refine ⟨h1, fun x H' y => ?_⟩
      obtain ⟨rfl, rfl⟩ := y
      exact ⟨Same.refl _, Rep.int _⟩
  · rw [List.length_map, List.length_range] at hl; exact hl
theorem arg_of {K : PySem.W.Frag} {c : Ct} {W : WX} {b : Bool} {op : List Sl → Option (List D)} {fs : List Ev} {B : Hp} {tp : Option Addr} {σ : L2.St} {H : Hp} {env : SE} {ta : TapeO} {R : It → Hp → Prop} {G : List V → Hp → Prop} (RS : RepS K c B tp σ H env ta) (h : IPost K c W b B tp σ H env (argI op fs env ta) R)
    (go : ∀ rs t vs H1 ds, op rs = some ds → RepS K c B tp σ H1 env t → Kp c tp H H1 → RepVs K c tp H H1 vs rs → IPost K c W b B tp σ H env (some (.ok ds, t)) R → G vs H1) : tAs K c W fs σ H G := by
  refine ⟨B, tp, env, ta, RS, ?_⟩
  unfold argI at h
  cases q : evs fs env ta with
  | none => rw [q] at h; exact h
  | some p =>
    obtain ⟨r, t⟩ := p
    rw [q] at h
    cases r with
    | error x => exact h
    | ok rs =>
      dsimp only at h
      intro vs H1 R1 K1 VS
      cases e : op rs with
      | none => rw [e] at h; exact h.elim
      | some ds => rw [e] at h; exact go rs t vs H1 ds e R1 K1 VS h
section
variable {X : Cx} {c : Ct} {W : WX} {tg a a2 a3 : Expr} {fs : List Ev} {b : Bool} {p pos : Pos}
theorem i_range1 (hm : X.mg "range" = none) (ha : PAv X c W [a] fs) (hg : Gl X "range" := by rfl) (hs : starEach [a] X.env = [(false, eval a X.env)] := by rfl) : PIv X c W b tg (.Call (.Name "range" p) [a] [] pos) (argI rg1S fs) := by
  refine ⟨pi_mono (pi_range1 hg hm ha.pa hs) ?_⟩
  rintro σ H R ⟨B, tp, env, ta, RS, h⟩
  refine arg_of RS h fun rs t vs H1 ds e R1 K1 VS h => ?_
  unfold rg1S at e
  split at e
  · rename_i j
    cases VS with
    | cons h1 h2 =>
      cases h2
      split at e
      · rename_i hj
        cases e
        have hj' := of_decide_eq_true (show decide _ = true from hj)
        exact ⟨j, by rw [h1.int], hj'.1, hj'.2, h _ H1 R1 K1 jw_range⟩
      · cases e
  · cases e
theorem i_range2 (hm : X.mg "range" = none) (ha : PAv X c W [a, a2] fs) (hg : Gl X "range" := by rfl) (hs : starEach [a, a2] X.env = [(false, eval a X.env), (false, eval a2 X.env)] := by rfl) (hs2 : starEach [a2] X.env = [(false, eval a2 X.env)] := by rfl) :
    PIv X c W b tg (.Call (.Name "range" p) [a, a2] [] pos) (argI rg2S fs) := by
  refine ⟨pi_mono (pi_range2 hg hm ha.pa hs hs2) ?_⟩
  rintro σ H R ⟨B, tp, env, ta, RS, h⟩
  refine arg_of RS h fun rs t vs H1 ds e R1 K1 VS h => ?_
  unfold rg2S at e
  split at e
  · rename_i i j
    cases VS with
    | cons h1 h2 =>
      cases h2 with
      | cons h2 h3 =>
        cases h3
        split at e
        · rename_i hj
          cases e
          have hi' := of_decide_eq_true (show decide _ = true from hj.1)
          have hj' := of_decide_eq_true (show decide _ = true from hj.2)
          exact ⟨i, j, by rw [h1.int, h2.int], ⟨hi'.1, hi'.2, hj'.1, hj'.2⟩, h _ H1 R1 K1 jw_range⟩
        · cases e
  · cases e
theorem jw_rangeC {K : PySem.W.Frag} {Rl : Hp → Prop} {lo k : Int} {n : Nat} : JW K Rl (Itc lo k n) ((List.range n).map fun m => D.int (lo + (m : Nat) * k)) := by
  intro i H _
  refine ⟨fun d e => ?_, fun hl => ?_⟩
  · rw [List.getElem?_map] at e
    cases q : (List.range n)[i]? with
    | none => rw [q] at e; cases e
    | some j =>
      rw [q] at e
      cases e
      obtain ⟨h1, h2⟩ := List.getElem?_eq_some_iff.mp q
      rw [List.length_range] at h1
      rw [List.getElem_range] at h2
      subst h2
      refine ⟨h1, fun x H' y => ?_⟩
      obtain ⟨rfl, rfl⟩ := y
      exact ⟨Same.refl _, Rep.int _⟩
  · rw [List.length_map, List.length_range] at hl; exact hl
theorem i_range3 (hm : X.mg "range" = none) (ha : PAv X c W [a, a2, a3] fs) (hg : Gl X "range" := by rfl)
    (hs : starEach [a, a2, a3] X.env = (false, eval a X.env) :: starEach [a2, a3] X.env := by rfl) (hpl : (backTo pos (starEach [a2, a3] X.env)).any (·.1) = false := by rfl) :
    PIv X c W b tg (.Call (.Name "range" p) [a, a2, a3] [] pos) (argI rg3S fs) := by
  refine ⟨pi_mono (pi_range3 hg hm ha.pa hs hpl) ?_⟩
  rintro σ H R ⟨B, tp, env, ta, RS, h⟩
  refine arg_of RS h fun rs t vs H1 ds e R1 K1 VS h => ?_
  unfold rg3S at e
  split at e
  · rename_i i j k
    cases VS with
    | cons h1 h2 =>
      cases h2 with
      | cons h2 h3 =>
        cases h3 with
        | cons h3 h4 =>
          cases h4
          split at e
          · rename_i hj
            cases e
            exact ⟨i, j, k, (Builtin.Range.rangeSize i j k).toNat, by rw [h1.int, h2.int, h3.int], ⟨hj.2.2.1, hj.2.2.2.1, hj.2.2.2.2.1, (Int.toNat_of_nonneg hj.2.2.2.2.2).symm⟩, h _ H1 R1 K1 jw_rangeC⟩
          · cases e
  · cases e
end
/-! ### the targets -/
inductive Pt where
  | nm (j : Nat) | tu (js : List Nat)
inductive Tg where
  | one (j : Nat) | tup (js : List Nat) | pat (ps : List Pt)
def gNames : List Nat → TGs
  | [] => gNil
  | j :: js => gCons (gName j) (gNames js)
def Pt.g (K : PySem.W.Frag) : Pt → TG
  | .nm j => gName j
  | .tu js => gTup K js.length (gNames js)
def gPats (K : PySem.W.Frag) : List Pt → TGs
  | [] => gNil
  | p :: ps => gCons (p.g K) (gPats K ps)
def Tg.g (K : PySem.W.Frag) : Tg → TG
  | .one j => gName j
  | .tup js => gTup K js.length (gNames js)
  | .pat ps => gTup K ps.length (gPats K ps)
def Pt.slots : Pt → List Nat
  | .nm j => [j]
  | .tu js => js
def Tg.slots : Tg → List Nat
  | .one j => [j]
  | .tup js => js
  | .pat ps => (ps.map Pt.slots).flatten
def setAll : List Nat → List D → SE → SE
  | j :: js, d :: ds, env => setAll js ds (env.set j (.val d))
  | _, _, env => env
def Pt.set : Pt → D → SE → Option SE
  | .nm j, d, env => some (env.set j (.val d))
  | .tu js, .tup ds, env => if ds.length = js.length then some (setAll js ds env) else none
  | _, _, _ => none
def setPats : List Pt → List D → SE → Option SE
  | [], [], env => some env
  | p :: ps, d :: ds, env => (p.set d env).bind (setPats ps ds)
  | _, _, _ => none
def Tg.set : Tg → D → SE → Option SE
  | .pat ps, .tup ds, env => setPats ps ds env
  | .one j, d, env => some (env.set j (.val d))
  | .tup js, .tup ds, env => if ds.length = js.length then some (setAll js ds env) else none
  | _, _, _ => none
theorem wipe_set {v : Option V} : ∀ {vs : List Nat} {σ : L2.St} {j : Nat}, j ∈ vs → wipe (σ.set j v) vs = wipe σ vs
  | [], _, _, h => by simp at h
  | i :: vs, σ, j, h => by
    show (wipe (σ.set j v) vs).set i none = (wipe σ vs).set i none
    by_cases hm : j ∈ vs
    · rw [wipe_set hm]
    · have hj : j = i := by
        rcases List.mem_cons.mp h with h | h
        · exact h
        · exact absurd h hm
      subst hj
      have e : ∀ (us : List Nat) (σ : L2.St), j ∉ us → wipe (σ.set j v) us = (wipe σ us).set j v := fun us => by
        induction us with
        | nil => intro σ _; rfl
        | cons k us ih =>
          intro σ hk
          simp only [List.mem_cons, not_or] at hk
          show (wipe (σ.set j v) us).set k none = ((wipe σ us).set k none).set j v
          rw [ih σ hk.2, List.set_comm _ _ hk.1]
      rw [e vs σ hm, List.set_set]
theorem gNames_ok {K : PySem.W.Frag} {c : Ct} {B : Hp} {tp : Option Addr} {H : Hp} {ta : TapeO} : ∀ {js : List Nat} {ds : List D} {vs : List V} {σ : L2.St} {env : SE}, RepS K c B tp σ H env ta → Reps K H vs ds → ds.length = js.length →
    ∃ σ', (∀ Q : L2.St → Hp → Prop, Q σ' H → gNames js vs σ H Q) ∧ RepS K c B tp σ' H (setAll js ds env) ta ∧ ∀ ws : List Nat, (∀ j ∈ js, j ∈ ws) → wipe σ' ws = wipe σ ws
  | [], ds, vs, σ, env, R, r, hl => by
    have e : ds = [] := List.eq_nil_of_length_eq_zero (by simpa using hl)
    subst e
    cases r
    exact ⟨σ, fun Q q => ⟨rfl, q⟩, R, fun _ _ => rfl⟩
  | j :: js, [], vs, σ, env, R, r, hl => by simp at hl
  | j :: js, d :: ds, vs, σ, env, R, r, hl => by
    cases r with
    | cons r1 r2 =>
      rename_i v vs
      have R1 : RepS K c B tp (σ.set j (some v)) H (env.set j (.val d)) ta := RepS.store (r := .val d) R R r1 rfl
      obtain ⟨σ', h1, h2, h3⟩ := gNames_ok (js := js) R1 r2 (by simpa using hl)
      refine ⟨σ', fun Q q => ⟨v, vs, rfl, h1 Q q⟩, h2, fun ws hw => ?_⟩
      rw [h3 ws fun k hk => hw k (List.mem_cons_of_mem _ hk), wipe_set (hw j List.mem_cons_self)]
theorem pt_ok {K : PySem.W.Frag} {c : Ct} {B : Hp} {tp : Option Addr} {H : Hp} {ta : TapeO} {t : Pt} {d : D} {v : V} {σ : L2.St} {env env' : SE} (R : RepS K c B tp σ H env ta) (r : Rep K H v d) (e : t.set d env = some env') :
    ∃ σ', (∀ Q : L2.St → Hp → Prop, Q σ' H → t.g K v σ H Q) ∧ RepS K c B tp σ' H env' ta ∧ ∀ ws : List Nat, (∀ j ∈ t.slots, j ∈ ws) → wipe σ' ws = wipe σ ws := by
  cases t with
  | nm j =>
    cases e
    exact ⟨σ.set j (some v), fun Q q => q, RepS.store (r := .val d) R R r rfl, fun ws hw => wipe_set (hw j (by simp [Pt.slots]))⟩
  | tu js =>
    cases d with
    | tup ds =>
      have e : (if ds.length = js.length then some (setAll js ds env) else none) = some env' := e
      split at e
      · rename_i hl
        cases e
        cases r with
        | tup hs r =>
          rename_i a xs
          obtain ⟨σ', h1, h2, h3⟩ := gNames_ok R r hl
          exact ⟨σ', fun Q q => ⟨a, xs, rfl, hs, by rw [r.length]; exact hl, h1 Q q⟩, h2, h3⟩
      · cases e
    | _ => cases e
theorem pats_ok {K : PySem.W.Frag} {c : Ct} {B : Hp} {tp : Option Addr} {H : Hp} {ta : TapeO} : ∀ {ps : List Pt} {ds : List D} {vs : List V} {σ : L2.St} {env env' : SE}, RepS K c B tp σ H env ta → Reps K H vs ds → setPats ps ds env = some env' →
    ∃ σ', (∀ Q : L2.St → Hp → Prop, Q σ' H → gPats K ps vs σ H Q) ∧ RepS K c B tp σ' H env' ta ∧ (∀ ws : List Nat, (∀ j ∈ (ps.map Pt.slots).flatten, j ∈ ws) → wipe σ' ws = wipe σ ws) ∧ ds.length = ps.length
  | [], [], _, σ, env, env', R, r, e => by
    cases r; cases e
    exact ⟨σ, fun Q q => ⟨rfl, q⟩, R, fun _ _ => rfl, rfl⟩
  | [], _ :: _, _, _, _, _, _, _, e => by cases e
  | _ :: _, [], _, _, _, _, _, _, e => by cases e
  | p :: ps, d :: ds, _, σ, env, env', R, r, e => by
    cases r with
    | cons r1 r2 =>
      rename_i v vs
      have e : (p.set d env).bind (setPats ps ds) = some env' := e
      cases e1 : p.set d env with
      | none => rw [e1] at e; cases e
      | some env1 =>
        rw [e1] at e
        obtain ⟨σ1, a1, a2, a3⟩ := pt_ok R r1 e1
        obtain ⟨σ2, b1, b2, b3, b4⟩ := pats_ok a2 r2 e
        refine ⟨σ2, fun Q q => ⟨v, vs, rfl, a1 _ (b1 Q q)⟩, b2, fun ws hw => ?_, by simp [b4]⟩
        rw [b3 ws fun j hj => hw j (by rw [List.map_cons, List.flatten_cons]; exact List.mem_append_right _ hj), a3 ws fun j hj => hw j (by rw [List.map_cons, List.flatten_cons]; exact List.mem_append_left _ hj)]
theorem tg_ok {K : PySem.W.Frag} {c : Ct} {B : Hp} {tp : Option Addr} {H : Hp} {ta : TapeO} {t : Tg} {d : D} {v : V} {σ : L2.St} {env env' : SE} (R : RepS K c B tp σ H env ta) (r : Rep K H v d) (e : t.set d env = some env') :
    ∃ σ', (∀ Q : L2.St → Hp → Prop, Q σ' H → t.g K v σ H Q) ∧ RepS K c B tp σ' H env' ta ∧ ∀ ws : List Nat, (∀ j ∈ t.slots, j ∈ ws) → wipe σ' ws = wipe σ ws := by
  cases t with
  | one j =>
    cases e
    exact ⟨σ.set j (some v), fun Q q => q, RepS.store (r := .val d) R R r rfl, fun ws hw => wipe_set (hw j (by simp [Tg.slots]))⟩
  | tup js =>
    cases d with
    | tup ds =>
      have e : (if ds.length = js.length then some (setAll js ds env) else none) = some env' := e
      split at e
      · rename_i hl
        cases e
        cases r with
        | tup hs r =>
          rename_i a xs
          obtain ⟨σ', h1, h2, h3⟩ := gNames_ok R r hl
          exact ⟨σ', fun Q q => ⟨a, xs, rfl, hs, by rw [r.length]; exact hl, h1 Q q⟩, h2, h3⟩
      · cases e
    | _ => cases e
  | pat ps =>
    cases d with
    | tup ds =>
      cases r with
      | tup hs r =>
        rename_i a xs
        obtain ⟨σ', h1, h2, h3, h4⟩ := pats_ok R r (show setPats ps ds env = some env' from e)
        exact ⟨σ', fun Q q => ⟨a, xs, rfl, hs, by rw [r.length]; exact h4, h1 Q q⟩, h2, h3⟩
    | _ => cases e
/-! ### for -/
def forL (t : Tg) (f : Cs) : List D → Cs
  | [] => fun env ta => some (.nx, env, ta)
  | d :: ds => fun env ta => match t.set d env with
    | none => none
    | some env1 => match f env1 ta with
      | some (.nx, e', t') => forL t f ds e' t'
      | some (.ct, e', t') => forL t f ds e' t'
      | some (.bk, e', t') => some (.nx, e', t')
      | r => r
def forC (it : Iv) (t : Tg) (f : Cs) : Cs := fun env ta => match it env ta with
  | none => none
  | some (.error x, t') => some (.ex x, env, t')
  | some (.ok ds, t') => forL t f ds env t'
section
variable {X : Cx} {c : Ct} {W : WX} {tg e : Expr} {body : List Stmt} {t : Tg} {it : Iv} {f : Cs} {pos : Pos}
theorem s_for (hp : PassesOwn (model X.prog X.w) X.A X.env X.xe) (hi : PIv X c W true tg e it) (hg : PG X tg (t.g X.K)) (hb : PSsv X c W body f) (hc : X.calm = true := by rfl)
    (hs : ∀ x, foldedSetIterable e X.env x = pure x := by exact fun _ => rfl) : PSv X c W (.For tg e body [] pos) (forC it t f) := by
  refine ⟨ps_mono (ps_for hp hc hi.pi hg hb.ps hs) ?_⟩
  rintro D σ H ⟨B, tp, env, ta, RS, h⟩
  refine ⟨B, tp, env, ta, RS, ?_⟩
  unfold forC at h
  cases q : it env ta with
  | none => rw [q] at h; exact h
  | some p =>
    obtain ⟨r, t0⟩ := p
    rw [q] at h
    cases r with
    | error x => exact fun cls d H' R' K' er => h tp σ H' cls d (.refl _) K'.st R' er
    | ok ds =>
      intro J H1 R1 K1 jw
      dsimp only at h
      refine ⟨fun i m σ' H' => Stab H1 H' ∧ m = ds.length - i ∧ i ≤ ds.length ∧ ∃ tp' env ta, RepS X.K c B tp' σ' H' env ta ∧ SPost X.K c W B tp' H' D (forL t f (ds.drop i) env ta),
        ⟨ds.length, .refl _, by simp, Nat.zero_le _, tp, env, t0, R1, by rw [List.drop_zero]; exact h.le (.refl _) K1.st⟩, ?_⟩
      rintro i m σ2 H2 ⟨st, rfl, hi, tp2, env2, ta2, R2, h2⟩
      obtain ⟨jgo, jstop⟩ := jw i H2 st
      by_cases hlt : i < ds.length
      · have e1 : ds[i]? = some ds[i] := by simp [hlt]
        obtain ⟨go, yl⟩ := jgo ds[i] e1
        refine .inr ⟨go, fun σ' H' => Stab H1 H' ∧ ∃ tp' env ta, RepS X.K c B tp' σ' H' env ta ∧ SPost X.K c W B tp' H' D (forL t f (ds.drop (i + 1)) env ta),
          fun σ' H' ⟨s', q'⟩ => ⟨ds.length - (i + 1), by omega, s', rfl, hlt, q'⟩, fun x H3 y => ?_⟩
        obtain ⟨s3, r3⟩ := yl x H3 y
        have R3 := R2.grow s3
        rw [List.drop_eq_getElem_cons hlt] at h2
        unfold forL at h2
        cases e2 : t.set ds[i] env2 with
        | none => rw [e2] at h2; exact h2.elim
        | some env3 =>
          rw [e2] at h2
          obtain ⟨σ3, g1, g2, _⟩ := tg_ok R3 r3 e2
          refine g1 _ ⟨B, tp2, env3, ta2, g2, ?_⟩
          have h3 := h2.le (.refl _) (Stab.of_same s3)
          have st3 : Stab H1 H3 := st.trans (.of_same s3)
          dsimp only at h3
          cases e4 : f env3 ta2 with
          | none => rw [e4] at h3; exact h3
          | some p =>
            obtain ⟨fl, e', t'⟩ := p
            rw [e4] at h3
            cases fl with
            | nx => exact fun tp' σ' H' l s R => ⟨st3.trans s, tp', e', t', R, h3.le l s⟩
            | ct => exact fun tp' σ' H' l s R => ⟨st3.trans s, tp', e', t', R, h3.le l s⟩
            | bk => exact h3
            | rt z => exact h3
            | ex x => exact h3
      · have e1 : ds.drop i = [] := List.drop_eq_nil_of_le (by omega)
        rw [e1] at h2
        exact .inl ⟨jstop (by omega), h2 tp2 σ2 H2 (.refl _) (.refl _) R2⟩
end
end MP

/-! MPh: comprehensions, unpacking, whole defs. -/
namespace MP
open PySem PySem.Spec PyProof.Rows L2
section
variable {K : PySem.W.Frag} {c : Ct} {tp : Option Addr} {H H0 H1 B : Hp} {σ : L2.St} {env : SE} {ta ta' : TapeO}
/-- a list that no slot owns is changed -/
theorem RepS.updL {a : Addr} {xs : List V} {o : HO} (R : RepS K c B tp σ H env ta) (h : H a = some (.lst xs)) (nv : ¬ Vol c tp a) (no : ∀ i, ¬ OwnAt env σ i a) (nB : B a = none) : RepS K c B tp σ (upd H a o) env ta where
  len := R.len
  slot := fun i sl e => by
    have q := R.slot i sl e
    cases sl with
    | un => exact q
    | val d => obtain ⟨v, e1, r⟩ := q; exact ⟨v, e1, r.st (stab_lst h)⟩
    | own ds =>
      obtain ⟨b, ys, e1, e2, r⟩ := q
      have hb : b ≠ a := fun z => no i ⟨⟨_, e, trivial⟩, by rw [← z]; exact e1⟩
      exact ⟨b, ys, e1, by rw [upd_ne hb]; exact e2, r.st (stab_lst h)⟩
    | bor _ => exact q
    | tape => exact q
    | dic fs =>
      obtain ⟨b, ys, e1, e2, r⟩ := q
      exact ⟨b, ys, e1, by rw [upd_ne (fun z => by rw [z, h] at e2; cases e2)]; exact e2, r.st (stab_lst h)⟩
    | bdc _ => exact q
  fresh := R.fresh
  dist := R.dist
  tape := R.tape.upd h fun z => nv (.inl z)
  tabs := Tabs.upd R.tabs h
  keep := fun b u e n => by
    rw [upd_ne (fun z => by rw [z, nB] at e; cases e)]; exact R.keep b u e n
  stab := R.stab.trans (stab_lst h)
theorem Kp.updL {a : Addr} {xs : List V} {o : HO} (k : Kp c tp H H1) (h : H1 a = some (.lst xs)) (n : H a = none) : Kp c tp H (upd H1 a o) where
  kp := fun b u e nv => by rw [upd_ne (fun z => by rw [z, n] at e; cases e)]; exact k.kp b u e nv
  st := k.st.trans (stab_lst h)
  nn := fun b e => by
    by_cases hb : b = a
    · rw [hb, upd_same] at e; cases e
    · rw [upd_ne hb] at e; exact k.nn b e
def wipeE (env : SE) : List Nat → SE
  | [] => env
  | v :: vs => (wipeE env vs).set v .un
theorem RepS.unset (R : RepS K c B tp σ H env ta) (i : Nat) : RepS K c B tp (σ.set i none) H (env.set i .un) ta := by
  have own : ∀ j b, OwnAt (env.set i .un) (σ.set i none) j b → i ≠ j ∧ OwnAt env σ j b := fun j b o => by
    obtain ⟨⟨fs, e1, so⟩, e2⟩ := o
    by_cases hj : i = j
    · subst hj
      by_cases hi : i < env.length
      · rw [List.getElem?_set_self hi] at e1; cases e1; exact so.elim
      · rw [List.getElem?_eq_none (by simp; omega)] at e1; cases e1
    · rw [List.getElem?_set_ne hj] at e1 e2; exact ⟨hj, ⟨fs, e1, so⟩, e2⟩
  refine ⟨by rw [List.length_set, List.length_set]; exact R.len, fun j sl e1 => ?_, fun j b o => R.fresh j b (own j b o).2, fun j1 j2 b o1 o2 => R.dist j1 j2 b (own _ _ o1).2 (own _ _ o2).2, R.tape, R.tabs, R.keep, R.stab⟩
  by_cases hj : i = j
  · subst hj
    by_cases hi : i < env.length
    · rw [List.getElem?_set_self hi] at e1; cases e1; trivial
    · rw [List.getElem?_eq_none (by simp; omega)] at e1; cases e1
  · rw [List.getElem?_set_ne hj] at e1
    have q := R.slot j sl e1
    cases sl with
    | un => trivial
    | val d => obtain ⟨w, e2, rr⟩ := q; exact ⟨w, by rw [List.getElem?_set_ne hj]; exact e2, rr⟩
    | own ds => obtain ⟨a, xs, e2, rr⟩ := q; exact ⟨a, xs, by rw [List.getElem?_set_ne hj]; exact e2, rr⟩
    | bor _ => exact q
    | tape => obtain ⟨a, e2, e3⟩ := q; exact ⟨a, e2, by rw [List.getElem?_set_ne hj]; exact e3⟩
    | dic ds => obtain ⟨a, xs, e2, rr⟩ := q; exact ⟨a, xs, by rw [List.getElem?_set_ne hj]; exact e2, rr⟩
    | bdc _ => exact q
theorem RepS.wipe (R : RepS K c B tp σ H env ta) : ∀ vs : List Nat, RepS K c B tp (L2.wipe σ vs) H (wipeE env vs) ta
  | [] => R
  | v :: vs => (R.wipe vs).unset v
/-- the frame's slots at another environment of the same frame: what is known of the heap -/
theorem RepS.move {σ' : L2.St} {env' : SE} (R : RepS K c B tp σ' H env' ta) (R0 : RepS K c B tp σ H0 env ta') (k : Kp c tp H0 H) : RepS K c B tp σ H env ta := R0.kp k R.tape R.tabs
end
/-! ### comprehensions -/
abbrev W0 : WX := fun _ _ _ _ => False
def yesT : Tv := fun _ ta => some (.ok true, ta)
def compL (t : Tg) (cnd : Tv) (elt : Ev) : List D → SE → TapeO → Option (List D × TapeO)
  | [], _, ta => some ([], ta)
  | d :: ds, env, ta => match t.set d env with
    | none => none
    | some env1 => match cnd env1 ta with
      | some (.ok true, t1) => match elt env1 t1 with
        | some (.ok (.val y), t2) => (compL t cnd elt ds env t2).map fun p => (y :: p.1, p.2)
        | _ => none
      | some (.ok false, t1) => compL t cnd elt ds env t1
      | _ => none
def compE (it : Iv) (vs : List Nat) (t : Tg) (cnd : Tv) (elt : Ev) : Ev := fun env ta => match it env ta with
  | none => none
  | some (.error x, t1) => some (.error x, t1)
  | some (.ok ds, t1) => if ds.length < LIM then (compL t cnd elt ds (wipeE env vs) t1).map fun p => (.ok (.own p.1), p.2) else none
section
variable {K : PySem.W.Frag} {c : Ct} {W : WX} {it : Iv} {t : Tg} {cnd : Tv} {elt : Ev} {vs : List Nat}
theorem comp_of (hv : ∀ j ∈ t.slots, j ∈ vs) : ∀ σ H Q, tE K c W (compE it vs t cnd elt) σ H Q → tLc (tIt K c W false it) (t.g K) (tTt K c W0 cnd) (tE K c W0 elt) vs σ H Q := by
  rintro σ H Q ⟨B, tp, env, ta, RS, h⟩
  refine ⟨B, tp, env, ta, RS, ?_⟩
  unfold compE at h
  cases q : it env ta with
  | none => rw [q] at h; exact h
  | some p =>
    obtain ⟨r, t0⟩ := p
    rw [q] at h
    cases r with
    | error x => exact h
    | ok ds =>
      dsimp only at h
      intro J H1 R1 K1 jw D0 hD
      by_cases hlim : ds.length < LIM
      · rw [if_pos hlim] at h
        cases ec : compL t cnd elt ds (wipeE env vs) t0 with
        | none => rw [ec] at h; exact h.elim
        | some fin =>
          rw [ec] at h
          have nvD : ¬ Vol c tp D0 := R1.vol hD
          have nD0 : H D0 = none := K1.nn _ hD
          have noD := RS.noOwn nD0
          have nBD := RS.noB nD0
          refine ⟨fun i m H' => m = ds.length - i ∧ i ≤ ds.length ∧ ∃ acc accD ta' rest t2, H' D0 = some (.lst acc) ∧ Reps K H' acc accD ∧ acc.length ≤ i ∧ RepS K c B tp σ H' env ta' ∧ Kp c tp H1 H' ∧
            compL t cnd elt (ds.drop i) (wipeE env vs) ta' = some (rest, t2) ∧ fin = (accD ++ rest, t2),
            ⟨ds.length, by simp, Nat.zero_le _, [], [], t0, fin.1, fin.2, upd_same, .nil, Nat.le_refl _, R1.grow (Same.new hD), .same (Same.new hD), by rw [List.drop_zero]; exact ec, rfl⟩, ?_⟩
          rintro i m H2 ⟨rfl, hi, acc, accD, ta2, rest, t2, hacc, racc, hla, R2, K2, ed, ef⟩
          obtain ⟨jgo, jstop⟩ := jw i H2 K2
          by_cases hlt : i < ds.length
          · have e1 : ds[i]? = some ds[i] := by simp [hlt]
            obtain ⟨go, yl⟩ := jgo ds[i] e1
            refine .inr ⟨go, fun H' => ∃ acc accD ta' rest t2, H' D0 = some (.lst acc) ∧ Reps K H' acc accD ∧ acc.length ≤ i + 1 ∧ RepS K c B tp σ H' env ta' ∧ Kp c tp H1 H' ∧
              compL t cnd elt (ds.drop (i + 1)) (wipeE env vs) ta' = some (rest, t2) ∧ fin = (accD ++ rest, t2), fun H' q' => ⟨ds.length - (i + 1), by omega, rfl, hlt, q'⟩, fun x H3 y => ?_⟩
            obtain ⟨s3, r3⟩ := yl x H3 y
            have R3 := R2.grow s3
            have K3 : Kp c tp H1 H3 := K2.trans (.same s3)
            rw [List.drop_eq_getElem_cons hlt] at ed
            unfold compL at ed
            cases e2 : t.set ds[i] (wipeE env vs) with
            | none => rw [e2] at ed; cases ed
            | some env3 =>
              rw [e2] at ed
              dsimp only at ed
              obtain ⟨σ3, g1, g2, g3⟩ := tg_ok (R3.wipe vs) r3 e2
              refine g1 _ ⟨?_, ?_⟩
              · rw [g3 vs hv]
                have : ∀ (us ws : List Nat), (∀ j ∈ us, j ∈ ws) → L2.wipe (L2.wipe σ ws) us = L2.wipe σ ws := by
                  intro us ws hw
                  induction us with
                  | nil => rfl
                  | cons k us ih =>
                    show (L2.wipe (L2.wipe σ ws) us).set k none = L2.wipe σ ws
                    rw [ih fun j hj => hw j (List.mem_cons_of_mem _ hj)]
                    have hk := hw k List.mem_cons_self
                    clear ih hw
                    induction ws with
                    | nil => simp at hk
                    | cons l ws ih2 =>
                      show ((L2.wipe σ ws).set l none).set k none = (L2.wipe σ ws).set l none
                      by_cases hm : k ∈ ws
                      · by_cases hkl : k = l
                        · subst hkl; rw [List.set_set]
                        · rw [List.set_comm _ _ (Ne.symm hkl), ih2 hm]
                      · have hkl : k = l := by
                          rcases List.mem_cons.mp hk with z | z
                          · exact z
                          · exact absurd z hm
                        subst hkl; rw [List.set_set]
                exact this vs vs fun j hj => hj
              · refine ⟨B, tp, env3, ta2, g2, ?_⟩
                cases e3 : cnd env3 ta2 with
                | none => rw [e3] at ed; cases ed
                | some p =>
                  obtain ⟨r, t4⟩ := p
                  rw [e3] at ed
                  cases r with
                  | error x => cases ed
                  | ok b =>
                    intro H4 R4 K4
                    have hD4 : H4 D0 = some (.lst acc) := K4.kp _ _ (s3 _ _ hacc) nvD
                    have K4' : Kp c tp H1 H4 := K3.trans K4
                    have R4' : RepS K c B tp σ H4 env t4 := R4.move R3 K4
                    cases b with
                    | false =>
                      rw [if_neg Bool.false_ne_true]
                      exact ⟨acc, accD, t4, rest, t2, hD4, (racc.st (.of_same s3)).st K4.st, Nat.le_succ_of_le hla, R4', K4', ed, ef⟩
                    | true =>
                      rw [if_pos rfl]
                      dsimp only at ed
                      refine ⟨B, tp, env3, t4, R4, ?_⟩
                      cases e5 : elt env3 t4 with
                      | none => rw [e5] at ed; cases ed
                      | some p =>
                        obtain ⟨r, t5⟩ := p
                        rw [e5] at ed
                        cases r with
                        | error x => cases ed
                        | ok z =>
                          intro v H5 R5 K5 V5
                          cases z with
                          | val yd =>
                            dsimp only at ed
                            cases e6 : compL t cnd elt (ds.drop (i + 1)) (wipeE env vs) t5 with
                            | none => rw [e6] at ed; cases ed
                            | some p =>
                              rw [e6] at ed
                              cases ed
                              have hD5 : H5 D0 = some (.lst acc) := K5.kp _ _ hD4 nvD
                              have R5' : RepS K c B tp σ H5 env t5 := R5.move R4' K5
                              refine ⟨acc, hD5, by rw [sizeLine_eq]; unfold LIM at hlim; omega, acc ++ [v], accD ++ [yd], t5, p.1, p.2, upd_same, ?_, by simp; exact hla, R5'.updL hD5 nvD noD nBD, (K4'.trans K5).updL hD5 hD, by rw [e6], by rw [ef, List.append_assoc]; rfl⟩
                              exact ((((racc.st (.of_same s3)).st K4.st).st K5.st).append (.cons V5 .nil)).st (stab_lst hD5)
                          | _ => cases ed
          · have e1 : ds.drop i = [] := List.drop_eq_nil_of_le (by omega)
            rw [e1] at ed
            cases ed
            rw [List.append_nil] at ef
            subst ef
            exact .inl ⟨jstop (by omega), h _ H2 R2 (K1.trans K2) ⟨D0, acc, rfl, nD0, nvD, hacc, racc⟩⟩
      · rw [if_neg hlim] at h; exact h.elim
end
section
variable {X : Cx} {c : Ct} {W : WX} {elt tg iter : Expr} {ifs : List Expr} {scope : Scope} {own : List (Str × Nat)} {pos : Pos} {it : Iv} {t : Tg} {cnd : Tv} {fe : Ev}
/-- the tests of a comprehension -/
structure PCn (X : Cx) (c : Ct) (ifs : List Expr) (cnd : Tv) : Prop where
  pts : PTs X ifs (tTt X.K c W0 cnd)
theorem c_nil : PCn X c [] yesT := ⟨⟨fun pins s σ H Q I h => pts_nil.run pins s σ H Q I (by
  obtain ⟨B, tp, env, ta, RS, h⟩ := h
  exact TPost.val RS h)⟩⟩
theorem c_one {e : Expr} (h : PTv X c W0 e cnd) : PCn X c [e] cnd := ⟨pts_one h.pt⟩
/-- [elt for tg in iter if ..] -/
theorem v_comp (hN : X.N.Nodup) (hi : PIv X c W false tg iter it) (own : List (Str × Nat)) (ok : blkC X.N X.env.scope scope own = true)
    (hg : ∀ (s : Shared) (H : Hp) (C : Addr) (cl : List (Str × Addr)) (fp : List Addr), PG (X.blk s H scope (compEnvC scope cl C X.env) fp) tg (t.g X.K))
    (ht : ∀ (s : Shared) (H : Hp) (C : Addr) (cl : List (Str × Addr)) (fp : List Addr), PCn (X.blk s H scope (compEnvC scope cl C X.env) fp) c ifs cnd)
    (he : ∀ (s : Shared) (H : Hp) (C : Addr) (cl : List (Str × Addr)) (fp : List Addr), PEv (X.blk s H scope (compEnvC scope cl C X.env) fp) c W0 elt fe)
    (hv : ∀ j ∈ t.slots, j ∈ own.map (·.2) := by decide) (hc : X.calm = true := by rfl) (hs : ∀ x, foldedSetIterable iter X.env x = pure x := by exact fun _ => rfl) :
    PEv X c W (.ListComp elt [⟨tg, iter, ifs, 0⟩] scope pos) (compE it (own.map (·.2)) t cnd fe) :=
  ⟨pe_mono (pe_lc (te := tE X.K c W0 fe) (tt := tTt X.K c W0 cnd) hc hN hi.pi (blkOk_by ok) hg (fun s H C cl fp => (ht s H C cl fp).pts) (fun s H C cl fp => (he s H C cl fp).pe) hs) (comp_of hv)⟩
/-- y = [..] on one line, y a local -/
theorem s_asgComp {i : Nat} {y : Str} {py spos : Pos} (hN : X.N.Nodup) (hi : PIv X c W false tg iter it) (own : List (Str × Nat)) (ok : blkC X.N X.env.scope scope own = true)
    (hg : ∀ (s : Shared) (H : Hp) (C : Addr) (cl : List (Str × Addr)) (fp : List Addr), PG (X.blk s H scope (compEnvC scope cl C X.env) fp) tg (t.g X.K))
    (ht : ∀ (s : Shared) (H : Hp) (C : Addr) (cl : List (Str × Addr)) (fp : List Addr), PCn (X.blk s H scope (compEnvC scope cl C X.env) fp) c ifs cnd)
    (he : ∀ (s : Shared) (H : Hp) (C : Addr) (cl : List (Str × Addr)) (fp : List Addr), PEv (X.blk s H scope (compEnvC scope cl C X.env) fp) c W0 elt fe)
    (hsw : swapsWith (.ListComp elt [⟨tg, iter, ifs, 0⟩] scope pos) (some (.Name y py)) spos.line X.env = pure true) (hyl : X.env.scope.names.lookup y = some .local := by rfl) (hy : X.N[i]? = some y := by rfl)
    (hv : ∀ j ∈ t.slots, j ∈ own.map (·.2) := by decide) (hc : X.calm = true := by rfl) (hs : ∀ x, foldedSetIterable iter X.env x = pure x := by exact fun _ => rfl) :
    PSv X c W (.Assign [.Name y py] (.ListComp elt [⟨tg, iter, ifs, 0⟩] scope pos) spos) (asgC i (compE it (own.map (·.2)) t cnd fe)) := by
  refine ⟨ps_mono (ps_setLc (te := tE X.K c W0 fe) (tt := tTt X.K c W0 cnd) hc hN hy hyl hsw hi.pi (blkOk_by ok) hg (fun s H C cl fp => (ht s H C cl fp).pts) (fun s H C cl fp => (he s H C cl fp).pe) hs) ?_⟩
  rintro D σ H ⟨B, tp, env, ta, RS, h⟩
  refine comp_of hv σ H _ (on_of RS h fun r t v H1 R1 K1 V1 h1 => ?_)
  cases es : r.store? with
  | none => rw [es] at h1; exact h1.elim
  | some s => rw [es] at h1; exact h1 tp _ H1 (.refl _) K1.st (RepS.store RS R1 V1 es)
end
/-! ### targets of several names -/
def unpC (js : List Nat) (f : Ev) : Cs := onE f fun r env t => match r with
  | .val (.tup ds) => if ds.length = js.length then some (.nx, setAll js ds env, t) else none
  | _ => none
section
variable {X : Cx} {c : Ct} {W : WX} {e : Expr} {f : Ev} {pos : Pos}
/-- a, b = e -/
theorem s_unp {js : List Nat} {es : List Expr} {k : Nat} {tpos : Pos} (he : PEv X c W e f) (hg : PG X (.Tuple es k tpos) (gTup X.K js.length (gNames js))) (hs : swapsWithSole [.Tuple es k tpos] e pos.line X.env = pure false := by rfl) (hw : swappedStores [.Tuple es k tpos] e X.env = pure none := by rfl)
    (h1 : (assignEach [.Tuple es k tpos] X.env).map (·.2) = [assign (.Tuple es k tpos) X.env] := by rfl) : PSv X c W (.Assign [.Tuple es k tpos] e pos) (unpC js f) := by
  refine ⟨ps_mono (ps_asg he.pe hg hs hw h1) ?_⟩
  rintro D σ H ⟨B, tp, env, ta, RS, h⟩
  refine on_of RS h fun r t v H1 R1 K1 V1 h1 => ?_
  split at h1
  · rename_i ds
    split at h1
    · rename_i hl
      obtain ⟨a, xs, rfl, hs, r⟩ := V1.tup
      obtain ⟨σ', g1, g2, _⟩ := gNames_ok R1 r hl
      exact ⟨a, xs, rfl, hs, by rw [r.length]; exact hl, g1 _ (h1 tp σ' H1 (.refl _) K1.st g2)⟩
    · exact h1.elim
  · exact h1.elim
/-- a, b = x, y: two locals -/
def par2C (i j : Nat) (fs : List Ev) : Cs := fun env ta => match evs fs env ta with
  | none => none
  | some (.error x, t) => some (.ex x, env, t)
  | some (.ok [p, q], t) => match p.store?, q with
    | some s, .val d => some (.nx, (env.set i s).set j (.val d), t)
    | _, _ => none
  | _ => none
end

/-! ### whole defs -/
def defF (n : Nat) (cs : Cs) : Fn := fun args ta => match cs (args ++ List.replicate (n - args.length) .un) ta with
  | some (.nx, _, t) => if t.isSome = ta.isSome then some (.ok (.val .non), t) else none
  | some (.rt z, _, t) => if t.isSome = ta.isSome then some (.ok z, t) else none
  | some (.ex x, _, t) => if t.isSome = ta.isSome then some (.error x, t) else none
  | _ => none
section
variable {K : PySem.W.Frag} {c : Ct} {tp : Option Addr} {H H0 H1 B : Hp} {ta ta' : TapeO}
theorem RepVs.get : ∀ {vs : List V} {xs : List Sl} {i : Nat} {x : Sl}, RepVs K c tp H0 H vs xs → xs[i]? = some x → ∃ v, vs[i]? = some v ∧ RepV K c tp H0 H v x
  | _, _, i, x, .nil, h => by simp at h
  | _, _, 0, x, .cons h1 h2, h => by simp at h; subst h; exact ⟨_, rfl, h1⟩
  | _, _, i + 1, x, .cons h1 h2, h => by
    obtain ⟨v, e, r⟩ := RepVs.get (i := i) h2 (by simpa using h)
    exact ⟨v, by simpa using e, r⟩
theorem rep_start {N : List Str} {vs : List V} {args : List Sl} (hl : vs.length ≤ N.length) (VS : RepVs K c tp H H vs args) (ok : args.all Sl.arg? = true) (t : TapeR K H tp ta) (tb : LamX.Tabs c.T H) :
    RepS K c H tp (L2.start N vs) H (args ++ List.replicate (N.length - args.length) .un) ta := by
  have hlen := VS.length
  have noOwn : ∀ i a, ¬ OwnAt (args ++ List.replicate (N.length - args.length) Sl.un) (L2.start N vs) i a := fun i a ⟨⟨ds, e, so⟩, _⟩ => by
    rw [List.getElem?_append] at e
    split at e
    · have hm := List.all_eq_true.mp ok _ (List.mem_of_getElem? e)
      cases ds with
      | own _ => cases hm
      | dic _ => cases hm
      | _ => exact so.elim
    · rw [List.getElem?_replicate] at e
      split at e
      · cases e; exact so.elim
      · cases e
  refine ⟨by unfold L2.start; simp; omega, fun i sl e => ?_, fun i a o => (noOwn i a o).elim, fun i j a o _ => (noOwn i a o).elim, t, tb, fun _ _ e _ => e, .refl _⟩
  rw [List.getElem?_append] at e
  split at e
  · rename_i hi
    obtain ⟨v, e1, r⟩ := VS.get e
    have e2 : (L2.start N vs)[i]? = some (some v) := by
      unfold L2.start
      rw [List.getElem?_append_left (by rw [List.length_map]; omega), List.getElem?_map, e1]
      rfl
    have hm := List.all_eq_true.mp ok _ (List.mem_of_getElem? e)
    cases sl with
    | val d => exact ⟨v, e2, r⟩
    | tape => obtain ⟨a, e3, rfl⟩ := r; exact ⟨a, e3, e2⟩
    | _ => cases hm
  · rw [List.getElem?_replicate] at e
    split at e
    · cases e; trivial
    · cases e
theorem RepS.out {σ : L2.St} {env : SE} {tp' : Option Addr} (R : RepS K c H tp' σ H1 env ta') (l : tpLe tp tp') (t : TapeR K H tp ta) (e : ta'.isSome = ta.isSome) : tp' = tp ∧ Kp c tp H H1 := by
  have ht : tp' = tp := by
    rcases l with l | l
    · subst l
      cases ta with
      | some _ => exact t.elim
      | none =>
        cases ta' with
        | some _ => cases e
        | none =>
          cases tp' with
          | none => rfl
          | some _ => exact R.tape.elim
    · exact l
  subst ht
  refine ⟨rfl, R.keep, R.stab, fun a n => ?_⟩
  cases q : H a with
  | none => rfl
  | some o =>
    have := R.keep a o q (R.vol n)
    rw [n] at this; cases this
end
section
variable {P : Program} {w : World} {K : PySem.W.Frag} {mg : Str → Option Value} {base : Heap} {c : Ct}
theorem fn_def {x qual : Str} {st : Stmt} {f : Addr} {fd : FuncData} {N ps : List Str} {k : Nat} {cs : Cs} (F : Fun K x qual st f fd) (S : FnScope N ps (defScope st)) (hNl : ps.length ≤ N.length)
    (hbody : ∀ (cdv : Value) (A : Around) (outer : List Env) (s : Shared) (H : Hp) (E : XK), Room k (A.deeper (envOfC qual (defScope st) s.heap.objs.size f cdv)) →
      PSsv (cxOf (L2.CX P w) P w K mg base N qual (defScope st) f cdv A outer s H E) c (fun cls d _ H' => E cls d H') (defBody st) cs) :
    FnOk P w K mg base (L2.CX P w) (k + 1) f fd ps (FSp K c ps.length (defF N.length cs)) := by
  refine F.okX S (fun vs H Q E h => h.1) fun cdv A outer s H vs Q E hr h => ?_
  obtain ⟨hl, tp, args, ta, VS, ok, t, tb, post⟩ := h
  refine ⟨_, (hbody cdv A outer s H E hr).ps, H, tp, _, ta, rep_start (by rw [hl]; exact hNl) VS ok t tb, ?_⟩
  unfold defF at post
  cases e : cs (args ++ List.replicate (N.length - args.length) .un) ta with
  | none => rw [e] at post; exact post
  | some p =>
    obtain ⟨fl, env, ta'⟩ := p
    rw [e] at post
    cases fl with
    | nx =>
      dsimp only at post
      split at post
      · rename_i ht
        intro tp' σ' H' l st R
        obtain ⟨rfl, k1⟩ := R.out l t ht
        exact post .non H' k1 R.tape R.tabs Rep.non
      · exact post.elim
    | rt z =>
      dsimp only at post
      split at post
      · rename_i ht
        intro tp' σ' H' v l st R V
        obtain ⟨rfl, k1⟩ := R.out l t ht
        exact post v H' k1 R.tape R.tabs V
      · exact post.elim
    | ex x =>
      dsimp only at post
      split at post
      · rename_i ht
        intro tp' σ' H' cls d l st R er
        obtain ⟨rfl, k1⟩ := R.out l t ht
        exact post cls d H' k1 R.tape R.tabs er
      · exact post.elim
    | bk => exact post.elim
    | ct => exact post.elim
end
end MP

/-! MPi: x op= e, pairs of names, the tape. -/
namespace MP
open PySem PySem.Spec PyProof.Rows L2
section
variable {K : PySem.W.Frag} {c : Ct}
def iaddS : Sl → Sl → Option Sl := opI (fun _ _ => true) fun i j => .int (i + j)
def imulS : Sl → Sl → Option Sl := opI mulOk fun i j => .int (i * j)
theorem ok_iadd : OpOk K c (rI0 fun i j => .int (i + j)) iaddS := opI0_ok fun _ _ _ => .int _
theorem iop_mulW {X : Cx} : OpR X (inplaceOp .Mult) (rI CMulW fun i j => .int (i * j)) := L2.opI fun _ _ _ _ _ _ _ hc q => imul_int q (CMulW.ok hc)
theorem var_of {W : WX} {i : Nat} {σ : L2.St} {H : Hp} {Q : VK} (h : tE K c W (varE i) σ H Q) : ∃ v, σ[i]? = some (some v) ∧ Q v H := by
  obtain ⟨B, tp, env, ta, RS, h⟩ := h
  unfold varE at h
  have sl := fun s e => RS.slot i s e
  cases e : env[i]? with
  | none => rw [e] at h; exact h.elim
  | some s =>
    rw [e] at h
    have q := sl s e
    cases s with
    | un => exact h.elim
    | val d => obtain ⟨v, e1, r⟩ := q; exact ⟨v, e1, EPost.val RS h r⟩
    | own ds =>
      obtain ⟨a, xs, e1, e2, r⟩ := q
      exact ⟨_, e1, EPost.val RS h ⟨a, xs, rfl, e2, (RS.fresh i a ⟨⟨_, e, trivial⟩, e1⟩).2, r⟩⟩
    | bor _ => exact h.elim
    | tape => obtain ⟨a, e1, e2⟩ := q; exact ⟨_, e2, EPost.val RS h ⟨a, e1, rfl⟩⟩
    | dic ds =>
      obtain ⟨a, xs, e1, e2, r⟩ := q
      exact ⟨_, e1, EPost.val RS h ⟨a, xs, rfl, e2, (RS.fresh i a ⟨⟨_, e, trivial⟩, e1⟩).2, r⟩⟩
    | bdc _ => exact h.elim
end
def augC (i : Nat) (op : Sl → Sl → Option Sl) (f : Ev) : Cs := asgC i (binE op (varE i) f)
section
variable {X : Cx} {c : Ct} {W : WX} {e : Expr} {fe : Ev} {pos : Pos}
/-- x op= e -/
theorem s_aug {i : Nat} {x : Str} {op : Operator} {r : R2} {o : Sl → Sl → Option Sl} {pos' : Pos} (hr : OpR X (inplaceOp op) r) (ho : OpOk X.K c r o) (hN : X.N.Nodup) (he : PEv X c W e fe) (hi : X.N[i]? = some x := by rfl) (hx : Loc X.env.scope x := by first | exact Or.inl rfl | exact Or.inr rfl)
    (hf : X.fn x = true ∨ X.env.scope.names.lookup x = some .local := by first | exact .inl rfl | exact .inr rfl | assumption) : PSv X c W (.AugAssign (.Name x pos') op e pos) (augC i o fe) := by
  refine ⟨ps_mono (ps_aug hN hi hx he.pe (ti := r) hr hf) ?_⟩
  rintro D σ H ⟨B, tp, env, ta, RS, h⟩
  have h2 := bin_of ho _ _ _ (on_of (f := binE o (varE i) fe) (k := fun r env t => r.store?.map fun s => (.nx, env.set i s, t)) (D := D) (R := fun v H1 => D.nx (σ.set i (some v)) H1) RS h fun r t v H1 R1 K1 V1 h1 => by
    cases es : r.store? with
    | none => rw [es] at h1; exact h1.elim
    | some s => rw [es] at h1; exact h1 tp _ H1 (.refl _) K1.st (RepS.store RS R1 V1 es))
  exact var_of h2
/-- x, y = a, b: two locals -/
theorem s_par2 {i j : Nat} {x y : Str} {a b : Expr} {fs : List Ev} {px py pt : Pos} {kt k2 pt2} (hN : X.N.Nodup) (ha : PAv X c W [a, b] fs)
    (hw : swappedStores [.Tuple [.Name x px, .Name y py] kt pt] (.Tuple [a, b] k2 pt2) X.env = pure (some [x, y])) (hi : X.N[i]? = some x := by rfl) (hj : X.N[j]? = some y := by rfl) (hij : i ≠ j := by decide) (hc : X.calm = true := by rfl)
    (hx : X.env.scope.names.lookup x = some .local := by rfl) (hy : X.env.scope.names.lookup y = some .local := by rfl)
    (hs : swapsWithSole [.Tuple [.Name x px, .Name y py] kt pt] (.Tuple [a, b] k2 pt2) pos.line X.env = pure false := by rfl) :
    PSv X c W (.Assign [.Tuple [.Name x px, .Name y py] kt pt] (.Tuple [a, b] k2 pt2) pos) (par2C i j fs) := by
  refine ⟨ps_mono (ps_par hc hN hi hj hij hx hy ha.pa hw hs) ?_⟩
  rintro D σ H ⟨B, tp, env, ta, RS, h⟩
  refine ⟨B, tp, env, ta, RS, ?_⟩
  unfold par2C at h
  cases q : evs fs env ta with
  | none => rw [q] at h; exact h
  | some p =>
    obtain ⟨r, t⟩ := p
    rw [q] at h
    cases r with
    | error x => exact fun cls d H' R' K' er => h tp σ H' cls d (.refl _) K'.st R' er
    | ok zs =>
      intro vs H1 R1 K1 V1
      split at h
      · rename_i e; cases e
      · rename_i e; cases e
      · rename_i p q' t' e
        cases e
        cases V1 with
        | cons V1 V2 =>
          cases V2 with
          | cons V2 V3 =>
            cases V3
            rename_i v w
            refine ⟨v, w, rfl, ?_⟩
            split at h
            · rename_i s d hs
              have ra := RepS.store (i := i) RS R1 V1 hs
              have rb := RepS.store (i := j) (r := .val d) ra ra V2 rfl
              exact h tp _ H1 (.refl _) K1.st rb
            · exact h.elim
      · exact h.elim
def listOf : Sl → Option (List D)
  | .val (.lst ds) => some ds
  | .own ds => some ds
  | _ => none
def unpLC (js : List Nat) (f : Ev) : Cs := onE f fun r env t => match listOf r with
  | some ds => if ds.length = js.length then some (.nx, setAll js ds env, t) else none
  | none => none
/-- a, b = a list -/
theorem s_unpL {js : List Nat} {es : List Expr} {k : Nat} {tpos : Pos} (he : PEv X c W e fe) (hg : PG X (.Tuple es k tpos) (gLst X.K js.length (gNames js))) (hs : swapsWithSole [.Tuple es k tpos] e pos.line X.env = pure false := by rfl) (hw : swappedStores [.Tuple es k tpos] e X.env = pure none := by rfl)
    (h1 : (assignEach [.Tuple es k tpos] X.env).map (·.2) = [assign (.Tuple es k tpos) X.env] := by rfl) : PSv X c W (.Assign [.Tuple es k tpos] e pos) (unpLC js fe) := by
  refine ⟨ps_mono (ps_asg he.pe hg hs hw h1) ?_⟩
  rintro D σ H ⟨B, tp, env, ta, RS, h⟩
  refine on_of RS h fun r t v H1 R1 K1 V1 h1 => ?_
  cases el : listOf r with
  | none => rw [el] at h1; exact h1.elim
  | some ds =>
    rw [el] at h1
    dsimp only at h1
    split at h1
    · rename_i hl
      have e2 : r.items? = some ds := by
        cases r with
        | val d => cases d <;> first | exact el | cases el
        | own ds => exact el
        | _ => cases el
      obtain ⟨a, xs, rfl, hs, r⟩ := V1.list e2
      obtain ⟨σ', g1, g2, _⟩ := gNames_ok R1 r hl
      exact ⟨a, xs, rfl, hs, by rw [r.length]; exact hl, g1 _ (h1 tp σ' H1 (.refl _) K1.st g2)⟩
    · exact h1.elim
end

/-! ### the tape -/
def Tape.get (t : Tape) : Nat → Option D
  | 0 => some (.lst (t.scr.map D.int))
  | 1 => some (.int t.pos)
  | 2 => some (.int t.left)
  | 3 => some (.int t.seed)
  | _ => none
def Tape.put (t : Tape) (v : Int) : Nat → Option Tape
  | 1 => if 0 ≤ v then some { t with pos := v.toNat } else none
  | 2 => some { t with left := v }
  | 3 => some { t with seed := v }
  | _ => none
def tgetE (i k : Nat) : Ev := fun env ta => match env[i]?, ta with
  | some .tape, some t => (t.get k).map fun d => (.ok (.val d), ta)
  | _, _ => none
def tsetC (i k : Nat) (f : Ev) : Cs := onE f fun r env ta => match env[i]?, ta, r with
  | some .tape, some t, .val (.int v) => (t.put v k).map fun t' => (.nx, env, some t')
  | _, _, _ => none
def tpS (env : SE) (i : Nat) (s : Option Sl) (ta : TapeO) : Option (Fl × SE × TapeO) := match s, ta with
  | some (.own [.lst ds, .int p, .int l, .int s]), none => match ints? ds with
    | some ns => if 0 ≤ p then some (.nx, env.set i .tape, some ⟨ns, p.toNat, l, s⟩) else none
    | none => none
  | _, _ => none
def tapeC (i : Nat) : Cs := fun env ta => tpS env i env[i]? ta
section
variable {K : PySem.W.Frag} {c : Ct} {tp : Option Addr} {H H0 H1 B : Hp} {σ : L2.St} {env : SE} {ta ta' : TapeO}
theorem RepS.tput {a : Addr} {xs : List V} {o : HO} {t' : Tape} (R : RepS K c B (some a) σ H env ta) (h : H a = some (.lst xs)) (ht : TapeAt K (upd H a o) a t') : RepS K c B (some a) σ (upd H a o) env (some t') where
  len := R.len
  slot := fun i sl e => by
    have q := R.slot i sl e
    cases sl with
    | un => exact q
    | val d => obtain ⟨v, e1, r⟩ := q; exact ⟨v, e1, r.st (stab_lst h)⟩
    | own ds =>
      obtain ⟨b, ys, e1, e2, r⟩ := q
      have hb : b ≠ a := fun z => (R.fresh i b ⟨⟨_, e, trivial⟩, e1⟩).2 (.inl (by rw [z]))
      exact ⟨b, ys, e1, by rw [upd_ne hb]; exact e2, r.st (stab_lst h)⟩
    | bor _ => exact q
    | tape => exact q
    | dic fs =>
      obtain ⟨b, ys, e1, e2, r⟩ := q
      exact ⟨b, ys, e1, by rw [upd_ne (fun z => by rw [z, h] at e2; cases e2)]; exact e2, r.st (stab_lst h)⟩
    | bdc _ => exact q
  fresh := R.fresh
  dist := R.dist
  tape := ht
  tabs := Tabs.upd R.tabs h
  keep := fun b u e n => by
    rw [upd_ne (fun z => n (.inl (by rw [z])))]; exact R.keep b u e n
  stab := R.stab.trans (stab_lst h)
theorem RepS.toTape {i : Nat} {ds : List D} {ns : List Int} {p l s : Int} (R : RepS K c B tp σ H env none) (e : env[i]? = some (.own [.lst ds, .int p, .int l, .int s])) (en : ints? ds = some ns) (hp : 0 ≤ p) :
    ∃ a, RepS K c B (some a) σ H (env.set i .tape) (some ⟨ns, p.toNat, l, s⟩) := by
  obtain ⟨a, xs, ea, hl, r⟩ := R.ownAt e
  have hi : i < env.length := (List.getElem?_eq_some_iff.mp e).1
  have htp : tp = none := by
    have := R.tape
    cases tp with
    | none => rfl
    | some _ => exact this.elim
  subst htp
  have own : ∀ j b, OwnAt (env.set i .tape) σ j b → i ≠ j ∧ OwnAt env σ j b := fun j b o => by
    obtain ⟨⟨fs, e1, so⟩, e2⟩ := o
    by_cases hj : i = j
    · subst hj; rw [List.getElem?_set_self hi] at e1; cases e1; exact so.elim
    · rw [List.getElem?_set_ne hj] at e1; exact ⟨hj, ⟨fs, e1, so⟩, e2⟩
  have fr := R.fresh i a ⟨⟨_, e, trivial⟩, ea⟩
  have vol : ∀ b, ¬ Vol c (some a) b → ¬ Vol c none b := fun b n v => n (v.elim (fun z => by cases z) .inr)
  refine ⟨a, ⟨by rw [List.length_set]; exact R.len, fun j sl e1 => ?_, fun j b o => ?_, fun j1 j2 b o1 o2 => R.dist j1 j2 b (own _ _ o1).2 (own _ _ o2).2, ?_, R.tabs, fun b u e1 n => R.keep b u e1 (vol b n), R.stab⟩⟩
  · by_cases hj : i = j
    · subst hj
      rw [List.getElem?_set_self hi] at e1
      cases e1
      exact ⟨a, rfl, ea⟩
    · rw [List.getElem?_set_ne hj] at e1
      have q := R.slot j sl e1
      cases sl with
      | un => exact q
      | val d => exact q
      | own fs => exact q
      | bor _ => exact q
      | tape => obtain ⟨b, e2, _⟩ := q; cases e2
      | dic _ => exact q
      | bdc _ => exact q
  · obtain ⟨hij, o'⟩ := own j b o
    have f2 := R.fresh j b o'
    refine ⟨f2.1, fun v => ?_⟩
    rcases v with v | v
    · cases v; exact hij (R.dist i j a ⟨⟨_, e, trivial⟩, ea⟩ o')
    · exact f2.2 (.inr v)
  · cases r with
    | cons r0 r =>
      cases r with
      | cons r1 r =>
        cases r with
        | cons r2 r =>
          cases r with
          | cons r3 r =>
            cases r
            cases r1
            cases r2
            cases r3
            cases r0 with
            | lst hz rz =>
              rw [ints?_eq en] at rz
              have := Reps.intsV _ rz
              subst this
              exact ⟨_, by rw [hl, Int.toNat_of_nonneg hp], hz⟩
end
section
variable {X : Cx} {c : Ct} {W : WX} {e : Expr} {f : Ev} {st : Stmt} {cs : Cs} {pos : Pos}
theorem s_tape {i : Nat} (h : PSv X c W st cs) : PSv X c W st (seqC (tapeC i) cs) := by
  refine ⟨⟨fun pins s σ H D I w => ?_⟩⟩
  obtain ⟨B, tp, env, ta, RS, hh⟩ := w
  unfold seqC at hh
  cases q : tapeC i env ta with
  | none => rw [q] at hh; exact hh.elim
  | some z =>
    rw [q] at hh
    unfold tapeC tpS at q
    split at q
    · rename_i ds p l s' e1
      split at q
      · rename_i ns en
        split at q
        · rename_i hp
          cases q
          have htp : tp = none := by
            have := RS.tape
            cases tp with
            | none => rfl
            | some _ => exact this.elim
          subst htp
          obtain ⟨a, R2⟩ := RS.toTape e1 en hp
          refine h.ps.run pins s σ H D I ⟨B, some a, _, _, R2, SPost.le (tp := none) hh (.inl rfl) (.refl _)⟩
        · cases q
      · cases q
    · cases q
/-- d[k], the tape -/
theorem v_tget {i : Nat} {x : Str} {k : Nat} {p kp : Pos} {jj} (hN : X.N[i]? = some x := by rfl) (hv : Vis X.env.scope x := by first | exact Or.inl rfl | exact Or.inr (Or.inl rfl) | exact Or.inr (Or.inr rfl))
    (hd : (x == ("__debug__" : Str)) = false := by decide) (hcd : (x == ("__classdict__" : Str)) = false := by decide) : PEv X c W (.Subscript (.Name x p) (.Constant (.int (k : Int)) jj kp) pos) (tgetE i k) := by
  refine ⟨pe_mono (pe_ix ix_list (pe_var hN hv hd hcd) pe_int (fun _ _ => rfl)) ?_⟩
  rintro σ H Q ⟨B, tp, env, ta, RS, h⟩
  unfold tgetE at h
  split at h
  · rename_i t e1
    obtain ⟨a, e2, e3⟩ := RS.slot i _ e1
    subst e2
    obtain ⟨sc, h1, h2⟩ := RS.tape
    have sz : ∀ (k : Nat) (d : D) (v : V), atI [V.ref sc, .int (t.pos : Int), .int t.left, .int t.seed] (k : Int) = some v → Rep X.K H v d → EPost X.K c W B (some a) σ H env (some (.ok (.val d), some t)) Q →
      ∃ x, σ[i]? = some (some x) ∧ rIxL X.K x (.int (k : Int)) H Q := fun k d v e r hh => ⟨_, e3, a, _, (k : Int), _, rfl, rfl, SqL.of h1, e, EPost.val RS hh r⟩
    match k, h with
    | 0, h => exact sz 0 _ _ rfl (Rep.lst h2 (Reps.ints t.scr)) h
    | 1, h => exact sz 1 _ _ rfl (.int _) h
    | 2, h => exact sz 2 _ _ rfl (.int _) h
    | 3, h => exact sz 3 _ _ rfl (.int _) h
    | _ + 4, h => exact h.elim
  · exact h.elim
/-- d[k] = e, the tape -/
theorem s_tset {i : Nat} {x : Str} {k : Nat} {p tpos kp : Pos} {jj} (he : PEv X c W e f) (hN : X.N[i]? = some x := by rfl) (hv : Vis X.env.scope x := by first | exact Or.inl rfl | exact Or.inr (Or.inl rfl) | exact Or.inr (Or.inr rfl))
    (hd : (x == ("__debug__" : Str)) = false := by decide) (hcd : (x == ("__classdict__" : Str)) = false := by decide)
    (hsb : ∀ v, assign (.Subscript (.Name x p) (.Constant (.int (k : Int)) jj kp) tpos) X.env v = (do
      let ov ← holding [v] (eval (.Name x p) X.env)
      let iv ← holding [v, ov] (eval (.Constant (.int (k : Int)) jj kp) X.env)
      standAt tpos
      holding [v, ov, iv] (setItem ov iv v)
      release [v, ov, iv] []) := by exact fun _ => rfl)
    (hs : swapsWithSole [.Subscript (.Name x p) (.Constant (.int (k : Int)) jj kp) tpos] e pos.line X.env = pure false := by rfl) (hw : swappedStores [.Subscript (.Name x p) (.Constant (.int (k : Int)) jj kp) tpos] e X.env = pure none := by rfl)
    (h1 : (assignEach [.Subscript (.Name x p) (.Constant (.int (k : Int)) jj kp) tpos] X.env).map (·.2) = [assign (.Subscript (.Name x p) (.Constant (.int (k : Int)) jj kp) tpos) X.env] := by rfl) :
    PSv X c W (.Assign [.Subscript (.Name x p) (.Constant (.int (k : Int)) jj kp) tpos] e pos) (tsetC i k f) := by
  refine ⟨ps_mono (ps_asg he.pe (pg_sub (pe_var hN hv hd hcd) pe_int set_list hsb) hs hw h1) ?_⟩
  rintro D σ H ⟨B, tp, env, ta, RS, h⟩
  refine on_of RS h fun r t v H1 R1 K1 V1 h1 => ?_
  split at h1
  · rename_i tt z e1
    obtain ⟨a, e2, e3⟩ := R1.slot i _ e1
    subst e2
    obtain ⟨sc, g1, g2⟩ := R1.tape
    have hv := V1.int
    subst hv
    refine ⟨_, e3, a, _, (k : Int), k, rfl, rfl, g1, ?_⟩
    have fin : ∀ (t' : Tape) (m : Nat) (ys : List V), ys = [.ref sc, .int (t'.pos : Int), .int t'.left, .int t'.seed] → t'.scr = tt.scr → SPost X.K c W B (some a) H D (some (.nx, env, some t')) → D.nx σ (upd H1 a (.lst ys)) := by
      intro t' m ys ey es hh
      subst ey
      exact hh (some a) σ _ (.refl _) (K1.st.trans (stab_lst g1)) (R1.tput g1 ⟨sc, upd_same, (stab_lst g1).fz (by rw [es]; exact g2)⟩)
    match k, h1 with
    | 0, h => exact h.elim
    | 1, h =>
      refine ⟨rfl, ?_⟩
      have h : SPost X.K c W B (some a) H D (Option.map (fun t' => (Fl.nx, env, some t')) (if 0 ≤ z then some { tt with pos := z.toNat } else none)) := h
      by_cases hz : 0 ≤ z
      · rw [if_pos hz] at h
        exact fin { tt with pos := z.toNat } 1 _ (by show [V.ref sc, V.int z, _, _] = _; dsimp only; rw [Int.toNat_of_nonneg hz]) rfl h
      · rw [if_neg hz] at h; exact h.elim
    | 2, h => exact ⟨rfl, fin { tt with left := z } 2 _ rfl rfl h⟩
    | 3, h => exact ⟨rfl, fin { tt with seed := z } 3 _ rfl rfl h⟩
    | _ + 4, h => exact h.elim
  · exact h1.elim
end
end MP

/-! MPj: small things, the end. -/
namespace MP
open PySem PySem.Spec PyProof.Rows L2
def mulS : Sl → Sl → Option Sl := opI mulOk fun i j => .int (i * j)
theorem ok_mul {K : PySem.W.Frag} {c : Ct} : OpOk K c (rI CMulW fun i j => .int (i * j)) mulS := ok_mulI
theorem hu65 {k : Nat} {A : Around} (r : Room k A) : A.units + 65 < cLine := by have := r.un; omega
theorem FzL.of_only {K : PySem.W.Frag} {H : Hp} {a : Addr} {xs : List V} (h : Only H) (s : SqL K H a xs) : FzL K H a xs := by
  rcases s with (e | ⟨o, e⟩) | e
  · rcases h a with n | ⟨o, ys, n⟩
    · rw [n] at e; cases e
    · rw [n] at e; cases e
  · exact .inl ⟨o, e⟩
  · exact .inr e
/-- the promise of law: True comes out -/
def LSp (K : PySem.W.Frag) (c : Ct) (n : Nat) (cs : Cs) : Sp := fun vs H Q E => ∃ args, vs.length = 1 ∧ RepVs K c none H H vs args ∧ args.all Sl.arg? = true ∧ LamX.Tabs c.T H ∧
  (∃ env t, cs (args ++ List.replicate (n - args.length) .un) none = some (.rt (.val (.bl true)), env, t)) ∧ ∀ H', Q (.bl true) H'
section
variable {P : Program} {w : World} {K : PySem.W.Frag} {mg : Str → Option Value} {base : Heap} {c : Ct}
theorem fn_law {x qual : Str} {st : Stmt} {f : Addr} {fd : FuncData} {N ps : List Str} {k : Nat} {cs : Cs} (F : Fun K x qual st f fd) (S : FnScope N ps (defScope st)) (hNl : ps.length ≤ N.length) (hps : ps.length = 1)
    (hbody : ∀ (cdv : Value) (A : Around) (outer : List Env) (s : Shared) (H : Hp) (E : XK), Room k (A.deeper (envOfC qual (defScope st) s.heap.objs.size f cdv)) →
      PSsv (cxOf (L2.CX P w) P w K mg base N qual (defScope st) f cdv A outer s H E) c (fun cls d _ H' => E cls d H') (defBody st) cs) :
    FnOk P w K mg base (L2.CX P w) (k + 1) f fd ps (LSp K c N.length cs) := by
  refine F.okX S (fun vs H Q E h => by obtain ⟨_, h, _⟩ := h; rw [hps]; exact h) fun cdv A outer s H vs Q E hr h => ?_
  obtain ⟨args, hl, VS, ok, tb, ⟨env, t, e⟩, post⟩ := h
  refine ⟨_, (hbody cdv A outer s H E hr).ps, H, none, _, none, rep_start (by rw [hl, ← hps]; exact hNl) VS ok trivial tb, ?_⟩
  rw [e]
  intro tp' σ' H' v l st R V
  rw [RepV.bl V]
  exact post H'
end
theorem lsp_law {K : PySem.W.Frag} {n : Nat} {cs : Cs} {H : Hp} {a : Addr} {ns : List Int} (hO : Only H) (hS : SqL K H a (ns.map V.int)) (hΦ : ∃ env t, cs ([.val (.lst (ns.map D.int))] ++ List.replicate (n - 1) .un) none = some (.rt (.val (.bl true)), env, t)) :
    LSp K ⟨[], 0⟩ n cs [.ref a] H (fun v _ => v = .bl true) fun _ _ _ => False :=
  ⟨[.val (.lst (ns.map D.int))], rfl, .cons (Rep.lst (FzL.of_only hO hS) (Reps.ints ns)) .nil, rfl, (fun p hp => by cases hp), hΦ, fun _ => rfl⟩
theorem cx_false {P : Program} {w : World} {H : Hp} {s : Shared} {e : Value} {s' : Shared} (h : L2.CX P w [] H s (fun _ _ _ => False) e s') : False := by
  obtain ⟨_, _, _, _, _, _, _, _, _, _, _, _, z⟩ := h
  exact z
end MP

/-! MPk: how the plain meaning is reckoned; the tape's two defs. -/
namespace MP
open PySem PySem.Spec PyProof.Rows L2
abbrev I (i : Int) : Sl := .val (.int i)
abbrev Bo (b : Bool) : Sl := .val (.bl b)
theorem while_step {t : Tv} {f : Cs} {n : Nat} {env : SE} {ta : TapeO} : whileC t f (n + 1) env ta = (match t env ta with
    | none => none
    | some (.error x, ta') => some (.ex x, env, ta')
    | some (.ok false, ta') => some (.nx, env, ta')
    | some (.ok true, ta') => match f env ta' with
      | some (.nx, e', t') => whileC t f n e' t'
      | some (.ct, e', t') => whileC t f n e' t'
      | some (.bk, e', t') => some (.nx, e', t')
      | r => r) := rfl
/-! ### the steps of the plain meaning -/
section
variable {α β : Type}
def kX (r : Option (Except Str α × TapeO)) (k : α → TapeO → Option (Except Str β × TapeO)) : Option (Except Str β × TapeO) := match r with
  | none => none
  | some (.error x, t) => some (.error x, t)
  | some (.ok a, t) => k a t
@[simp] theorem kX_ok {a : α} {t : TapeO} {k : α → TapeO → Option (Except Str β × TapeO)} : kX (some (.ok a, t)) k = k a t := Eq.trans rfl rfl
@[simp] theorem kX_none {k : α → TapeO → Option (Except Str β × TapeO)} : kX none k = none := Eq.trans rfl rfl
@[simp] theorem kX_err {x : Str} {t : TapeO} {k : α → TapeO → Option (Except Str β × TapeO)} : kX (some (.error x, t)) k = some (.error x, t) := Eq.trans rfl rfl
def kS (r : Option (Except Str α × TapeO)) (env : SE) (k : α → TapeO → Option (Fl × SE × TapeO)) : Option (Fl × SE × TapeO) := match r with
  | none => none
  | some (.error x, t) => some (.ex x, env, t)
  | some (.ok a, t) => k a t
@[simp] theorem kS_ok {a : α} {t : TapeO} {env : SE} {k : α → TapeO → Option (Fl × SE × TapeO)} : kS (some (.ok a, t)) env k = k a t := Eq.trans rfl rfl
@[simp] theorem kS_none {env : SE} {k : α → TapeO → Option (Fl × SE × TapeO)} : kS none env k = none := Eq.trans rfl rfl
@[simp] theorem kS_err {x : Str} {t : TapeO} {env : SE} {k : α → TapeO → Option (Fl × SE × TapeO)} : kS (some (.error x, t)) env k = some (.ex x, env, t) := Eq.trans rfl rfl
def kQ (r : Option (Fl × SE × TapeO)) (k : SE → TapeO → Option (Fl × SE × TapeO)) : Option (Fl × SE × TapeO) := match r with
  | some (.nx, e, t) => k e t
  | r => r
@[simp] theorem kQ_nx {e : SE} {t : TapeO} {k : SE → TapeO → Option (Fl × SE × TapeO)} : kQ (some (.nx, e, t)) k = k e t := Eq.trans rfl rfl
@[simp] theorem kQ_none {k : SE → TapeO → Option (Fl × SE × TapeO)} : kQ none k = none := Eq.trans rfl rfl
@[simp] theorem kQ_rt {z : Sl} {e : SE} {t : TapeO} {k : SE → TapeO → Option (Fl × SE × TapeO)} : kQ (some (.rt z, e, t)) k = some (.rt z, e, t) := Eq.trans rfl rfl
@[simp] theorem kQ_bk {e : SE} {t : TapeO} {k : SE → TapeO → Option (Fl × SE × TapeO)} : kQ (some (.bk, e, t)) k = some (.bk, e, t) := Eq.trans rfl rfl
@[simp] theorem kQ_ct {e : SE} {t : TapeO} {k : SE → TapeO → Option (Fl × SE × TapeO)} : kQ (some (.ct, e, t)) k = some (.ct, e, t) := Eq.trans rfl rfl
@[simp] theorem kQ_ex {x : Str} {e : SE} {t : TapeO} {k : SE → TapeO → Option (Fl × SE × TapeO)} : kQ (some (.ex x, e, t)) k = some (.ex x, e, t) := Eq.trans rfl rfl
/-- a turn of a loop -/
def kL (r : Option (Fl × SE × TapeO)) (k : SE → TapeO → Option (Fl × SE × TapeO)) : Option (Fl × SE × TapeO) := match r with
  | some (.nx, e, t) => k e t
  | some (.ct, e, t) => k e t
  | some (.bk, e, t) => some (.nx, e, t)
  | r => r
@[simp] theorem kL_nx {e : SE} {t : TapeO} {k : SE → TapeO → Option (Fl × SE × TapeO)} : kL (some (.nx, e, t)) k = k e t := Eq.trans rfl rfl
@[simp] theorem kL_ct {e : SE} {t : TapeO} {k : SE → TapeO → Option (Fl × SE × TapeO)} : kL (some (.ct, e, t)) k = k e t := Eq.trans rfl rfl
@[simp] theorem kL_bk {e : SE} {t : TapeO} {k : SE → TapeO → Option (Fl × SE × TapeO)} : kL (some (.bk, e, t)) k = some (.nx, e, t) := Eq.trans rfl rfl
@[simp] theorem kL_none {k : SE → TapeO → Option (Fl × SE × TapeO)} : kL none k = none := Eq.trans rfl rfl
@[simp] theorem kL_rt {z : Sl} {e : SE} {t : TapeO} {k : SE → TapeO → Option (Fl × SE × TapeO)} : kL (some (.rt z, e, t)) k = some (.rt z, e, t) := Eq.trans rfl rfl
@[simp] theorem kL_ex {x : Str} {e : SE} {t : TapeO} {k : SE → TapeO → Option (Fl × SE × TapeO)} : kL (some (.ex x, e, t)) k = some (.ex x, e, t) := Eq.trans rfl rfl
/-- the end of a def -/
def kR (ta : TapeO) (r : Option (Fl × SE × TapeO)) : Option (Except Str Sl × TapeO) := match r with
  | some (.nx, _, t) => if t.isSome = ta.isSome then some (.ok (.val .non), t) else none
  | some (.rt z, _, t) => if t.isSome = ta.isSome then some (.ok z, t) else none
  | some (.ex x, _, t) => if t.isSome = ta.isSome then some (.error x, t) else none
  | _ => none
@[simp] theorem kR_nx {e : SE} {t ta : TapeO} : kR ta (some (.nx, e, t)) = if t.isSome = ta.isSome then some (.ok (.val .non), t) else none := Eq.trans rfl rfl
@[simp] theorem kR_rt {z : Sl} {e : SE} {t ta : TapeO} : kR ta (some (.rt z, e, t)) = if t.isSome = ta.isSome then some (.ok z, t) else none := Eq.trans rfl rfl
@[simp] theorem kR_ex {x : Str} {e : SE} {t ta : TapeO} : kR ta (some (.ex x, e, t)) = if t.isSome = ta.isSome then some (.error x, t) else none := Eq.trans rfl rfl
@[simp] theorem kR_none {ta : TapeO} : kR ta none = none := Eq.trans rfl rfl
def rdS (s : Option Sl) (ta : TapeO) : Option (Except Str Sl × TapeO) := match s with
  | some (.val d) => some (.ok (.val d), ta)
  | some (.own ds) => some (.ok (.bor ds), ta)
  | some .tape => some (.ok .tape, ta)
  | some (.dic ks) => some (.ok (.bdc ks), ta)
  | _ => none
@[simp] theorem rdS_dic {ks : List (Key × D)} {ta : TapeO} : rdS (some (.dic ks)) ta = some (.ok (.bdc ks), ta) := Eq.trans rfl rfl
@[simp] theorem rdS_val {d : D} {ta : TapeO} : rdS (some (.val d)) ta = some (.ok (.val d), ta) := Eq.trans rfl rfl
@[simp] theorem rdS_own {d : List D} {ta : TapeO} : rdS (some (.own d)) ta = some (.ok (.bor d), ta) := Eq.trans rfl rfl
@[simp] theorem rdS_tape {ta : TapeO} : rdS (some .tape) ta = some (.ok .tape, ta) := Eq.trans rfl rfl
def rtS (s : Option Sl) (env : SE) (ta : TapeO) : Option (Fl × SE × TapeO) := match s with
  | some (.val d) => some (.rt (.val d), env, ta)
  | some (.own ds) => some (.rt (.own ds), env, ta)
  | some .tape => some (.rt .tape, env, ta)
  | some (.dic ks) => some (.rt (.dic ks), env, ta)
  | _ => none
@[simp] theorem rtS_dic {ks : List (Key × D)} {env : SE} {ta : TapeO} : rtS (some (.dic ks)) env ta = some (.rt (.dic ks), env, ta) := Eq.trans rfl rfl
@[simp] theorem rtS_val {d : D} {env : SE} {ta : TapeO} : rtS (some (.val d)) env ta = some (.rt (.val d), env, ta) := Eq.trans rfl rfl
@[simp] theorem rtS_own {d : List D} {env : SE} {ta : TapeO} : rtS (some (.own d)) env ta = some (.rt (.own d), env, ta) := Eq.trans rfl rfl
@[simp] theorem rtS_tape {env : SE} {ta : TapeO} : rtS (some .tape) env ta = some (.rt .tape, env, ta) := Eq.trans rfl rfl
def escS : Sl → TapeO → Option (Except Str Sl × TapeO)
  | .val d, t => some (.ok (.val d), t)
  | .own ds, t => some (.ok (.val (.lst ds)), t)
  | .tape, t => some (.ok .tape, t)
  | _, _ => none
@[simp] theorem escS_val {d : D} {t : TapeO} : escS (.val d) t = some (.ok (.val d), t) := Eq.trans rfl rfl
@[simp] theorem escS_own {d : List D} {t : TapeO} : escS (.own d) t = some (.ok (.val (.lst d)), t) := Eq.trans rfl rfl
end
section
variable {f g h : Ev} {t u : Tv} {op op' : Sl → Sl → Option Sl} {fs : List Ev} {env : SE} {ta : TapeO} {i j n : Nat} {cs ds : Cs} {it : Iv} {tg : Tg}
@[simp] theorem varE_ap : varE i env ta = rdS env[i]? ta := by
  unfold varE
  rcases env[i]? with _ | s
  · rfl
  · cases s <;> rfl
@[simp] theorem cstE_ap {d : D} : cstE d env ta = some (.ok (.val d), ta) := Eq.trans rfl rfl
theorem bindE_ap {k : Sl → Ev} : bindE f k env ta = kX (f env ta) fun r t => k r env t := by
  unfold bindE
  rcases f env ta with _ | ⟨_ | _, _⟩ <;> rfl
theorem bindT_ap {k : Bool → Tv} : bindT t k env ta = kX (t env ta) fun r t => k r env t := by
  unfold bindT
  rcases t env ta with _ | ⟨_ | _, _⟩ <;> rfl
theorem onE_ap {k : Sl → Cs} : onE f k env ta = kS (f env ta) env fun r t => k r env t := by
  unfold onE
  rcases f env ta with _ | ⟨_ | _, _⟩ <;> rfl
theorem kX_ext {α β : Type} {r : Option (Except Str α × TapeO)} {k k' : α → TapeO → Option (Except Str β × TapeO)} (h : ∀ a t, k a t = k' a t) : kX r k = kX r k' := by
  have : k = k' := funext fun a => funext fun t => h a t
  rw [this]
theorem kS_ext {α : Type} {r : Option (Except Str α × TapeO)} {env : SE} {k k' : α → TapeO → Option (Fl × SE × TapeO)} (h : ∀ a t, k a t = k' a t) : kS r env k = kS r env k' := by
  have : k = k' := funext fun a => funext fun t => h a t
  rw [this]
theorem binE_ap0 : binE op f g env ta = kX (f env ta) fun x t => kX (g env t) fun y t2 => (op x y).map fun z => (.ok z, t2) := by
  unfold binE
  rw [bindE_ap]
  refine kX_ext fun x t => ?_
  rw [bindE_ap]
theorem unE_ap0 {o : Sl → Option Sl} : unE o f env ta = kX (f env ta) fun x t => (o x).map fun z => (.ok z, t) := by
  unfold unE
  rw [bindE_ap]
theorem ofE_ap0 : ofE f env ta = kX (f env ta) fun r t => (truthS r).map fun b => (.ok b, t) := by
  unfold ofE
  rcases f env ta with _ | ⟨_ | _, _⟩ <;> rfl
theorem notT_ap0 : notT t env ta = kX (t env ta) fun b t1 => some (.ok (!b), t1) := by
  unfold notT
  rw [bindT_ap]
theorem andT_ap0 : andT t u env ta = kX (t env ta) fun b t1 => if b = true then u env t1 else some (.ok false, t1) := by
  unfold andT
  rw [bindT_ap]
  refine kX_ext fun b t1 => ?_
  cases b <;> rfl
theorem orT_ap0 : orT t u env ta = kX (t env ta) fun b t1 => if b = true then some (.ok true, t1) else u env t1 := by
  unfold orT
  rw [bindT_ap]
  refine kX_ext fun b t1 => ?_
  cases b <;> rfl
def blS : Sl → Option Bool
  | .val (.bl b) => some b
  | _ => none
@[simp] theorem blS_bl {b : Bool} : blS (.val (.bl b)) = some b := rfl
def kO {α β : Type} (r : Option α) (k : α → Option β) : Option β := match r with
  | some a => k a
  | none => none
@[simp] theorem kO_some {α β : Type} {a : α} {k : α → Option β} : kO (some a) k = k a := Eq.trans rfl rfl
@[simp] theorem kO_none {α β : Type} {k : α → Option β} : kO none k = none := Eq.trans rfl rfl
theorem notE_ap0 : notE f env ta = kX (f env ta) fun x t1 => kO (blS x) fun b => some (.ok (.val (.bl (!b))), t1) := by
  unfold notE
  rw [bindE_ap]
  refine kX_ext fun x t1 => ?_
  rcases x with _ | d | _ | _ | _ <;> first | rfl | (cases d <;> rfl)
theorem andE_ap0 : andE f g env ta = kX (f env ta) fun x t1 => kO (blS x) fun b => if b = true then g env t1 else some (.ok (.val (.bl false)), t1) := by
  unfold andE
  rw [bindE_ap]
  refine kX_ext fun x t1 => ?_
  rcases x with _ | d | _ | _ | _ <;> first | rfl | (rcases d with _ | b | _ | _ | _ | _ <;> first | rfl | (cases b <;> rfl))
theorem orE_ap0 : orE f g env ta = kX (f env ta) fun x t1 => kO (blS x) fun b => if b = true then some (.ok (.val (.bl true)), t1) else g env t1 := by
  unfold orE
  rw [bindE_ap]
  refine kX_ext fun x t1 => ?_
  rcases x with _ | d | _ | _ | _ <;> first | rfl | (rcases d with _ | b | _ | _ | _ | _ <;> first | rfl | (cases b <;> rfl))
theorem ifE_ap0 : ifE t f g env ta = kX (t env ta) fun b t1 => if b = true then f env t1 else g env t1 := by
  unfold ifE
  rcases t env ta with _ | ⟨_ | b, _⟩ <;> first | rfl | (cases b <;> rfl)
@[simp] theorem evs_nil : evs [] env ta = some (.ok [], ta) := Eq.trans rfl rfl
theorem evs_cons0 : evs (f :: fs) env ta = kX (f env ta) fun r t1 => kX (evs fs env t1) fun rs t2 => some (.ok (r :: rs), t2) := by
  rw [evs]
  rcases f env ta with _ | ⟨_ | a, t⟩
  · rfl
  · rfl
  · show _ = kX (evs fs env t) _
    dsimp only
    rcases evs fs env t with _ | ⟨_ | _, _⟩ <;> rfl
theorem callE_ap0 {o : List Sl → Option Sl} : callE o fs env ta = kX (evs fs env ta) fun rs t1 => (o rs).map fun z => (.ok z, t1) := by
  unfold callE
  rcases evs fs env ta with _ | ⟨_ | _, _⟩ <;> rfl
theorem callF_ap0 {Φ : Fn} : callF Φ fs env ta = kX (evs fs env ta) fun rs t1 => if rs.all Sl.arg? = true then Φ rs t1 else none := by
  unfold callF
  rcases evs fs env ta with _ | ⟨_ | _, _⟩ <;> rfl
theorem lstE_ap0 : lstE fs env ta = kX (evs fs env ta) fun rs t1 => (vals? rs).map fun ds => (.ok (.own ds), t1) := by
  unfold lstE dispE
  rcases evs fs env ta with _ | ⟨_ | _, _⟩ <;> rfl
theorem tupE_ap0 : tupE fs env ta = kX (evs fs env ta) fun rs t1 => (vals? rs).map fun ds => (.ok (.val (.tup ds)), t1) := by
  unfold tupE dispE
  rcases evs fs env ta with _ | ⟨_ | _, _⟩ <;> rfl
@[simp] theorem vals_nil : vals? [] = some [] := rfl
@[simp] theorem vals_cons {d : D} {r : List Sl} : vals? (.val d :: r) = (vals? r).map (d :: ·) := rfl
@[simp] theorem arg_val {d : D} : Sl.arg? (.val d) = true := rfl
@[simp] theorem arg_tape : Sl.arg? .tape = true := rfl
theorem escE_ap0 : escE f env ta = kX (f env ta) escS := by
  unfold escE
  rw [bindE_ap]
  refine kX_ext fun x t1 => ?_
  cases x <;> rfl
theorem chainE_ap0 : chainE op op' f g h env ta = kX (f env ta) fun x t1 => kX (g env t1) fun y t2 => kO ((op x y).bind blS) fun b => if b = true then kX (h env t2) fun z t3 => (op' y z).map fun w => (.ok w, t3) else some (.ok (.val (.bl false)), t2) := by
  unfold chainE
  rw [bindE_ap]
  refine kX_ext fun x t1 => ?_
  rw [bindE_ap]
  refine kX_ext fun y t2 => ?_
  rcases op x y with _ | z
  · rfl
  · rcases z with _ | d | _ | _ | _ <;> first | rfl | skip
    rcases d with _ | b | _ | _ | _ | _ <;> first | rfl | skip
    cases b
    · rfl
    · dsimp only
      rw [bindE_ap]
      rfl
@[simp] theorem store_val {d : D} : Sl.store? (.val d) = some (.val d) := rfl
@[simp] theorem store_own {d : List D} : Sl.store? (.own d) = some (.own d) := rfl
@[simp] theorem store_tape : Sl.store? .tape = some .tape := rfl
@[simp] theorem store_dic {ks : List (Key × D)} : Sl.store? (.dic ks) = some (.dic ks) := rfl
theorem asgC_ap0 : asgC i f env ta = kS (f env ta) env fun r t1 => r.store?.map fun s => (.nx, env.set i s, t1) := by
  unfold asgC; rw [onE_ap]
theorem augC_ap0 : augC i op f env ta = kS (binE op (varE i) f env ta) env fun r t1 => r.store?.map fun s => (.nx, env.set i s, t1) := by unfold augC; rw [asgC_ap0]
theorem retC_ap0 : retC f env ta = kS (f env ta) env fun r t1 => r.store?.map fun s => (.rt s, env, t1) := by
  unfold retC; rw [onE_ap]
@[simp] theorem retNC_ap : retNC env ta = some (.rt (.val .non), env, ta) := Eq.trans rfl rfl
@[simp] theorem retVC_ap : retVC i env ta = rtS env[i]? env ta := by
  unfold retVC
  rcases env[i]? with _ | s
  · rfl
  · cases s <;> rfl
theorem dropC_ap0 : dropC f env ta = kS (f env ta) env fun _ t1 => some (.nx, env, t1) := by
  unfold dropC; rw [onE_ap]
@[simp] theorem skipC_ap : skipC env ta = some (.nx, env, ta) := Eq.trans rfl rfl
@[simp] theorem breakC_ap : breakC env ta = some (.bk, env, ta) := Eq.trans rfl rfl
@[simp] theorem contC_ap : contC env ta = some (.ct, env, ta) := Eq.trans rfl rfl
@[simp] theorem neverC_ap : neverC env ta = none := Eq.trans rfl rfl
@[simp] theorem seqC_ap : seqC cs ds env ta = kQ (cs env ta) ds := by
  unfold seqC
  rcases cs env ta with _ | ⟨fl, _, _⟩
  · rfl
  · cases fl <;> rfl
theorem ifC_ap0 : ifC t cs ds env ta = kS (t env ta) env fun b t1 => if b = true then cs env t1 else ds env t1 := by
  unfold ifC
  rcases t env ta with _ | ⟨_ | b, _⟩ <;> first | rfl | (cases b <;> rfl)
theorem while_ap0 : whileC t cs (n + 1) env ta = kS (t env ta) env fun b t1 => if b = true then kL (cs env t1) (whileC t cs n) else some (.nx, env, t1) := by
  rw [while_step]
  rcases t env ta with _ | ⟨_ | b, t1⟩
  · rfl
  · rfl
  · cases b
    · rfl
    · show _ = kL (cs env t1) _
      dsimp only
      rcases cs env t1 with _ | ⟨fl, _, _⟩
      · rfl
      · cases fl <;> rfl
theorem forC_ap0 : forC it tg cs env ta = kS (it env ta) env fun ds t1 => forL tg cs ds env t1 := by
  unfold forC
  rcases it env ta with _ | ⟨_ | _, _⟩ <;> rfl
@[simp] theorem forL_nil : forL tg cs [] env ta = some (.nx, env, ta) := Eq.trans rfl rfl
theorem forL_cons0 {d : D} {l : List D} : forL tg cs (d :: l) env ta = kO (tg.set d env) fun env1 => kL (cs env1 ta) (forL tg cs l) := by
  rw [forL]
  dsimp only
  rcases tg.set d env with _ | env1
  · rfl
  · show _ = kL (cs env1 ta) _
    (try dsimp only)
    rcases cs env1 ta with _ | ⟨fl, _, _⟩
    · rfl
    · cases fl <;> rfl
@[simp] theorem set_one {d : D} : Tg.set (.one j) d env = some (env.set j (.val d)) := rfl
@[simp] theorem set_tup {js : List Nat} {l : List D} : Tg.set (.tup js) (.tup l) env = if l.length = js.length then some (setAll js l env) else none := rfl
@[simp] theorem setAll_nil {l : List D} : setAll [] l env = env := by cases l <;> rfl
@[simp] theorem setAll_cons {js : List Nat} {d : D} {l : List D} : setAll (j :: js) (d :: l) env = setAll js l (env.set j (.val d)) := rfl
def frzOf : Sl → Option (List D)
  | .val (.tup ds) => some ds
  | .val (.lst ds) => some ds
  | _ => none
@[simp] theorem frzOf_tup {l : List D} : frzOf (.val (.tup l)) = some l := rfl
@[simp] theorem frzOf_lst {l : List D} : frzOf (.val (.lst l)) = some l := rfl
theorem seqF_ap0 : seqF f env ta = kX (f env ta) fun r t1 => (frzOf r).map fun l => (.ok l, t1) := by
  unfold seqF
  rcases f env ta with _ | ⟨_ | r, _⟩
  · rfl
  · rfl
  · rcases r with _ | d | _ | _ | _ <;> first | rfl | (cases d <;> rfl)
@[simp] theorem seq_tup {l : List D} : Sl.seq? (.val (.tup l)) = some l := rfl
@[simp] theorem seq_lst {l : List D} : Sl.seq? (.val (.lst l)) = some l := rfl
@[simp] theorem seq_own {l : List D} : Sl.seq? (.own l) = some l := rfl
@[simp] theorem seq_bor {l : List D} : Sl.seq? (.bor l) = some l := rfl
@[simp] theorem items_lst {l : List D} : Sl.items? (.val (.lst l)) = some l := rfl
@[simp] theorem items_own {l : List D} : Sl.items? (.own l) = some l := rfl
@[simp] theorem items_bor {l : List D} : Sl.items? (.bor l) = some l := rfl
@[simp] theorem dat_val {d : D} : Sl.dat? (.val d) = some d := rfl
@[simp] theorem dat_own {l : List D} : Sl.dat? (.own l) = some (.lst l) := rfl
@[simp] theorem dat_bor {l : List D} : Sl.dat? (.bor l) = some (.lst l) := rfl
theorem seqI_ap0 : seqI f env ta = kX (f env ta) fun r t1 => r.seq?.map fun l => (.ok l, t1) := by
  unfold seqI
  rcases f env ta with _ | ⟨_ | _, _⟩ <;> rfl
theorem argI_ap0 {o : List Sl → Option (List D)} : argI o fs env ta = kX (evs fs env ta) fun rs t1 => (o rs).map fun l => (.ok l, t1) := by
  unfold argI
  rcases evs fs env ta with _ | ⟨_ | _, _⟩ <;> rfl
def tupOf : Sl → Option (List D)
  | .val (.tup ds) => some ds
  | _ => none
@[simp] theorem tupOf_tup {l : List D} : tupOf (.val (.tup l)) = some l := rfl
theorem unpC_ap0 {js : List Nat} : unpC js f env ta = kS (f env ta) env fun r t1 => kO (tupOf r) fun l => if l.length = js.length then some (.nx, setAll js l env, t1) else none := by
  unfold unpC
  rw [onE_ap]
  refine kS_ext fun r t1 => ?_
  rcases r with _ | d | _ | _ | _ <;> first | rfl | (cases d <;> rfl)
theorem unpLC_ap0 {js : List Nat} : unpLC js f env ta = kS (f env ta) env fun r t1 => kO (listOf r) fun l => if l.length = js.length then some (.nx, setAll js l env, t1) else none := by
  unfold unpLC
  rw [onE_ap]
  refine kS_ext fun r t1 => ?_
  rcases listOf r with _ | _ <;> rfl
@[simp] theorem listOf_own {l : List D} : listOf (.own l) = some l := rfl
@[simp] theorem listOf_lst {l : List D} : listOf (.val (.lst l)) = some l := rfl
def parS (i j : Nat) (env : SE) (rs : List Sl) (t : TapeO) : Option (Fl × SE × TapeO) := match rs with
  | [p, .val d] => p.store?.map fun s => (.nx, (env.set i s).set j (.val d), t)
  | _ => none
@[simp] theorem parS_two {p : Sl} {d : D} : parS i j env [p, .val d] ta = p.store?.map fun s => (.nx, (env.set i s).set j (.val d), ta) := Eq.trans rfl rfl
theorem par2C_ap0 : par2C i j fs env ta = kS (evs fs env ta) env (parS i j env) := by
  unfold par2C
  rcases evs fs env ta with _ | ⟨_ | rs, t⟩
  · rfl
  · rfl
  · show _ = parS i j env rs t
    (try dsimp only)
    match rs with
    | [] => rfl
    | [_] => rfl
    | [p, q] =>
      dsimp only
      cases hp : p.store? <;> cases q <;> simp [parS, hp]
    | a :: b :: c :: l => cases b <;> rfl
@[simp] theorem yesT_ap : yesT env ta = some (.ok true, ta) := Eq.trans rfl rfl
@[simp] theorem compL_nil : compL tg t f [] env ta = some ([], ta) := Eq.trans rfl rfl
def kC {β : Type} (r : Option (Except Str Sl × TapeO)) (k : D → TapeO → Option β) : Option β := match r with
  | some (.ok (.val d), t) => k d t
  | _ => none
@[simp] theorem kC_val {β : Type} {d : D} {t : TapeO} {k : D → TapeO → Option β} : kC (some (.ok (.val d), t)) k = k d t := Eq.trans rfl rfl
def kD {β : Type} (r : Option (Except Str Bool × TapeO)) (k : Bool → TapeO → Option β) : Option β := match r with
  | some (.ok b, t) => k b t
  | _ => none
@[simp] theorem kD_ok {β : Type} {b : Bool} {t : TapeO} {k : Bool → TapeO → Option β} : kD (some (.ok b, t)) k = k b t := Eq.trans rfl rfl
theorem compL_cons0 {d : D} {l : List D} : compL tg t f (d :: l) env ta = kO (tg.set d env) fun env1 => kD (t env1 ta) fun b t1 => if b = true then kC (f env1 t1) fun y t2 => (compL tg t f l env t2).map fun p => (y :: p.1, p.2) else compL tg t f l env t1 := by
  rw [compL]
  rcases tg.set d env with _ | env1
  · rfl
  · show _ = kD (t env1 ta) _
    (try dsimp only)
    rcases t env1 ta with _ | ⟨_ | b, t1⟩
    · rfl
    · rfl
    · cases b
      · rfl
      · show _ = kC (f env1 t1) _
        (try dsimp only)
        rcases f env1 t1 with _ | ⟨_ | r, t2⟩
        · rfl
        · rfl
        · cases r <;> rfl
theorem compE_ap0 {vs : List Nat} : compE it vs tg t f env ta = kX (it env ta) fun l t1 => if l.length < LIM then (compL tg t f l (wipeE env vs) t1).map fun p => (.ok (.own p.1), p.2) else none := by
  unfold compE
  rcases it env ta with _ | ⟨_ | _, _⟩ <;> rfl
@[simp] theorem wipe_nil : wipeE env [] = env := rfl
@[simp] theorem wipe_cons {v : Nat} {vs : List Nat} : wipeE env (v :: vs) = (wipeE env vs).set v .un := rfl
theorem defF_ap {args : List Sl} : defF n cs args ta = kR ta (cs (args ++ List.replicate (n - args.length) .un) ta) := by
  unfold defF
  rcases cs (args ++ List.replicate (n - args.length) .un) ta with _ | ⟨fl, _, _⟩
  · rfl
  · cases fl <;> rfl
def frzS (env : SE) (i : Nat) (s : Option Sl) (ta : TapeO) : Option (Fl × SE × TapeO) := match s with
  | some (.own ds) => some (.nx, env.set i (.val (.lst ds)), ta)
  | some _ => some (.nx, env, ta)
  | none => none
@[simp] theorem frzS_own {l : List D} : frzS env i (some (.own l)) ta = some (.nx, env.set i (.val (.lst l)), ta) := Eq.trans rfl rfl
@[simp] theorem frzS_val {d : D} : frzS env i (some (.val d)) ta = some (.nx, env, ta) := Eq.trans rfl rfl
@[simp] theorem frzS_tape : frzS env i (some .tape) ta = some (.nx, env, ta) := Eq.trans rfl rfl
@[simp] theorem frzS_un : frzS env i (some .un) ta = some (.nx, env, ta) := Eq.trans rfl rfl
@[simp] theorem frzC_ap : frzC i env ta = frzS env i env[i]? ta := by
  unfold frzC
  rcases env[i]? with _ | s
  · rfl
  · cases s <;> rfl
def ownOf : Option Sl → Option (List D)
  | some (.own l) => some l
  | _ => none
@[simp] theorem ownOf_own {l : List D} : ownOf (some (.own l)) = some l := rfl
def valOf : Sl → Option D
  | .val d => some d
  | _ => none
@[simp] theorem valOf_val {d : D} : valOf (.val d) = some d := rfl
def intOf : Sl → Option Int
  | .val (.int i) => some i
  | _ => none
@[simp] theorem intOf_int {i : Int} : intOf (.val (.int i)) = some i := rfl
theorem appC_ap0 : appC i f env ta = kO (ownOf env[i]?) fun l => kS (f env ta) env fun r t1 => kO (valOf r) fun d => if l.length < LIM then some (.nx, env.set i (.own (l ++ [d])), t1) else none := by
  unfold appC
  rcases env[i]? with _ | s
  · rfl
  · cases s <;> first | rfl | skip
    show onE _ _ _ _ = kS _ _ _
    rw [onE_ap]
    refine kS_ext fun r t1 => ?_
    cases r <;> rfl
theorem setC_ap0 : setC i f g env ta = kS (f env ta) env fun r t1 => kO (ownOf env[i]?) fun l => kS (g env t1) env fun q t2 => kO (valOf r) fun d => kO (intOf q) fun k => (ixN l.length k).map fun m => (.nx, env.set i (.own (l.set m d)), t2) := by
  unfold setC
  rw [onE_ap]
  refine kS_ext fun r t1 => ?_
  (try dsimp only)
  rcases env[i]? with _ | s
  · rfl
  · cases s <;> first | rfl | skip
    show onE _ _ _ _ = kS _ _ _
    rw [onE_ap]
    refine kS_ext fun q t2 => ?_
    rcases r with _ | d | _ | _ | _ <;> first | rfl | (rcases q with _ | d2 | _ | _ | _ <;> first | rfl | (cases d2 <;> rfl))
def tgS (k : Nat) (s : Option Sl) (ta : TapeO) : Option (Except Str Sl × TapeO) := match s, ta with
  | some .tape, some t => (t.get k).map fun d => (.ok (.val d), ta)
  | _, _ => none
@[simp] theorem tgS_tape {k : Nat} {t : Tape} : tgS k (some .tape) (some t) = (t.get k).map fun d => (.ok (.val d), some t) := Eq.trans rfl rfl
@[simp] theorem tgetE_ap {k : Nat} : tgetE i k env ta = tgS k env[i]? ta := by
  unfold tgetE
  rcases env[i]? with _ | s
  · rfl
  · cases s <;> cases ta <;> rfl
def tsS (k : Nat) (env : SE) (s : Option Sl) (r : Sl) (ta : TapeO) : Option (Fl × SE × TapeO) := match s, ta, r with
  | some .tape, some t, .val (.int v) => (t.put v k).map fun t' => (.nx, env, some t')
  | _, _, _ => none
@[simp] theorem tsS_tape {k : Nat} {t : Tape} {v : Int} : tsS k env (some .tape) (.val (.int v)) (some t) = (t.put v k).map fun t' => (.nx, env, some t') := Eq.trans rfl rfl
theorem tsetC_ap0 {k : Nat} : tsetC i k f env ta = kS (f env ta) env fun r t1 => tsS k env env[i]? r t1 := by
  unfold tsetC
  rw [onE_ap]
  refine kS_ext fun r t1 => ?_
  (try dsimp only)
  rcases env[i]? with _ | s
  · rfl
  · cases s <;> cases t1 <;> rcases r with _ | d2 | _ | _ | _ <;> first | rfl | (cases d2 <;> rfl)
@[simp] theorem tapeC_ap : tapeC i env ta = tpS env i env[i]? ta := rfl
@[simp] theorem tpS_own {ns : List Int} {p l s : Int} : tpS env i (some (.own [.lst (ns.map D.int), .int p, .int l, .int s])) none = if 0 ≤ p then some (.nx, env.set i .tape, some ⟨ns, p.toNat, l, s⟩) else none := by
  unfold tpS
  dsimp only
  rw [ints?_map]
end
/-! ### the steps without a bound name: what simp reads -/
section
variable {f g h : Ev} {t u : Tv} {op op' : Sl → Sl → Option Sl} {fs : List Ev} {env env1 : SE} {ta t1 : TapeO} {i j n : Nat} {cs ds : Cs} {it : Iv} {tg : Tg} {x y : Sl} {e : Str} {b : Bool} {l : List D} {js vs : List Nat}
abbrev RE := Option (Except Str Sl × TapeO)
abbrev RB := Option (Except Str Bool × TapeO)
abbrev RA := Option (Except Str (List Sl) × TapeO)
abbrev RD := Option (Except Str (List D) × TapeO)
abbrev RC := Option (Fl × SE × TapeO)
def binK2 (op : Sl → Sl → Option Sl) (x : Sl) (r : RE) : RE := kX r fun y t1 => (op x y).map fun z => (.ok z, t1)
@[simp] theorem binK2_ok {op : Sl → Sl → Option Sl} {x : Sl} {y : Sl} {t1 : TapeO} : binK2 op x (some (.ok y, t1)) = (op x y).map fun z => (.ok z, t1) := Eq.trans rfl rfl
@[simp] theorem binK2_none {op : Sl → Sl → Option Sl} {x : Sl} : binK2 op x none = none := Eq.trans rfl rfl
@[simp] theorem binK2_err {op : Sl → Sl → Option Sl} {x : Sl} {e : Str} {t1 : TapeO} : binK2 op x (some (.error e, t1)) = some (.error e, t1) := Eq.trans rfl rfl
def binK1 (op : Sl → Sl → Option Sl) (g : Ev) (env : SE) (r : RE) : RE := kX r fun x t1 => binK2 op x (g env t1)
@[simp] theorem binK1_ok {op : Sl → Sl → Option Sl} {g : Ev} {env : SE} {x : Sl} {t1 : TapeO} : binK1 op g env (some (.ok x, t1)) = binK2 op x (g env t1) := Eq.trans rfl rfl
@[simp] theorem binK1_none {op : Sl → Sl → Option Sl} {g : Ev} {env : SE} : binK1 op g env none = none := Eq.trans rfl rfl
@[simp] theorem binK1_err {op : Sl → Sl → Option Sl} {g : Ev} {env : SE} {e : Str} {t1 : TapeO} : binK1 op g env (some (.error e, t1)) = some (.error e, t1) := Eq.trans rfl rfl
@[simp] theorem binE_ap : binE op f g env ta = binK1 op g env (f env ta) := binE_ap0
def unK (o : Sl → Option Sl) (r : RE) : RE := kX r fun x t1 => (o x).map fun z => (.ok z, t1)
@[simp] theorem unK_ok {o : Sl → Option Sl} {x : Sl} {t1 : TapeO} : unK o (some (.ok x, t1)) = (o x).map fun z => (.ok z, t1) := Eq.trans rfl rfl
@[simp] theorem unK_none {o : Sl → Option Sl} : unK o none = none := Eq.trans rfl rfl
@[simp] theorem unK_err {o : Sl → Option Sl} {e : Str} {t1 : TapeO} : unK o (some (.error e, t1)) = some (.error e, t1) := Eq.trans rfl rfl
@[simp] theorem unE_ap {o : Sl → Option Sl} : unE o f env ta = unK o (f env ta) := unE_ap0
def ofK  (r : RE) : RB := kX r fun x t1 => (truthS x).map fun b => (.ok b, t1)
@[simp] theorem ofK_ok  {x : Sl} {t1 : TapeO} : ofK  (some (.ok x, t1)) = (truthS x).map fun b => (.ok b, t1) := Eq.trans rfl rfl
@[simp] theorem ofK_none  : ofK  none = none := Eq.trans rfl rfl
@[simp] theorem ofK_err  {e : Str} {t1 : TapeO} : ofK  (some (.error e, t1)) = some (.error e, t1) := Eq.trans rfl rfl
@[simp] theorem ofE_ap : ofE f env ta = ofK (f env ta) := ofE_ap0
def notK  (r : RB) : RB := kX r fun b t1 => some (.ok (!b), t1)
@[simp] theorem notK_ok  {b : Bool} {t1 : TapeO} : notK  (some (.ok b, t1)) = some (.ok (!b), t1) := Eq.trans rfl rfl
@[simp] theorem notK_none  : notK  none = none := Eq.trans rfl rfl
@[simp] theorem notK_err  {e : Str} {t1 : TapeO} : notK  (some (.error e, t1)) = some (.error e, t1) := Eq.trans rfl rfl
@[simp] theorem notT_ap : notT t env ta = notK (t env ta) := notT_ap0
def andK (u : Tv) (env : SE) (r : RB) : RB := kX r fun b t1 => if b = true then u env t1 else some (.ok false, t1)
@[simp] theorem andK_ok {u : Tv} {env : SE} {b : Bool} {t1 : TapeO} : andK u env (some (.ok b, t1)) = if b = true then u env t1 else some (.ok false, t1) := Eq.trans rfl rfl
@[simp] theorem andK_none {u : Tv} {env : SE} : andK u env none = none := Eq.trans rfl rfl
@[simp] theorem andK_err {u : Tv} {env : SE} {e : Str} {t1 : TapeO} : andK u env (some (.error e, t1)) = some (.error e, t1) := Eq.trans rfl rfl
@[simp] theorem andT_ap : andT t u env ta = andK u env (t env ta) := andT_ap0
def orK (u : Tv) (env : SE) (r : RB) : RB := kX r fun b t1 => if b = true then some (.ok true, t1) else u env t1
@[simp] theorem orK_ok {u : Tv} {env : SE} {b : Bool} {t1 : TapeO} : orK u env (some (.ok b, t1)) = if b = true then some (.ok true, t1) else u env t1 := Eq.trans rfl rfl
@[simp] theorem orK_none {u : Tv} {env : SE} : orK u env none = none := Eq.trans rfl rfl
@[simp] theorem orK_err {u : Tv} {env : SE} {e : Str} {t1 : TapeO} : orK u env (some (.error e, t1)) = some (.error e, t1) := Eq.trans rfl rfl
@[simp] theorem orT_ap : orT t u env ta = orK u env (t env ta) := orT_ap0
def notEK  (r : RE) : RE := kX r fun x t1 => (blS x).map fun b => (.ok (.val (.bl (!b))), t1)
@[simp] theorem notEK_ok  {x : Sl} {t1 : TapeO} : notEK  (some (.ok x, t1)) = (blS x).map fun b => (.ok (.val (.bl (!b))), t1) := Eq.trans rfl rfl
@[simp] theorem notEK_none  : notEK  none = none := Eq.trans rfl rfl
@[simp] theorem notEK_err  {e : Str} {t1 : TapeO} : notEK  (some (.error e, t1)) = some (.error e, t1) := Eq.trans rfl rfl
@[simp] theorem notE_ap : notE f env ta = notEK (f env ta) := by
  rw [notE_ap0]
  unfold notEK
  refine kX_ext fun x t1 => ?_
  cases blS x <;> rfl
def andB (g : Ev) (env : SE) (t1 : TapeO) (o : Option Bool) : RE := kO o fun b => if b = true then g env t1 else some (.ok (.val (.bl false)), t1)
@[simp] theorem andB_some {g : Ev} {env : SE} {t1 : TapeO} {b : Bool} : andB g env t1 (some b) = if b = true then g env t1 else some (.ok (.val (.bl false)), t1) := Eq.trans rfl rfl
def orB (g : Ev) (env : SE) (t1 : TapeO) (o : Option Bool) : RE := kO o fun b => if b = true then some (.ok (.val (.bl true)), t1) else g env t1
@[simp] theorem orB_some {g : Ev} {env : SE} {t1 : TapeO} {b : Bool} : orB g env t1 (some b) = if b = true then some (.ok (.val (.bl true)), t1) else g env t1 := Eq.trans rfl rfl
def andEK (g : Ev) (env : SE) (r : RE) : RE := kX r fun x t1 => andB g env t1 (blS x)
@[simp] theorem andEK_ok {g : Ev} {env : SE} {x : Sl} {t1 : TapeO} : andEK g env (some (.ok x, t1)) = andB g env t1 (blS x) := Eq.trans rfl rfl
@[simp] theorem andEK_none {g : Ev} {env : SE} : andEK g env none = none := Eq.trans rfl rfl
@[simp] theorem andEK_err {g : Ev} {env : SE} {e : Str} {t1 : TapeO} : andEK g env (some (.error e, t1)) = some (.error e, t1) := Eq.trans rfl rfl
@[simp] theorem andE_ap : andE f g env ta = andEK g env (f env ta) := andE_ap0
def orEK (g : Ev) (env : SE) (r : RE) : RE := kX r fun x t1 => orB g env t1 (blS x)
@[simp] theorem orEK_ok {g : Ev} {env : SE} {x : Sl} {t1 : TapeO} : orEK g env (some (.ok x, t1)) = orB g env t1 (blS x) := Eq.trans rfl rfl
@[simp] theorem orEK_none {g : Ev} {env : SE} : orEK g env none = none := Eq.trans rfl rfl
@[simp] theorem orEK_err {g : Ev} {env : SE} {e : Str} {t1 : TapeO} : orEK g env (some (.error e, t1)) = some (.error e, t1) := Eq.trans rfl rfl
@[simp] theorem orE_ap : orE f g env ta = orEK g env (f env ta) := orE_ap0
def ifEK (f g : Ev) (env : SE) (r : RB) : RE := kX r fun b t1 => if b = true then f env t1 else g env t1
@[simp] theorem ifEK_ok {f g : Ev} {env : SE} {b : Bool} {t1 : TapeO} : ifEK f g env (some (.ok b, t1)) = if b = true then f env t1 else g env t1 := Eq.trans rfl rfl
@[simp] theorem ifEK_none {f g : Ev} {env : SE} : ifEK f g env none = none := Eq.trans rfl rfl
@[simp] theorem ifEK_err {f g : Ev} {env : SE} {e : Str} {t1 : TapeO} : ifEK f g env (some (.error e, t1)) = some (.error e, t1) := Eq.trans rfl rfl
@[simp] theorem ifE_ap : ifE t f g env ta = ifEK f g env (t env ta) := ifE_ap0
def evK2 (x : Sl) (r : RA) : RA := kX r fun rs t1 => some (.ok (x :: rs), t1)
@[simp] theorem evK2_ok {x : Sl} {rs : List Sl} {t1 : TapeO} : evK2 x (some (.ok rs, t1)) = some (.ok (x :: rs), t1) := Eq.trans rfl rfl
@[simp] theorem evK2_none {x : Sl} : evK2 x none = none := Eq.trans rfl rfl
@[simp] theorem evK2_err {x : Sl} {e : Str} {t1 : TapeO} : evK2 x (some (.error e, t1)) = some (.error e, t1) := Eq.trans rfl rfl
def evK1 (fs : List Ev) (env : SE) (r : RE) : RA := kX r fun x t1 => evK2 x (evs fs env t1)
@[simp] theorem evK1_ok {fs : List Ev} {env : SE} {x : Sl} {t1 : TapeO} : evK1 fs env (some (.ok x, t1)) = evK2 x (evs fs env t1) := Eq.trans rfl rfl
@[simp] theorem evK1_none {fs : List Ev} {env : SE} : evK1 fs env none = none := Eq.trans rfl rfl
@[simp] theorem evK1_err {fs : List Ev} {env : SE} {e : Str} {t1 : TapeO} : evK1 fs env (some (.error e, t1)) = some (.error e, t1) := Eq.trans rfl rfl
@[simp] theorem evs_cons : evs (f :: fs) env ta = evK1 fs env (f env ta) := evs_cons0
def callEK (o : List Sl → Option Sl) (r : RA) : RE := kX r fun rs t1 => (o rs).map fun z => (.ok z, t1)
@[simp] theorem callEK_ok {o : List Sl → Option Sl} {rs : List Sl} {t1 : TapeO} : callEK o (some (.ok rs, t1)) = (o rs).map fun z => (.ok z, t1) := Eq.trans rfl rfl
@[simp] theorem callEK_none {o : List Sl → Option Sl} : callEK o none = none := Eq.trans rfl rfl
@[simp] theorem callEK_err {o : List Sl → Option Sl} {e : Str} {t1 : TapeO} : callEK o (some (.error e, t1)) = some (.error e, t1) := Eq.trans rfl rfl
@[simp] theorem callE_ap {o : List Sl → Option Sl} : callE o fs env ta = callEK o (evs fs env ta) := callE_ap0
def callFK (Φ : Fn) (r : RA) : RE := kX r fun rs t1 => if rs.all Sl.arg? = true then Φ rs t1 else none
@[simp] theorem callFK_ok {Φ : Fn} {rs : List Sl} {t1 : TapeO} : callFK Φ (some (.ok rs, t1)) = if rs.all Sl.arg? = true then Φ rs t1 else none := Eq.trans rfl rfl
@[simp] theorem callFK_none {Φ : Fn} : callFK Φ none = none := Eq.trans rfl rfl
@[simp] theorem callFK_err {Φ : Fn} {e : Str} {t1 : TapeO} : callFK Φ (some (.error e, t1)) = some (.error e, t1) := Eq.trans rfl rfl
@[simp] theorem callF_ap {Φ : Fn} : callF Φ fs env ta = callFK Φ (evs fs env ta) := callF_ap0
def lstK  (r : RA) : RE := kX r fun rs t1 => (vals? rs).map fun ds => (.ok (.own ds), t1)
@[simp] theorem lstK_ok  {rs : List Sl} {t1 : TapeO} : lstK  (some (.ok rs, t1)) = (vals? rs).map fun ds => (.ok (.own ds), t1) := Eq.trans rfl rfl
@[simp] theorem lstK_none  : lstK  none = none := Eq.trans rfl rfl
@[simp] theorem lstK_err  {e : Str} {t1 : TapeO} : lstK  (some (.error e, t1)) = some (.error e, t1) := Eq.trans rfl rfl
@[simp] theorem lstE_ap : lstE fs env ta = lstK (evs fs env ta) := lstE_ap0
def tupK  (r : RA) : RE := kX r fun rs t1 => (vals? rs).map fun ds => (.ok (.val (.tup ds)), t1)
@[simp] theorem tupK_ok  {rs : List Sl} {t1 : TapeO} : tupK  (some (.ok rs, t1)) = (vals? rs).map fun ds => (.ok (.val (.tup ds)), t1) := Eq.trans rfl rfl
@[simp] theorem tupK_none  : tupK  none = none := Eq.trans rfl rfl
@[simp] theorem tupK_err  {e : Str} {t1 : TapeO} : tupK  (some (.error e, t1)) = some (.error e, t1) := Eq.trans rfl rfl
@[simp] theorem tupE_ap : tupE fs env ta = tupK (evs fs env ta) := tupE_ap0
def escK  (r : RE) : RE := kX r fun x t1 => escS x t1
@[simp] theorem escK_ok  {x : Sl} {t1 : TapeO} : escK  (some (.ok x, t1)) = escS x t1 := Eq.trans rfl rfl
@[simp] theorem escK_none  : escK  none = none := Eq.trans rfl rfl
@[simp] theorem escK_err  {e : Str} {t1 : TapeO} : escK  (some (.error e, t1)) = some (.error e, t1) := Eq.trans rfl rfl
@[simp] theorem escE_ap : escE f env ta = escK (f env ta) := escE_ap0
def chK4 (op' : Sl → Sl → Option Sl) (y : Sl) (r : RE) : RE := kX r fun z t1 => (op' y z).map fun w => (.ok w, t1)
@[simp] theorem chK4_ok {op' : Sl → Sl → Option Sl} {y : Sl} {z : Sl} {t1 : TapeO} : chK4 op' y (some (.ok z, t1)) = (op' y z).map fun w => (.ok w, t1) := Eq.trans rfl rfl
@[simp] theorem chK4_none {op' : Sl → Sl → Option Sl} {y : Sl} : chK4 op' y none = none := Eq.trans rfl rfl
@[simp] theorem chK4_err {op' : Sl → Sl → Option Sl} {y : Sl} {e : Str} {t1 : TapeO} : chK4 op' y (some (.error e, t1)) = some (.error e, t1) := Eq.trans rfl rfl
def chK3 (op' : Sl → Sl → Option Sl) (h : Ev) (env : SE) (y : Sl) (t2 : TapeO) (o : Option Bool) : RE := kO o fun b => if b = true then chK4 op' y (h env t2) else some (.ok (.val (.bl false)), t2)
@[simp] theorem chK3_some {op' : Sl → Sl → Option Sl} {h : Ev} {env : SE} {y : Sl} {t2 : TapeO} {b : Bool} : chK3 op' h env y t2 (some b) = if b = true then chK4 op' y (h env t2) else some (.ok (.val (.bl false)), t2) := Eq.trans rfl rfl
def chK2 (op op' : Sl → Sl → Option Sl) (x : Sl) (h : Ev) (env : SE) (r : RE) : RE := kX r fun y t1 => chK3 op' h env y t1 ((op x y).bind blS)
@[simp] theorem chK2_ok {op op' : Sl → Sl → Option Sl} {x : Sl} {h : Ev} {env : SE} {y : Sl} {t1 : TapeO} : chK2 op op' x h env (some (.ok y, t1)) = chK3 op' h env y t1 ((op x y).bind blS) := Eq.trans rfl rfl
@[simp] theorem chK2_none {op op' : Sl → Sl → Option Sl} {x : Sl} {h : Ev} {env : SE} : chK2 op op' x h env none = none := Eq.trans rfl rfl
@[simp] theorem chK2_err {op op' : Sl → Sl → Option Sl} {x : Sl} {h : Ev} {env : SE} {e : Str} {t1 : TapeO} : chK2 op op' x h env (some (.error e, t1)) = some (.error e, t1) := Eq.trans rfl rfl
def chK1 (op op' : Sl → Sl → Option Sl) (g h : Ev) (env : SE) (r : RE) : RE := kX r fun x t1 => chK2 op op' x h env (g env t1)
@[simp] theorem chK1_ok {op op' : Sl → Sl → Option Sl} {g h : Ev} {env : SE} {x : Sl} {t1 : TapeO} : chK1 op op' g h env (some (.ok x, t1)) = chK2 op op' x h env (g env t1) := Eq.trans rfl rfl
@[simp] theorem chK1_none {op op' : Sl → Sl → Option Sl} {g h : Ev} {env : SE} : chK1 op op' g h env none = none := Eq.trans rfl rfl
@[simp] theorem chK1_err {op op' : Sl → Sl → Option Sl} {g h : Ev} {env : SE} {e : Str} {t1 : TapeO} : chK1 op op' g h env (some (.error e, t1)) = some (.error e, t1) := Eq.trans rfl rfl
@[simp] theorem chainE_ap : chainE op op' f g h env ta = chK1 op op' g h env (f env ta) := chainE_ap0
def asgK (i : Nat) (env : SE) (r : RE) : RC := kS r env fun x t1 => x.store?.map fun s => (.nx, env.set i s, t1)
@[simp] theorem asgK_ok {i : Nat} {env : SE} {x : Sl} {t1 : TapeO} : asgK i env (some (.ok x, t1)) = x.store?.map fun s => (.nx, env.set i s, t1) := Eq.trans rfl rfl
@[simp] theorem asgK_none {i : Nat} {env : SE} : asgK i env none = none := Eq.trans rfl rfl
@[simp] theorem asgK_err {i : Nat} {env : SE} {e : Str} {t1 : TapeO} : asgK i env (some (.error e, t1)) = some (.ex e, env, t1) := Eq.trans rfl rfl
@[simp] theorem asgC_ap : asgC i f env ta = asgK i env (f env ta) := asgC_ap0
@[simp] theorem augC_ap : augC i op f env ta = asgK i env (binE op (varE i) f env ta) := augC_ap0
def retK (env : SE) (r : RE) : RC := kS r env fun x t1 => x.store?.map fun s => (.rt s, env, t1)
@[simp] theorem retK_ok {env : SE} {x : Sl} {t1 : TapeO} : retK env (some (.ok x, t1)) = x.store?.map fun s => (.rt s, env, t1) := Eq.trans rfl rfl
@[simp] theorem retK_none {env : SE} : retK env none = none := Eq.trans rfl rfl
@[simp] theorem retK_err {env : SE} {e : Str} {t1 : TapeO} : retK env (some (.error e, t1)) = some (.ex e, env, t1) := Eq.trans rfl rfl
@[simp] theorem retC_ap : retC f env ta = retK env (f env ta) := retC_ap0
def dropK (env : SE) (r : RE) : RC := kS r env fun x t1 => some (.nx, env, t1)
@[simp] theorem dropK_ok {env : SE} {x : Sl} {t1 : TapeO} : dropK env (some (.ok x, t1)) = some (.nx, env, t1) := Eq.trans rfl rfl
@[simp] theorem dropK_none {env : SE} : dropK env none = none := Eq.trans rfl rfl
@[simp] theorem dropK_err {env : SE} {e : Str} {t1 : TapeO} : dropK env (some (.error e, t1)) = some (.ex e, env, t1) := Eq.trans rfl rfl
@[simp] theorem dropC_ap : dropC f env ta = dropK env (f env ta) := dropC_ap0
def ifK (cs ds : Cs) (env : SE) (r : RB) : RC := kS r env fun b t1 => if b = true then cs env t1 else ds env t1
@[simp] theorem ifK_ok {cs ds : Cs} {env : SE} {b : Bool} {t1 : TapeO} : ifK cs ds env (some (.ok b, t1)) = if b = true then cs env t1 else ds env t1 := Eq.trans rfl rfl
@[simp] theorem ifK_none {cs ds : Cs} {env : SE} : ifK cs ds env none = none := Eq.trans rfl rfl
@[simp] theorem ifK_err {cs ds : Cs} {env : SE} {e : Str} {t1 : TapeO} : ifK cs ds env (some (.error e, t1)) = some (.ex e, env, t1) := Eq.trans rfl rfl
@[simp] theorem ifC_ap : ifC t cs ds env ta = ifK cs ds env (t env ta) := ifC_ap0
def whK (cs k : Cs) (env : SE) (r : RB) : RC := kS r env fun b t1 => if b = true then kL (cs env t1) k else some (.nx, env, t1)
@[simp] theorem whK_ok {cs k : Cs} {env : SE} {b : Bool} {t1 : TapeO} : whK cs k env (some (.ok b, t1)) = if b = true then kL (cs env t1) k else some (.nx, env, t1) := Eq.trans rfl rfl
@[simp] theorem whK_none {cs k : Cs} {env : SE} : whK cs k env none = none := Eq.trans rfl rfl
@[simp] theorem whK_err {cs k : Cs} {env : SE} {e : Str} {t1 : TapeO} : whK cs k env (some (.error e, t1)) = some (.ex e, env, t1) := Eq.trans rfl rfl
theorem while_ap : whileC t cs (n + 1) env ta = whK cs (whileC t cs n) env (t env ta) := while_ap0
def forK (tg : Tg) (cs : Cs) (env : SE) (r : RD) : RC := kS r env fun l t1 => forL tg cs l env t1
@[simp] theorem forK_ok {tg : Tg} {cs : Cs} {env : SE} {l : List D} {t1 : TapeO} : forK tg cs env (some (.ok l, t1)) = forL tg cs l env t1 := Eq.trans rfl rfl
@[simp] theorem forK_none {tg : Tg} {cs : Cs} {env : SE} : forK tg cs env none = none := Eq.trans rfl rfl
@[simp] theorem forK_err {tg : Tg} {cs : Cs} {env : SE} {e : Str} {t1 : TapeO} : forK tg cs env (some (.error e, t1)) = some (.ex e, env, t1) := Eq.trans rfl rfl
@[simp] theorem forC_ap : forC it tg cs env ta = forK tg cs env (it env ta) := forC_ap0
def forK1 (tg : Tg) (cs : Cs) (l : List D) (ta : TapeO) (o : Option SE) : RC := kO o fun env1 => kL (cs env1 ta) (forL tg cs l)
@[simp] theorem forK1_some : forK1 tg cs l ta (some env1) = kL (cs env1 ta) (forL tg cs l) := Eq.trans rfl rfl
theorem forL_cons {d : D} : forL tg cs (d :: l) env ta = forK1 tg cs l ta (tg.set d env) := forL_cons0
def seqFK  (r : RE) : RD := kX r fun x t1 => (frzOf x).map fun l => (.ok l, t1)
@[simp] theorem seqFK_ok  {x : Sl} {t1 : TapeO} : seqFK  (some (.ok x, t1)) = (frzOf x).map fun l => (.ok l, t1) := Eq.trans rfl rfl
@[simp] theorem seqFK_none  : seqFK  none = none := Eq.trans rfl rfl
@[simp] theorem seqFK_err  {e : Str} {t1 : TapeO} : seqFK  (some (.error e, t1)) = some (.error e, t1) := Eq.trans rfl rfl
@[simp] theorem seqF_ap : seqF f env ta = seqFK (f env ta) := seqF_ap0
def seqIK  (r : RE) : RD := kX r fun x t1 => x.seq?.map fun l => (.ok l, t1)
@[simp] theorem seqIK_ok  {x : Sl} {t1 : TapeO} : seqIK  (some (.ok x, t1)) = x.seq?.map fun l => (.ok l, t1) := Eq.trans rfl rfl
@[simp] theorem seqIK_none  : seqIK  none = none := Eq.trans rfl rfl
@[simp] theorem seqIK_err  {e : Str} {t1 : TapeO} : seqIK  (some (.error e, t1)) = some (.error e, t1) := Eq.trans rfl rfl
@[simp] theorem seqI_ap : seqI f env ta = seqIK (f env ta) := seqI_ap0
def argK (o : List Sl → Option (List D)) (r : RA) : RD := kX r fun rs t1 => (o rs).map fun l => (.ok l, t1)
@[simp] theorem argK_ok {o : List Sl → Option (List D)} {rs : List Sl} {t1 : TapeO} : argK o (some (.ok rs, t1)) = (o rs).map fun l => (.ok l, t1) := Eq.trans rfl rfl
@[simp] theorem argK_none {o : List Sl → Option (List D)} : argK o none = none := Eq.trans rfl rfl
@[simp] theorem argK_err {o : List Sl → Option (List D)} {e : Str} {t1 : TapeO} : argK o (some (.error e, t1)) = some (.error e, t1) := Eq.trans rfl rfl
@[simp] theorem argI_ap {o : List Sl → Option (List D)} : argI o fs env ta = argK o (evs fs env ta) := argI_ap0
def unpB (js : List Nat) (env : SE) (t1 : TapeO) (o : Option (List D)) : RC := kO o fun l => if l.length = js.length then some (.nx, setAll js l env, t1) else none
@[simp] theorem unpB_some : unpB js env t1 (some l) = if l.length = js.length then some (.nx, setAll js l env, t1) else none := Eq.trans rfl rfl
def unpK (js : List Nat) (env : SE) (r : RE) : RC := kS r env fun x t1 => unpB js env t1 (tupOf x)
@[simp] theorem unpK_ok {js : List Nat} {env : SE} {x : Sl} {t1 : TapeO} : unpK js env (some (.ok x, t1)) = unpB js env t1 (tupOf x) := Eq.trans rfl rfl
@[simp] theorem unpK_none {js : List Nat} {env : SE} : unpK js env none = none := Eq.trans rfl rfl
@[simp] theorem unpK_err {js : List Nat} {env : SE} {e : Str} {t1 : TapeO} : unpK js env (some (.error e, t1)) = some (.ex e, env, t1) := Eq.trans rfl rfl
@[simp] theorem unpC_ap : unpC js f env ta = unpK js env (f env ta) := unpC_ap0
def unpLK (js : List Nat) (env : SE) (r : RE) : RC := kS r env fun x t1 => unpB js env t1 (listOf x)
@[simp] theorem unpLK_ok {js : List Nat} {env : SE} {x : Sl} {t1 : TapeO} : unpLK js env (some (.ok x, t1)) = unpB js env t1 (listOf x) := Eq.trans rfl rfl
@[simp] theorem unpLK_none {js : List Nat} {env : SE} : unpLK js env none = none := Eq.trans rfl rfl
@[simp] theorem unpLK_err {js : List Nat} {env : SE} {e : Str} {t1 : TapeO} : unpLK js env (some (.error e, t1)) = some (.ex e, env, t1) := Eq.trans rfl rfl
@[simp] theorem unpLC_ap : unpLC js f env ta = unpLK js env (f env ta) := unpLC_ap0
def parK (i j : Nat) (env : SE) (r : RA) : RC := kS r env fun rs t1 => parS i j env rs t1
@[simp] theorem parK_ok {i j : Nat} {env : SE} {rs : List Sl} {t1 : TapeO} : parK i j env (some (.ok rs, t1)) = parS i j env rs t1 := Eq.trans rfl rfl
@[simp] theorem parK_none {i j : Nat} {env : SE} : parK i j env none = none := Eq.trans rfl rfl
@[simp] theorem parK_err {i j : Nat} {env : SE} {e : Str} {t1 : TapeO} : parK i j env (some (.error e, t1)) = some (.ex e, env, t1) := Eq.trans rfl rfl
@[simp] theorem par2C_ap : par2C i j fs env ta = parK i j env (evs fs env ta) := par2C_ap0
def cK2 (tg : Tg) (t : Tv) (f : Ev) (l : List D) (env : SE) (r : RE) : Option (List D × TapeO) := kC r fun y t2 => (compL tg t f l env t2).map fun p => (y :: p.1, p.2)
@[simp] theorem cK2_ok {d : D} : cK2 tg t f l env (some (.ok (.val d), t1)) = (compL tg t f l env t1).map fun p => (d :: p.1, p.2) := Eq.trans rfl rfl
def cK1 (tg : Tg) (t : Tv) (f : Ev) (l : List D) (env env1 : SE) (r : RB) : Option (List D × TapeO) := kD r fun b t1 => if b = true then cK2 tg t f l env (f env1 t1) else compL tg t f l env t1
@[simp] theorem cK1_ok : cK1 tg t f l env env1 (some (.ok b, t1)) = if b = true then cK2 tg t f l env (f env1 t1) else compL tg t f l env t1 := Eq.trans rfl rfl
def cK0 (tg : Tg) (t : Tv) (f : Ev) (l : List D) (env : SE) (ta : TapeO) (o : Option SE) : Option (List D × TapeO) := kO o fun env1 => cK1 tg t f l env env1 (t env1 ta)
@[simp] theorem cK0_some : cK0 tg t f l env ta (some env1) = cK1 tg t f l env env1 (t env1 ta) := Eq.trans rfl rfl
theorem compL_cons {d : D} : compL tg t f (d :: l) env ta = cK0 tg t f l env ta (tg.set d env) := compL_cons0
def compK (vs : List Nat) (tg : Tg) (t : Tv) (f : Ev) (env : SE) (r : RD) : RE := kX r fun l t1 => if l.length < LIM then (compL tg t f l (wipeE env vs) t1).map fun p => (.ok (.own p.1), p.2) else none
@[simp] theorem compK_ok {vs : List Nat} {tg : Tg} {t : Tv} {f : Ev} {env : SE} {l : List D} {t1 : TapeO} : compK vs tg t f env (some (.ok l, t1)) = if l.length < LIM then (compL tg t f l (wipeE env vs) t1).map fun p => (.ok (.own p.1), p.2) else none := Eq.trans rfl rfl
@[simp] theorem compK_none {vs : List Nat} {tg : Tg} {t : Tv} {f : Ev} {env : SE} : compK vs tg t f env none = none := Eq.trans rfl rfl
@[simp] theorem compK_err {vs : List Nat} {tg : Tg} {t : Tv} {f : Ev} {env : SE} {e : Str} {t1 : TapeO} : compK vs tg t f env (some (.error e, t1)) = some (.error e, t1) := Eq.trans rfl rfl
@[simp] theorem compE_ap : compE it vs tg t f env ta = compK vs tg t f env (it env ta) := compE_ap0
def appB (i : Nat) (env : SE) (l : List D) (t1 : TapeO) (o : Option D) : RC := kO o fun d => if l.length < LIM then some (.nx, env.set i (.own (l ++ [d])), t1) else none
@[simp] theorem appB_some {d : D} : appB i env l t1 (some d) = if l.length < LIM then some (.nx, env.set i (.own (l ++ [d])), t1) else none := Eq.trans rfl rfl
def appK2 (i : Nat) (env : SE) (l : List D) (r : RE) : RC := kS r env fun x t1 => appB i env l t1 (valOf x)
@[simp] theorem appK2_ok {i : Nat} {env : SE} {l : List D} {x : Sl} {t1 : TapeO} : appK2 i env l (some (.ok x, t1)) = appB i env l t1 (valOf x) := Eq.trans rfl rfl
@[simp] theorem appK2_none {i : Nat} {env : SE} {l : List D} : appK2 i env l none = none := Eq.trans rfl rfl
@[simp] theorem appK2_err {i : Nat} {env : SE} {l : List D} {e : Str} {t1 : TapeO} : appK2 i env l (some (.error e, t1)) = some (.ex e, env, t1) := Eq.trans rfl rfl
def appK1 (i : Nat) (f : Ev) (env : SE) (ta : TapeO) (o : Option (List D)) : RC := kO o fun l => appK2 i env l (f env ta)
@[simp] theorem appK1_some : appK1 i f env ta (some l) = appK2 i env l (f env ta) := Eq.trans rfl rfl
@[simp] theorem appC_ap : appC i f env ta = appK1 i f env ta (ownOf env[i]?) := appC_ap0
def setB (i : Nat) (env : SE) (l : List D) (d : Option D) (k : Option Int) (t2 : TapeO) : RC := kO d fun d => kO k fun k => (ixN l.length k).map fun m => (.nx, env.set i (.own (l.set m d)), t2)
@[simp] theorem setB_some {d : D} {k : Int} : setB i env l (some d) (some k) t1 = (ixN l.length k).map fun m => (.nx, env.set i (.own (l.set m d)), t1) := Eq.trans rfl rfl
def setK2 (i : Nat) (env : SE) (l : List D) (x : Sl) (r : RE) : RC := kS r env fun q t1 => setB i env l (valOf x) (intOf q) t1
@[simp] theorem setK2_ok {i : Nat} {env : SE} {l : List D} {x : Sl} {q : Sl} {t1 : TapeO} : setK2 i env l x (some (.ok q, t1)) = setB i env l (valOf x) (intOf q) t1 := Eq.trans rfl rfl
@[simp] theorem setK2_none {i : Nat} {env : SE} {l : List D} {x : Sl} : setK2 i env l x none = none := Eq.trans rfl rfl
@[simp] theorem setK2_err {i : Nat} {env : SE} {l : List D} {x : Sl} {e : Str} {t1 : TapeO} : setK2 i env l x (some (.error e, t1)) = some (.ex e, env, t1) := Eq.trans rfl rfl
def setK1 (i : Nat) (g : Ev) (env : SE) (x : Sl) (t1 : TapeO) (o : Option (List D)) : RC := kO o fun l => setK2 i env l x (g env t1)
@[simp] theorem setK1_some : setK1 i g env x t1 (some l) = setK2 i env l x (g env t1) := Eq.trans rfl rfl
def setK (i : Nat) (g : Ev) (env : SE) (r : RE) : RC := kS r env fun x t1 => setK1 i g env x t1 (ownOf env[i]?)
@[simp] theorem setK_ok {i : Nat} {g : Ev} {env : SE} {x : Sl} {t1 : TapeO} : setK i g env (some (.ok x, t1)) = setK1 i g env x t1 (ownOf env[i]?) := Eq.trans rfl rfl
@[simp] theorem setK_none {i : Nat} {g : Ev} {env : SE} : setK i g env none = none := Eq.trans rfl rfl
@[simp] theorem setK_err {i : Nat} {g : Ev} {env : SE} {e : Str} {t1 : TapeO} : setK i g env (some (.error e, t1)) = some (.ex e, env, t1) := Eq.trans rfl rfl
@[simp] theorem setC_ap : setC i f g env ta = setK i g env (f env ta) := setC_ap0
def tsetK (k : Nat) (env : SE) (s : Option Sl) (r : RE) : RC := kS r env fun x t1 => tsS k env s x t1
@[simp] theorem tsetK_ok {k : Nat} {env : SE} {s : Option Sl} {x : Sl} {t1 : TapeO} : tsetK k env s (some (.ok x, t1)) = tsS k env s x t1 := Eq.trans rfl rfl
@[simp] theorem tsetK_none {k : Nat} {env : SE} {s : Option Sl} : tsetK k env s none = none := Eq.trans rfl rfl
@[simp] theorem tsetK_err {k : Nat} {env : SE} {s : Option Sl} {e : Str} {t1 : TapeO} : tsetK k env s (some (.error e, t1)) = some (.ex e, env, t1) := Eq.trans rfl rfl
@[simp] theorem tsetC_ap {k : Nat} : tsetC i k f env ta = tsetK k env env[i]? (f env ta) := tsetC_ap0
end
/-! ### operations -/
theorem eq_int (i j : Int) : eqS (.val (.int i)) (.val (.int j)) = some (.val (.bl (decide (i = j)))) := by
  unfold eqS eqC
  simp [Sl.dat?, D.py, SeqAt.shaped, PyData.canLay0, PyData.depth, PyData.eqv]
  by_cases h : i = j <;> simp [h]
theorem ne_int (i j : Int) : neS (.val (.int i)) (.val (.int j)) = some (.val (.bl (!decide (i = j)))) := by
  unfold neS eqC
  simp [Sl.dat?, D.py, SeqAt.shaped, PyData.canLay0, PyData.depth, PyData.eqv]
  by_cases h : i = j <;> simp [h]
theorem add_int (i j : Int) : addS (.val (.int i)) (.val (.int j)) = some (.val (.int (i + j))) := rfl
theorem sub_int (i j : Int) : subS (.val (.int i)) (.val (.int j)) = some (.val (.int (i - j))) := rfl
theorem iadd_int' (i j : Int) : iaddS (.val (.int i)) (.val (.int j)) = some (.val (.int (i + j))) := rfl
theorem lt_int (i j : Int) : ltS (.val (.int i)) (.val (.int j)) = some (.val (.bl (decide (i < j)))) := rfl
theorem le_int (i j : Int) : leS (.val (.int i)) (.val (.int j)) = some (.val (.bl (decide (i ≤ j)))) := rfl
theorem gt_int (i j : Int) : gtS (.val (.int i)) (.val (.int j)) = some (.val (.bl (decide (j < i)))) := rfl
theorem ge_int (i j : Int) : geS (.val (.int i)) (.val (.int j)) = some (.val (.bl (decide (j ≤ i)))) := rfl
theorem mod_int {i j : Int} (h : 0 < j) : modS (.val (.int i)) (.val (.int j)) = some (.val (.int (i % j))) := by
  unfold modS opI; simp [h]
theorem log2_lt {n k : Nat} (h : n < 2 ^ k) (hk : 0 < k) : n.log2 < k := by
  by_cases hz : n = 0
  · subst hz; simpa using hk
  · exact (Nat.log2_lt hz).mpr h
theorem mulOk_of {i j : Int} (h1 : -(2 ^ 64) < i) (h2 : i < 2 ^ 64) (h3 : -(2 ^ 64) < j) (h4 : j < 2 ^ 64) : mulOk i j = true := by
  unfold mulOk
  have a : i.natAbs < 2 ^ 64 := by omega
  have b : j.natAbs < 2 ^ 64 := by omega
  have := log2_lt a (by decide)
  have := log2_lt b (by decide)
  simp; omega
theorem mul_int {i j : Int} (h1 : -(2 ^ 64) < i) (h2 : i < 2 ^ 64) (h3 : -(2 ^ 64) < j) (h4 : j < 2 ^ 64) : mulS (.val (.int i)) (.val (.int j)) = some (.val (.int (i * j))) := by
  unfold mulS opI; simp [mulOk_of h1 h2 h3 h4]
theorem divOk_of {j : Int} (h1 : 0 < j) (h2 : j < 2 ^ 64) : divOk j = true := by
  unfold divOk
  have a : j.natAbs < 2 ^ 64 := by omega
  have := log2_lt a (by decide)
  simp; omega
theorem fdiv_int {i j : Int} (h1 : 0 < j) (h2 : j < 2 ^ 64) : fdivS (.val (.int i)) (.val (.int j)) = some (.val (.int (i / j))) := by
  unfold fdivS opI; simp [divOk_of h1 h2]
theorem pow_int {i j : Int} (h1 : 0 ≤ j) (h2 : j ≤ 1000000) (h3 : i.natAbs < 2 ^ 64) : powS (.val (.int i)) (.val (.int j)) = some (.val (.int (i ^ j.toNat))) := by
  unfold powS opI powOk; simp [h1, h2, h3]
theorem ix_at {x : Sl} {ds : List D} {i : Int} {d : D} (e : x.seq? = some ds) (h0 : 0 ≤ i) (h : ds[i.toNat]? = some d) : ixS x (.val (.int i)) = some (.val d) := by
  unfold ixS
  rw [e]
  have hl : i.toNat < ds.length := by
    rcases Nat.lt_or_ge i.toNat ds.length with q | q
    · exact q
    · rw [List.getElem?_eq_none q] at h; cases h
  show (atI ds i).map Sl.val = _
  unfold atI ixN
  rw [if_pos h0, if_pos (by omega)]
  show (ds[i.toNat]?).map Sl.val = _
  rw [h]; rfl
theorem mapInt_get {ns : List Int} {i : Nat} (h : i < ns.length) : (ns.map D.int)[i]? = some (D.int ns[i]) := by simp [h]

/-! ### the tape's defs -/
def beginC : Cs :=
  (seqC (asgC 1 (cstE (.int 1)))
  (seqC (forC (seqF (varE 0)) (.one 2) (asgC 1 (binE modS (binE addS (binE addS (binE mulS (varE 1) (cstE (.int 69621))) (binE modS (callE intS [(varE 2)]) (cstE (.int 2147483629)))) (cstE (.int 7))) (cstE (.int 2147483647)))))
  (retC (lstE [(escE (callE listS [(varE 0)])), (cstE (.int 0)), (cstE (.int 0)), (varE 1)]))))
def takeC : Cs :=
  (seqC (ifC (andT (ofE (binE eqS (tgetE 0 2) (cstE (.int 0)))) (ofE (binE ltS (tgetE 0 1) (callE lenS [(tgetE 0 0)])))) (seqC (tsetC 0 2 (callE absS [(callE intS [(binE ixS (tgetE 0 0) (tgetE 0 1))])]))
  (seqC (tsetC 0 1 (binE addS (tgetE 0 1) (cstE (.int 1))))
  (ifC (ofE (binE ltS (tgetE 0 2) (binE powS (cstE (.int 10)) (cstE (.int 18))))) (seqC (asgC 2 (callE intS [(tgetE 0 2)]))
  (seqC (tsetC 0 2 (cstE (.int 0)))
  (retC (binE modS (varE 2) (varE 1))))) skipC))) skipC)
  (seqC (ifC (ofE (binE gtS (tgetE 0 2) (cstE (.int 0)))) (seqC (asgC 3 (binE modS (callE intS [(tgetE 0 2)]) (varE 1)))
  (seqC (tsetC 0 2 (binE fdivS (callE intS [(tgetE 0 2)]) (varE 1)))
  (retVC 3))) skipC)
  (seqC (tsetC 0 3 (binE modS (callE intS [(binE addS (binE mulS (tgetE 0 3) (cstE (.int 48271))) (cstE (.int 11)))]) (cstE (.int 2147483647))))
  (retC (binE modS (callE intS [(binE fdivS (tgetE 0 3) (cstE (.int 3)))]) (varE 1))))))
def beginF : Fn := defF 3 beginC
def takeF : Fn := defF 4 takeC
structure TOk (t : Tape) : Prop where
  left : 0 ≤ t.left
  s0 : 0 ≤ t.seed
  s1 : t.seed < 2147483647
@[simp] theorem int_call (i : Int) : intS [.val (.int i)] = some (.val (.int i)) := rfl
@[simp] theorem abs_call (i : Int) : absS [.val (.int i)] = some (.val (.int (if i < 0 then -i else i))) := rfl
@[simp] theorem len_call {x : Sl} {l : List D} (h : x.seq? = some l) : lenS [x] = some (.val (.int l.length)) := by
  unfold lenS; dsimp only; rw [h]
@[simp] theorem truth_bl (b : Bool) : truthS (.val (.bl b)) = some b := rfl
@[simp] theorem truth_int (i : Int) : truthS (.val (.int i)) = some (i != 0) := rfl
theorem begin_loop (sc : Sl) : ∀ (ns : List Int) (seed : Int) (z : Sl), 0 ≤ seed → seed < 2147483647 →
    ∃ seed' z', 0 ≤ seed' ∧ seed' < 2147483647 ∧ forL (.one 2) (asgC 1 (binE modS (binE addS (binE addS (binE mulS (varE 1) (cstE (.int 69621))) (binE modS (callE intS [(varE 2)]) (cstE (.int 2147483629)))) (cstE (.int 7))) (cstE (.int 2147483647)))) (ns.map D.int) [sc, .val (.int seed), z] none = some (.nx, [sc, .val (.int seed'), z'], none)
  | [], seed, z, h0, h1 => ⟨seed, z, h0, h1, rfl⟩
  | n :: ns, seed, z, h0, h1 => by
    have hm := @mul_int seed 69621 (by omega) (by omega) (by omega) (by omega)
    obtain ⟨s', z', a, b, e⟩ := begin_loop sc ns ((seed * 69621 + n % 2147483629 + 7) % 2147483647) (.val (.int n)) (Int.emod_nonneg _ (by decide)) (Int.emod_lt_of_pos _ (by decide))
    refine ⟨s', z', a, b, ?_⟩
    rw [List.map_cons, forL_cons]
    simp [hm, mod_int, add_int, e]
theorem begin_ok (ns : List Int) : ∃ seed, 0 ≤ seed ∧ seed < 2147483647 ∧ beginF [.val (.lst (ns.map D.int))] none = some (.ok (.own [.lst (ns.map D.int), .int 0, .int 0, .int seed]), none) := by
  obtain ⟨s', z', a, b, e⟩ := begin_loop (.val (.lst (ns.map D.int))) ns 1 .un (by decide) (by decide)
  refine ⟨s', a, b, ?_⟩
  unfold beginF beginC
  rw [defF_ap]
  simp [e, listS]
theorem take_ok (t : Tape) (hT : TOk t) (m : Int) (h1 : 1 ≤ m) (h2 : m < 2 ^ 62) :
    ∃ d t', 0 ≤ d ∧ d < m ∧ TOk t' ∧ takeF [.tape, .val (.int m)] (some t) = some (.ok (.val (.int d)), some t') := by
  obtain ⟨hl, h0, hs⟩ := hT
  have mp : 0 < m := by omega
  have fd := fun i => @fdiv_int i m mp (by omega)
  have mo := fun i => @mod_int i m mp
  have f3 := fun i => @fdiv_int i 3 (by decide) (by decide)
  have m7 := fun i => @mod_int i 2147483647 (by decide)
  have p18 := @pow_int 10 18 (by decide) (by decide) (by decide)
  have mm := @mul_int t.seed 48271 (by omega) (by omega) (by omega) (by omega)
  have nn : ∀ i, 0 ≤ i % m := fun i => Int.emod_nonneg _ (by omega)
  have ll : ∀ i, i % m < m := fun i => Int.emod_lt_of_pos _ mp
  have mid : ∀ t' : Tape, 0 ≤ t'.left → t'.seed = t.seed → ∃ d t'' e', 0 ≤ d ∧ d < m ∧ TOk t'' ∧
      (seqC (ifC (ofE (binE gtS (tgetE 0 2) (cstE (.int 0)))) (seqC (asgC 3 (binE modS (callE intS [(tgetE 0 2)]) (varE 1)))
        (seqC (tsetC 0 2 (binE fdivS (callE intS [(tgetE 0 2)]) (varE 1)))
        (retVC 3))) skipC)
        (seqC (tsetC 0 3 (binE modS (callE intS [(binE addS (binE mulS (tgetE 0 3) (cstE (.int 48271))) (cstE (.int 11)))]) (cstE (.int 2147483647))))
        (retC (binE modS (callE intS [(binE fdivS (tgetE 0 3) (cstE (.int 3)))]) (varE 1))))) [.tape, .val (.int m), .un, .un] (some t') = some (.rt (.val (.int d)), e', some t'') := by
    intro t' e1 e2
    by_cases hz : t'.left = 0
    · refine ⟨((t.seed * 48271 + 11) % 2147483647 / 3) % m, { t' with seed := (t.seed * 48271 + 11) % 2147483647 }, [.tape, .val (.int m), .un, .un], nn _, ll _, ⟨by simp [hz], Int.emod_nonneg _ (by decide), Int.emod_lt_of_pos _ (by decide)⟩, ?_⟩
      simp [Tape.get, Tape.put, gt_int, hz, e2, mm, add_int, m7, f3, mo]
    · have hp : 0 < t'.left := by omega
      refine ⟨t'.left % m, { t' with left := t'.left / m }, [.tape, .val (.int m), .un, .val (.int (t'.left % m))], nn _, ll _, ⟨Int.ediv_nonneg e1 (by omega), by simp [e2, h0], by simp [e2, hs]⟩, ?_⟩
      simp [Tape.get, Tape.put, gt_int, hp, mo, fd]
  unfold takeF takeC
  rw [defF_ap]
  by_cases hc : t.left = 0 ∧ t.pos < t.scr.length
  · obtain ⟨hz, hp⟩ := hc
    have hg : ixS (.val (.lst (t.scr.map D.int))) (.val (.int (t.pos : Int))) = some (.val (.int t.scr[t.pos])) := ix_at rfl (by omega) (by simp [hp])
    have hp' : ((t.pos : Int) + 1).toNat = t.pos + 1 := by omega
    have hp2 : (0 : Int) ≤ (t.pos : Int) + 1 := by omega
    by_cases hlt : (if t.scr[t.pos] < 0 then -t.scr[t.pos] else t.scr[t.pos]) < 1000000000000000000
    · refine ⟨(if t.scr[t.pos] < 0 then -t.scr[t.pos] else t.scr[t.pos]) % m, { t with pos := t.pos + 1, left := 0 }, nn _, ll _, ⟨Int.le_refl _, h0, hs⟩, ?_⟩
      simp [Tape.get, Tape.put, eq_int, lt_int, hz, hp, hg, add_int, hp2, hp', p18, hlt, mo]
    · obtain ⟨d, t'', e', a, b, c, e⟩ := mid { t with pos := t.pos + 1, left := (if t.scr[t.pos] < 0 then -t.scr[t.pos] else t.scr[t.pos]) } (by
        have hq : (0 : Int) ≤ if t.scr[t.pos] < 0 then -t.scr[t.pos] else t.scr[t.pos] := by split <;> omega
        exact hq) rfl
      refine ⟨d, t'', a, b, c, ?_⟩
      rw [seqC_ap]
      have e0 : ifC (andT (ofE (binE eqS (tgetE 0 2) (cstE (.int 0)))) (ofE (binE ltS (tgetE 0 1) (callE lenS [(tgetE 0 0)])))) (seqC (tsetC 0 2 (callE absS [(callE intS [(binE ixS (tgetE 0 0) (tgetE 0 1))])]))
          (seqC (tsetC 0 1 (binE addS (tgetE 0 1) (cstE (.int 1))))
          (ifC (ofE (binE ltS (tgetE 0 2) (binE powS (cstE (.int 10)) (cstE (.int 18))))) (seqC (asgC 2 (callE intS [(tgetE 0 2)]))
          (seqC (tsetC 0 2 (cstE (.int 0)))
          (retC (binE modS (varE 2) (varE 1))))) skipC))) skipC [.tape, .val (.int m), .un, .un] (some t) = some (.nx, [.tape, .val (.int m), .un, .un], some { t with pos := t.pos + 1, left := (if t.scr[t.pos] < 0 then -t.scr[t.pos] else t.scr[t.pos]) }) := by
        simp [Tape.get, Tape.put, eq_int, lt_int, hz, hp, hg, add_int, hp2, hp', p18, hlt]
      show kR _ (kQ (ifC _ _ _ [.tape, .val (.int m), .un, .un] (some t)) _) = _
      rw [e0, kQ_nx, e]
      rfl
  · obtain ⟨d, t'', e', a, b, c, e⟩ := mid t hl rfl
    refine ⟨d, t'', a, b, c, ?_⟩
    rw [seqC_ap]
    have e0 : ifC (andT (ofE (binE eqS (tgetE 0 2) (cstE (.int 0)))) (ofE (binE ltS (tgetE 0 1) (callE lenS [(tgetE 0 0)])))) (seqC (tsetC 0 2 (callE absS [(callE intS [(binE ixS (tgetE 0 0) (tgetE 0 1))])]))
        (seqC (tsetC 0 1 (binE addS (tgetE 0 1) (cstE (.int 1))))
        (ifC (ofE (binE ltS (tgetE 0 2) (binE powS (cstE (.int 10)) (cstE (.int 18))))) (seqC (asgC 2 (callE intS [(tgetE 0 2)]))
        (seqC (tsetC 0 2 (cstE (.int 0)))
        (retC (binE modS (varE 2) (varE 1))))) skipC))) skipC [.tape, .val (.int m), .un, .un] (some t) = some (.nx, [.tape, .val (.int m), .un, .un], some t) := by
      by_cases z : t.left = 0
      · have h' : ¬ t.pos < t.scr.length := fun q => hc ⟨z, q⟩
        simp [Tape.get, eq_int, lt_int, z, h']
      · simp [Tape.get, eq_int, z]
    show kR _ (kQ (ifC _ _ _ [.tape, .val (.int m), .un, .un] (some t)) _) = _
    rw [e0, kQ_nx, e]
    rfl
open Classical in
noncomputable def takeP (t : Tape) (m : Int) : Int × Tape := if h : TOk t ∧ 1 ≤ m ∧ m < 2 ^ 62 then ⟨(take_ok t h.1 m h.2.1 h.2.2).choose, (take_ok t h.1 m h.2.1 h.2.2).choose_spec.choose⟩ else ⟨0, t⟩
noncomputable def takeV (t : Tape) (m : Int) : Int := (takeP t m).1
noncomputable def takeT (t : Tape) (m : Int) : Tape := (takeP t m).2
theorem take_all {t : Tape} {m : Int} (hT : TOk t) (h1 : 1 ≤ m) (h2 : m < 2 ^ 62) : 0 ≤ takeV t m ∧ takeV t m < m ∧ TOk (takeT t m) ∧ takeF [.tape, .val (.int m)] (some t) = some (.ok (.val (.int (takeV t m))), some (takeT t m)) := by
  have h : TOk t ∧ 1 ≤ m ∧ m < 2 ^ 62 := ⟨hT, h1, h2⟩
  have e : takeP t m = ⟨(take_ok t h.1 m h.2.1 h.2.2).choose, (take_ok t h.1 m h.2.1 h.2.2).choose_spec.choose⟩ := by unfold takeP; rw [dif_pos h]
  unfold takeV takeT
  rw [e]
  exact (take_ok t h.1 m h.2.1 h.2.2).choose_spec.choose_spec
theorem take_tok {t : Tape} {m : Int} (hT : TOk t) (h1 : 1 ≤ m) (h2 : m < 2 ^ 62) : TOk (takeT t m) := (take_all hT h1 h2).2.2.1
theorem take_eq {t : Tape} {m : Int} (hT : TOk t) (h1 : 1 ≤ m) (h2 : m < 2 ^ 62) : takeF [.tape, .val (.int m)] (some t) = some (.ok (.val (.int (takeV t m))), some (takeT t m)) := (take_all hT h1 h2).2.2.2
theorem take_nn {t : Tape} {m : Int} (hT : TOk t) (h1 : 1 ≤ m) (h2 : m < 2 ^ 62) : 0 ≤ takeV t m := (take_all hT h1 h2).1
theorem take_lt {t : Tape} {m : Int} (hT : TOk t) (h1 : 1 ≤ m) (h2 : m < 2 ^ 62) : takeV t m < m := (take_all hT h1 h2).2.1
def endsTrue (r : Option (Fl × SE × TapeO)) : Prop := ∃ env t, r = some (.rt (.val (.bl true)), env, t)
@[simp] theorem ends_rt {b : Bool} {e : SE} {t : TapeO} : endsTrue (some (.rt (.val (.bl b)), e, t)) ↔ b = true := by
  constructor
  · rintro ⟨env, t, h⟩
    cases h; rfl
  · rintro rfl
    exact ⟨e, t, rfl⟩
end MP

/-! MPl: slices. -/
namespace MP
open PySem PySem.Spec PyProof.Rows L2
section
variable {prog : Program} {w : World} {A : Around} {E : Value → Shared → Prop} {s : Shared}
/-- t[a:b], the whole: t itself -/
theorem getItem_all {t sl : Addr} {its : Array Value} {vl vu : Value} {lo hi : Option Int} {Q : Value → Shared → Prop} (ht : IsTup s.heap t its) (hs : s.heap.IsSliceOf sl vl vu .none) (pl : IsPart vl lo) (pu : IsPart vu hi)
    (h1 : HT.sIx its.size 0 lo = 0) (h2 : HT.sIx its.size its.size hi = its.size) (h : Q (.ref t) s) : wpAny (model prog w) A (getItem (.ref t) (.ref sl)) Q E s := by
  obtain ⟨os, hos, hcs, hds⟩ := id hs
  unfold getItem
  (try (with_reducible refine wpAny_holding ?_))
  (first | (refine wpAny_bind (wpAny_pure ?_)) | skip)
  refine wpAny_bind (wpAny_sequenceKey (ht.typeIs) (by decide) ?_)
  refine wpAny_bind (wpAny_callSpecial?_slot (name := Str.ofString "__getitem__") (ht.typeIs) slot_tuple_getitem (wpAny_call_entry slot_tuple_getitem (ht.typeIs) entry_tuple_getitem ?_ (args_tuple_getitem _ _)))
  show wpAny _ _ (Builtin.Tuple.tupleItemsOf (Value.ref t) >>= _) _ _ s
  refine wpAny_bind (tupleItemsOf_ ht ?_)
  refine wpAny_bind (wpAny_typeOf (show s.TypeIs (.ref sl) "slice" from ⟨os, hos, hcs⟩) ?_)
  rw [if_pos (by decide)]
  refine wpAny_bind (HT.sliceApplied_gen hs pl pu ?_)
  have hy : ((((HT.sIx its.size 0 lo : Nat) : Int) == 0 && (1 : Int) == 1 && (HT.sIx its.size its.size hi - HT.sIx its.size 0 lo) == its.size) = true) := by
    rw [h1, h2]; simp
  show wpAny _ _ (if ((((HT.sIx its.size 0 lo : Nat) : Int) == 0 && (1 : Int) == 1 && (HT.sIx its.size its.size hi - HT.sIx its.size 0 lo) == its.size) = true) then _ else _) _ _ s
  rw [if_pos hy]
  unfold Builtin.Tuple.tupleIsExact
  refine wpAny_bind (wpAny_bind (wpAny_typeOf (ht.typeIs) (wpAny_pure ?_)))
  show wpAny _ _ (if ((Value.type "tuple" == Value.type "tuple") = true) then _ else _) _ _ s
  rw [if_pos (by decide)]
  refine wpAny_bind (wpAny_rule ?_)
  first
    | exact wpAny_pure ⟨_, rfl, wpAny_pure h⟩
    | exact wpAny_bind (wpAny_pure ⟨_, rfl, wpAny_pure h⟩)
end
theorem cut_all {α : Type} {xs : List α} {lo hi : Option Int} (h1 : HT.sIx xs.length 0 lo = 0) (h2 : HT.sIx xs.length xs.length hi = xs.length) : (xs.drop (HT.sIx xs.length 0 lo)).take (HT.sIx xs.length xs.length hi - HT.sIx xs.length 0 lo) = xs := by
  rw [h1, h2]; simp
/-- the items of xs[lo:hi] -/
def cutD (xs : List D) (lo hi : Option Int) : List D := (xs.drop (HT.sIx xs.length 0 lo)).take (HT.sIx xs.length xs.length hi - HT.sIx xs.length 0 lo)
theorem Reps.cut {K : PySem.W.Frag} {H : Hp} {vs : List V} {ds : List D} (r : Reps K H vs ds) (lo hi : Option Int) : Reps K H (cutV vs lo hi) (cutD ds lo hi) := by
  unfold cutV cutD
  rw [r.length]
  exact (r.drop _).take _
/-- of a tuple, whole or not; of a list -/
def rSlA (K : PySem.W.Frag) : V → Option Int → Option Int → Hp → VK → Prop := fun x lo hi H Q =>
  (∃ a xs, x = .ref a ∧ SqT K H a xs ∧ Q (.ref a) H ∧ (cutV xs lo hi ≠ xs → True) ∧ HT.sIx xs.length 0 lo = 0 ∧ HT.sIx xs.length xs.length hi = xs.length) ∨ rSlT K x lo hi H Q ∨ rSlL K x lo hi H Q
theorem sl_all {X : Cx} : SlR X (rSlA X.K) := by
  refine SlR.or (fun pins s σ H x v vl vu lo hi sl Q I rx hs pl pu h => ?_) (SlR.or sl_tup sl_list)
  obtain ⟨a, xs, rfl, hx, q, _, h1, h2⟩ := h
  cases rx
  obtain ⟨its, r, ht, hz⟩ := I.tuple hx
  have hlen : its.toArray.size = xs.length := by rw [List.size_toArray]; exact r.length.symm
  refine ⟨"tuple", _, slot_tuple_getitem.lookup, ht.typeIs, getItem_all ht hs pl pu (by rw [hlen]; exact h1) (by rw [hlen]; exact h2) ⟨.ref a, H, I, rfl, q⟩⟩
def partOf : Sl → Option (Option Int)
  | .val (.int i) => some (some i)
  | _ => none
def slS (x : Sl) (lo hi : Option Int) : Option Sl := match x with
  | .val (.tup ds) => some (.val (.tup (cutD ds lo hi)))
  | .val (.lst ds) => some (.own (cutD ds lo hi))
  | .own ds => some (.own (cutD ds lo hi))
  | .bor ds => some (.own (cutD ds lo hi))
  | _ => none
/-- a part of a slice -/
abbrev Pv := SE → TapeO → Option (Except Str (Option Int) × TapeO)
def noP : Pv := fun _ ta => some (.ok none, ta)
def someP (f : Ev) : Pv := fun env ta => match f env ta with
  | none => none
  | some (.error x, t) => some (.error x, t)
  | some (.ok r, t) => (partOf r).map fun o => (.ok o, t)
def slE (f : Ev) (p q : Pv) : Ev := bindE f fun x => fun env ta => match p env ta with
  | none => none
  | some (.error x, t) => some (.error x, t)
  | some (.ok lo, t) => match q env t with
    | none => none
    | some (.error x, t) => some (.error x, t)
    | some (.ok hi, t) => (slS x lo hi).map fun z => (.ok z, t)
def PPost (K : PySem.W.Frag) (c : Ct) (W : WX) (B : Hp) (tp : Option Addr) (σ : L2.St) (H : Hp) (env : SE) (r : Option (Except Str (Option Int) × TapeO)) (Q : Option Int → Hp → Prop) : Prop :=
  match r with
  | none => False
  | some (.ok o, ta') => ∀ H', RepS K c B tp σ H' env ta' → Kp c tp H H' → Q o H'
  | some (.error x, ta') => ∀ cls d H', RepS K c B tp σ H' env ta' → Kp c tp H H' → ErrIs c H' cls d x → W cls d σ H'
def tPp (K : PySem.W.Frag) (c : Ct) (W : WX) (f : Pv) : L2.TO := fun σ H Q => ∃ B tp env ta, RepS K c B tp σ H env ta ∧ PPost K c W B tp σ H env (f env ta) Q
structure PPv (X : Cx) (c : Ct) (W : WX) (e : Option Expr) (f : Pv) : Prop where
  po : PO X e (tPp X.K c W f)
section
variable {X : Cx} {c : Ct} {W : WX} {e : Expr} {lo hi : Option Expr} {f : Ev} {p q : Pv} {pos p2 : Pos}
theorem p_no : PPv X c W none noP := ⟨⟨fun pins s σ H Q I h => po_none.run pins s σ H Q I (by
  obtain ⟨B, tp, env, ta, RS, h⟩ := h
  exact h H RS (.refl _ _ _))⟩⟩
theorem p_some (he : PEv X c W e f) : PPv X c W (some e) (someP f) := ⟨⟨fun pins s σ H Q I h => (po_some he.pe).run pins s σ H Q I (by
  obtain ⟨B, tp, env, ta, RS, h⟩ := h
  refine ⟨B, tp, env, ta, RS, ?_⟩
  unfold someP at h
  cases e1 : f env ta with
  | none => rw [e1] at h; exact h
  | some z =>
    obtain ⟨r, t⟩ := z
    rw [e1] at h
    cases r with
    | error x => exact h
    | ok r =>
      intro v H1 R1 K1 V1
      dsimp only at h
      cases r with
      | val d =>
        cases d with
        | int i => exact ⟨i, V1.int, h H1 R1 K1⟩
        | _ => exact h.elim
      | _ => exact h.elim)⟩⟩
theorem v_slice (he : PEv X c W e f) (hp : PPv X c W lo p) (hq : PPv X c W hi q) : PEv X c W (.Subscript e (.Slice lo hi none p2) pos) (slE f p q) := by
  refine ⟨pe_mono (pe_slice sl_all he.pe hp.po hq.po) ?_⟩
  rintro σ H Q ⟨B, tp, env, ta, RS, h⟩
  refine tE_bind RS h fun x t1 v H1 R1 K1 V1 h1 => ?_
  have h1 := h1.later K1
  refine ⟨B, tp, env, t1, R1, ?_⟩
  cases ep : p env t1 with
  | none => rw [ep] at h1; exact h1
  | some z =>
    obtain ⟨r, t2⟩ := z
    rw [ep] at h1
    cases r with
    | error x => exact h1
    | ok lo =>
      intro H2 R2 K2
      refine ⟨B, tp, env, t2, R2, ?_⟩
      dsimp only at h1
      cases eq : q env t2 with
      | none => rw [eq] at h1; exact h1
      | some z =>
        obtain ⟨r, t3⟩ := z
        rw [eq] at h1
        cases r with
        | error x => exact fun cls d H' R' K' er => h1 cls d H' R' (K2.trans K') er
        | ok hi =>
          intro H3 R3 K3
          have h3 := (h1.later (K2.trans K3))
          have V3 := (V1.kp K2).kp K3
          dsimp only at h3
          cases x with
          | val d =>
            cases d with
            | tup ds =>
              obtain ⟨a, xs, rfl, hs, rr⟩ := V3.tup
              by_cases hw : HT.sIx xs.length 0 lo = 0 ∧ HT.sIx xs.length xs.length hi = xs.length
              · refine .inl ⟨a, xs, rfl, hs, ?_, fun _ => trivial, hw.1, hw.2⟩
                have ec : cutD ds lo hi = ds := cut_all (by rw [← rr.length]; exact hw.1) (by rw [← rr.length]; exact hw.2)
                refine EPost.val R3 h3 ?_
                show Rep _ _ _ _
                rw [ec]
                exact .tup hs rr
              · exact .inr (.inl ⟨a, xs, rfl, hs, hw, fun p hp => EPost.same R3 h3 (Same.new hp) (RepV.newT hp (rr.cut lo hi))⟩)
            | lst ds =>
              obtain ⟨a, xs, rfl, hs, rr⟩ := V3.list rfl
              exact .inr (.inr ⟨a, xs, rfl, hs, fun p hp => EPost.same R3 h3 (Same.new hp) (RepV.newL hp (R3.vol hp) (rr.cut lo hi))⟩)
            | _ => exact h3.elim
          | own ds =>
            obtain ⟨a, xs, rfl, hs, rr⟩ := V3.list rfl
            exact .inr (.inr ⟨a, xs, rfl, hs, fun p hp => EPost.same R3 h3 (Same.new hp) (RepV.newL hp (R3.vol hp) (rr.cut lo hi))⟩)
          | bor ds =>
            obtain ⟨a, xs, rfl, hs, rr⟩ := V3.list rfl
            exact .inr (.inr ⟨a, xs, rfl, hs, fun p hp => EPost.same R3 h3 (Same.new hp) (RepV.newL hp (R3.vol hp) (rr.cut lo hi))⟩)
          | un => exact h3.elim
          | tape => exact h3.elim
          | dic _ => exact h3.elim
          | bdc _ => exact h3.elim
end
end MP

/-! MPm: zip, enumerate. -/
namespace MP
open PySem PySem.Spec PyProof.Rows L2
def zipD (ds es : List D) : List D := List.zipWith (fun a b => D.tup [a, b]) ds es
def enumD (ds : List D) : List D := List.zipWith (fun (i : Nat) d => D.tup [.int (i : Int), d]) (List.range ds.length) ds
/-- what may be walked: is it a tuple, its items -/
def seqB (strong : Bool) : Sl → Option (Bool × List D)
  | .val (.tup ds) => some (true, ds)
  | .val (.lst ds) => some (false, ds)
  | .own ds => if strong = true then none else some (false, ds)
  | .bor ds => if strong = true then none else some (false, ds)
  | _ => none
section
variable {K : PySem.W.Frag} {c : Ct} {tp : Option Addr} {H H1 : Hp} {v : V} {r : Sl} {ds : List D} {strong : Bool}
theorem live {z : Bool} (V : RepV K c tp H H1 v r) (e : seqB strong r = some (z, ds)) : ∃ a xs, v = .ref a ∧ Reps K H1 xs ds ∧ ∀ H2, (if strong = true then Stab H1 H2 else Kp c tp H1 H2) → (if z = true then SqT K H2 a xs else SqL K H2 a xs) ∧ Stab H1 H2 := by
  have st : ∀ H2, (if strong = true then Stab H1 H2 else Kp c tp H1 H2) → Stab H1 H2 := fun H2 hh => by
    cases strong with
    | true => exact hh
    | false => exact hh.st
  have trk : ∀ a xs, H1 a = some (.lst xs) → ¬ Vol c tp a → strong ≠ true → ∀ H2, (if strong = true then Stab H1 H2 else Kp c tp H1 H2) → SqL K H2 a xs := fun a xs hl nv ns H2 hh => by
    cases strong with
    | true => exact absurd rfl ns
    | false => exact SqL.of (hh.kp _ _ hl nv)
  cases r with
  | un => cases e
  | val d =>
    cases d with
    | tup es =>
      cases e
      obtain ⟨a, xs, rfl, hs, r⟩ := V.tup
      exact ⟨a, xs, rfl, r, fun H2 hh => ⟨(st H2 hh).sqT hs, st H2 hh⟩⟩
    | lst es =>
      cases e
      cases (show Rep K H1 v (.lst ds) from V) with
      | lst hs r => exact ⟨_, _, rfl, r, fun H2 hh => ⟨((st H2 hh).fz hs).sq, st H2 hh⟩⟩
    | _ => cases e
  | own es =>
    have e : (if strong = true then none else some (false, es)) = some (z, ds) := e
    split at e
    · cases e
    · rename_i ns
      cases e
      obtain ⟨a, xs, rfl, n, nv, hl, r⟩ := V
      exact ⟨a, xs, rfl, r, fun H2 hh => ⟨trk a xs hl nv ns H2 hh, st H2 hh⟩⟩
  | bor es =>
    have e : (if strong = true then none else some (false, es)) = some (z, ds) := e
    split at e
    · cases e
    · rename_i ns
      cases e
      obtain ⟨a, xs, rfl, hl, nv, r⟩ := V
      exact ⟨a, xs, rfl, r, fun H2 hh => ⟨trk a xs hl nv ns H2 hh, st H2 hh⟩⟩
  | tape => cases e
  | dic _ => cases e
  | bdc _ => cases e
theorem zip_get {ds es : List D} {i : Nat} {d : D} (h : (zipD ds es)[i]? = some d) : ∃ a b, ds[i]? = some a ∧ es[i]? = some b ∧ d = .tup [a, b] := by
  unfold zipD at h
  rw [List.getElem?_zipWith] at h
  split at h
  · rename_i a b e1 e2; cases h; exact ⟨a, b, e1, e2, rfl⟩
  · cases h
theorem rep_pair {H2 : Hp} {T : Addr} {x y : V} {a b : D} (n : H2 T = none) (r1 : Rep K H2 x a) (r2 : Rep K H2 y b) : Same H2 (upd H2 T (.tup [x, y])) ∧ Rep K (upd H2 T (.tup [x, y])) (.ref T) (.tup [a, b]) :=
  ⟨Same.new n, .tup (SqT.of upd_same) (.cons (r1.st (.of_same (Same.new n))) (.cons (r2.st (.of_same (Same.new n))) .nil))⟩
theorem jw_zipL {Rl : Hp → Prop} {a b : Addr} {xs ys : List V} {ds es : List D} (ha : ∀ H, Rl H → SqL K H a xs ∧ Stab H1 H) (hb : ∀ H, Rl H → SqL K H b ys ∧ Stab H1 H) (r1 : Reps K H1 xs ds) (r2 : Reps K H1 ys es) : JW K Rl (Itz K a b) (zipD ds es) := by
  intro i H2 hR
  obtain ⟨h1, s1⟩ := ha H2 hR
  obtain ⟨h2, _⟩ := hb H2 hR
  refine ⟨fun d e => ?_, fun hl => ⟨xs, ys, h1, h2, ?_⟩⟩
  · obtain ⟨p, q, e1, e2, rfl⟩ := zip_get e
    obtain ⟨v, f1, k1⟩ := r1.get e1
    obtain ⟨u, f2, k2⟩ := r2.get e2
    refine ⟨⟨xs, ys, v, u, h1, h2, f1, f2⟩, fun x H' y => ?_⟩
    obtain ⟨T, x1, y1, rfl, n, rfl, g1, g2⟩ := y
    have w1 := g1 xs h1
    have w2 := g2 ys h2
    rw [f1] at w1; rw [f2] at w2
    cases w1; cases w2
    exact rep_pair n (k1.st s1) (k2.st s1)
  · unfold zipD at hl
    rw [List.length_zipWith] at hl
    rw [r1.length, r2.length]
    omega
theorem jw_zipT {Rl : Hp → Prop} {a b : Addr} {xs ys : List V} {ds es : List D} (ha : ∀ H, Rl H → SqT K H a xs ∧ Stab H1 H) (hb : ∀ H, Rl H → SqT K H b ys ∧ Stab H1 H) (r1 : Reps K H1 xs ds) (r2 : Reps K H1 ys es) : JW K Rl (RZ.ItzT K a b) (zipD ds es) := by
  intro i H2 hR
  obtain ⟨h1, s1⟩ := ha H2 hR
  obtain ⟨h2, _⟩ := hb H2 hR
  refine ⟨fun d e => ?_, fun hl => ⟨xs, ys, h1, h2, ?_⟩⟩
  · obtain ⟨p, q, e1, e2, rfl⟩ := zip_get e
    obtain ⟨v, f1, k1⟩ := r1.get e1
    obtain ⟨u, f2, k2⟩ := r2.get e2
    refine ⟨⟨xs, ys, v, u, h1, h2, f1, f2⟩, fun x H' y => ?_⟩
    obtain ⟨T, x1, y1, rfl, n, rfl, g1, g2⟩ := y
    have w1 := g1 xs h1
    have w2 := g2 ys h2
    rw [f1] at w1; rw [f2] at w2
    cases w1; cases w2
    exact rep_pair n (k1.st s1) (k2.st s1)
  · unfold zipD at hl
    rw [List.length_zipWith] at hl
    rw [r1.length, r2.length]
    omega
theorem enum_get {ds : List D} {i : Nat} {d : D} (h : (enumD ds)[i]? = some d) : ∃ a, ds[i]? = some a ∧ d = .tup [.int (i : Int), a] := by
  unfold enumD at h
  rw [List.getElem?_zipWith] at h
  split at h
  · rename_i a b e1 e2
    cases h
    obtain ⟨h1, h2⟩ := List.getElem?_eq_some_iff.mp e1
    rw [List.getElem_range] at h2
    subst h2
    exact ⟨b, e2, rfl⟩
  · cases h
theorem jw_enumL {Rl : Hp → Prop} {a : Addr} {xs : List V} {ds : List D} (ha : ∀ H, Rl H → SqL K H a xs ∧ Stab H1 H) (r1 : Reps K H1 xs ds) : JW K Rl (Ite K a) (enumD ds) := by
  intro i H2 hR
  obtain ⟨h1, s1⟩ := ha H2 hR
  refine ⟨fun d e => ?_, fun hl => ⟨xs, h1, ?_⟩⟩
  · obtain ⟨p, e1, rfl⟩ := enum_get e
    obtain ⟨v, f1, k1⟩ := r1.get e1
    refine ⟨⟨xs, v, h1, f1⟩, fun x H' y => ?_⟩
    obtain ⟨T, x1, rfl, n, rfl, g1⟩ := y
    have w1 := g1 xs h1
    rw [f1] at w1
    cases w1
    exact rep_pair n (.int _) (k1.st s1)
  · unfold enumD at hl
    rw [List.length_zipWith, List.length_range] at hl
    rw [r1.length]
    omega
end
def zipS (strong : Bool) : List Sl → Option (List D)
  | [x, y] => match seqB strong x, seqB strong y with
    | some (a, ds), some (b, es) => if a = b then some (zipD ds es) else none
    | _, _ => none
  | _ => none
section
variable {X : Cx} {c : Ct} {W : WX} {a a2 : Expr} {fs : List Ev} {b : Bool} {p pos tpos : Pos} {elts : List Expr} {kk : Nat}
theorem i_zip (hm : X.mg "zip" = none) (ha : PAv X c W [a, a2] fs) (hg : Gl X "zip" := by rfl) (hs : starEach [a, a2] X.env = (false, eval a X.env) :: starEach [a2] X.env := by rfl) (hpl : (backTo pos (starEach [a2] X.env)).any (·.1) = false := by rfl) :
    PIv X c W b (.Tuple elts kk tpos) (.Call (.Name "zip" p) [a, a2] [] pos) (argI (zipS b) fs) := by
  refine ⟨pi_mono (RZ.pi_zipA hg hm ha.pa hs hpl) ?_⟩
  rintro σ H R ⟨B, tp, env, ta, RS, h⟩
  refine arg_of RS h fun rs t vs H1 ds e R1 K1 VS h => ?_
  unfold zipS at e
  split at e
  · rename_i x y
    split at e
    · rename_i z1 l1 z2 l2 ex ey
      split at e
      · rename_i hz
        cases e
        cases VS with
        | cons h1 h2 =>
          cases h2 with
          | cons h2 h3 =>
            cases h3
            obtain ⟨p1, xs, rfl, r1, g1⟩ := live h1 ex
            obtain ⟨p2, ys, rfl, r2, g2⟩ := live h2 ey
            subst hz
            have now : (if b = true then Stab H1 H1 else Kp c tp H1 H1) := by
              cases b
              · exact Kp.refl _ _ _
              · exact Stab.refl _
            refine ⟨p1, p2, xs, ys, rfl, ?_⟩
            cases z1 with
            | true => exact .inr ⟨(g1 H1 now).1, (g2 H1 now).1, h _ H1 R1 K1 (jw_zipT g1 g2 r1 r2)⟩
            | false => exact .inl ⟨(g1 H1 now).1, (g2 H1 now).1, h _ H1 R1 K1 (jw_zipL g1 g2 r1 r2)⟩
      · cases e
    · cases e
  · cases e
end
end MP

/-! MPn: enumerate of a tuple. -/
namespace MP
open PySem PySem.Spec PyProof.Rows L2
open Sem (wp)
open AutoSeq1 (wpAny_loadPart')
theorem enum_newT (t : Addr) (items : Array Value) (n : Nat) (dct : Option Addr) (sl : Array (Option Value)) :
    Meets (Builtin.«enumerate.__new__» ⟨[.type "enumerate", .ref t], []⟩) (fun _ R s => s.heap.get? t = some { cls := .type "tuple", dict := dct, data := .seq items n, slots := sl } ∧
      R (.ok (.ret (.ref (s.heap.push { cls := .type "tuple_iterator", data := .fields #[.ref t, .int 0 0] }).objs.size)))
        { s with heap := (s.heap.push { cls := .type "tuple_iterator", data := .fields #[.ref t, .int 0 0] }).push { cls := .type "enumerate", data := .fields #[.none, .bool false, .ref s.heap.objs.size, rawInt 0, .none, .none] } }) :=
  .of_wp fun prog w A R s h => by
    obtain ⟨hp, g, d, tk, os⟩ := s
    obtain ⟨hl, h⟩ := h
    have hsub := sub_enumerate
    have hL : Heap.IsTuple (Shared.heap ⟨hp, g, d, tk, os⟩) t items := ⟨_, hl, rfl, n, rfl⟩
    wp_walk using wpAny_loadPart' hl
    refine wpAny_stack_any fun st => (wpAny_pure ?_)
    split
    · rename_i c _ _ _ _ _
      cases (c == Value.type "enumerate") <;> (wp_walk using wpAny_loadPart' hl, wpAny_pyIter_tuple hL; exact ⟨_, rfl, h⟩)
    · wp_walk using wpAny_loadPart' hl, wpAny_pyIter_tuple hL
      exact ⟨_, rfl, h⟩
section
variable {prog : Program} {w : World} {A : Around} {E : Value → Shared → Prop} {s : Shared}
theorem call_enumT {t : Addr} {items : Array Value} {Q : Value → Shared → Prop} (hL : s.heap.IsTuple t items)
    (h : ∀ h', IsEnum h' (s.heap.objs.size + 1) s.heap.objs.size 0 .none → h'.IsTupleIter s.heap.objs.size t 0 → (∀ b o, s.heap.get? b = some o → h'.get? b = some o) → Q (.ref (s.heap.objs.size + 1)) { s with heap := h' }) :
    wpAny (model prog w) A (call (.type "enumerate") [.ref t]) Q E s := by
  obtain ⟨⟨c, dct, dt, sl⟩, hl, hc, n, hd⟩ := hL
  obtain rfl : c = .type "tuple" := hc
  obtain rfl : dt = .seq items n := hd
  refine callType_new F.called_enumerate (by decide) (F.typeCall_enumerate_1 _) (F.newCall_enumerate_1 _) (fun obj => F.args_object_init_2 obj _) F.entry_enumerate_new (enum_newT t items n dct sl) ⟨hl, ?_⟩
  obtain ⟨o1, ho1⟩ : ∃ o1 : Obj, o1 = { cls := .type "tuple_iterator", data := .fields #[.ref t, .int 0 0] } := ⟨_, rfl⟩
  obtain ⟨o2, ho2⟩ : ∃ o2 : Obj, o2 = { cls := .type "enumerate", data := .fields #[.none, .bool false, .ref s.heap.objs.size, rawInt 0, .none, .none] } := ⟨_, rfl⟩
  rw [← ho1, ← ho2]
  have hz : (s.heap.push o1).objs.size = s.heap.objs.size + 1 := Heap.size_push ..
  show _ ∧ _
  rw [hz]
  have he : IsEnum ((s.heap.push o1).push o2) (s.heap.objs.size + 1) s.heap.objs.size 0 .none := by
    have q := Heap.get?_push_size (s.heap.push o1) (o := o2) (by rw [ho2]; rfl)
    rw [hz] at q
    rw [ho2] at q ⊢
    exact q
  have g1 : ((s.heap.push o1).push o2).get? s.heap.objs.size = some o1 := Heap.get?_push_of_some _ (Heap.get?_push_size _ (by rw [ho1]; rfl))
  exact ⟨⟨_, he, rfl⟩, h _ he ⟨_, g1, by rw [ho1], by rw [ho1]; rfl⟩ fun b o x => Heap.get?_push_of_some _ (Heap.get?_push_of_some _ x)⟩
end
/-- the tuple at a, its items numbered, in new pairs -/
def IteT (K : PySem.W.Frag) (a : Addr) : It :=
  ⟨fun i H => ∃ (xs : List V) (x : V), SqT K H a xs ∧ xs[i]? = some x, fun i H v H' => ∃ T x, v = .ref T ∧ H T = none ∧ H' = upd H T (.tup [.int (i : Nat), x]) ∧ ∀ xs, SqT K H a xs → xs[i]? = some x,
    fun i H => ∃ xs : List V, SqT K H a xs ∧ xs.length ≤ i⟩
theorem turn_enumT {P : Program} {w : World} {K : PySem.W.Frag} {elts : List Expr} {kk : Nat} {tpos : Pos} (a e it : Addr) :
    Turn P w K (.Tuple elts kk tpos) (IteT K a) [e, it] e (fun i h => (∃ old, IsEnum h e it ((i : Nat) : Int) old) ∧ h.IsTupleIter it a i ∧ e ≠ it ∧ a ≠ it ∧ e ≠ a) where
  mem := by simp
  obj := fun i h st b hb => by
    obtain ⟨⟨old, he⟩, ⟨o, ho, hc, hd⟩, _⟩ := st
    rcases (by simpa using hb : b = e ∨ b = it) with rfl | rfl
    · exact ⟨_, he, fun v q => nomatch q⟩
    · exact ⟨o, ho, fun v q => by rw [hd] at q; cases q⟩
  keep := fun i h h' st k => by
    obtain ⟨⟨old, he⟩, hi, r⟩ := st
    exact ⟨⟨old, k e (by simp) _ he⟩, hi.at fun o q => k it (by simp) o q, r⟩
  item := by
    intro X hP hw hK hc i pins s σ H E I hf st hg
    subst hP hw hK
    obtain ⟨⟨old, he⟩, hit, hne, hai, hea⟩ := st
    obtain ⟨xs, x, hq, hx⟩ := hg
    obtain ⟨its, rv, p, hz⟩ := I.tuple hq
    obtain ⟨u, hu, ru⟩ := rv.get hx
    have hel : e < s.heap.objs.size := Heap.lt_size he
    have hil : it < s.heap.objs.size := by
      obtain ⟨_, q, _⟩ := hit
      exact Heap.lt_size q
    have hlt : i < its.toArray.size := by
      rw [List.size_toArray, ← rv.length]
      exact (List.getElem?_eq_some_iff.mp hx).1
    refine wpAny_pyNext_enum_itemD (Draws.tuple (A := X.A.in1) (I.ok.hd hc) it a hai its.toArray) he ⟨hit, p⟩ hlt hne (by simp; exact ⟨hne, hea⟩) fun y h' tk hy ho hst hT hsz hk => ?_
    have hyu : y = u := by
      have z : its[i]? = some y := by simpa using hy
      rw [hu] at z; cases z; rfl
    subst hyu
    refine ⟨_, rfl, wpAny_letOwnedTupleGo_enum (s := { s with heap := h', toks := tk + 1 }) ho fun h'' he' sb => ?_⟩
    have hT2 := (sb.2 _ (Nat.ne_of_gt hel)).trans hT
    have new : ObjOk X.prog X.w (upd H s.heap.objs.size (.tup [.int (i : Nat), x])) h'' s.heap.objs.size (.tup [.int (i : Nat), x]) :=
      ⟨by show 2 ≤ sizeLine; decide, [.int i tk, y], .cons ⟨_, rfl⟩ (.cons ru .nil), ⟨_, hT2, rfl, _, rfl⟩⟩
    have I1 := I.turnedNew (t' := tk + 1) (ch := [e, it]) (fun b ob hb q => (sb.2 b (fun z => hb (by simp [z]))).trans (hk b ob (fun z => hb (by simp [z])) (fun z => hb (by simp [z])) q)) hf (Nat.le_refl _) new
    refine ⟨.ref s.heap.objs.size, _, I1, rfl, ⟨_, x, rfl, I.hok.fresh (Nat.le_refl _), rfl, fun ys hy => by rw [I.tuple_inj hy hq]; exact hx⟩, ⟨⟨y, ?_⟩, hst.1.at fun o q => (sb.2 it (Ne.symm hne)).trans q, hne, hai, hea⟩, fun b hb => ?_⟩
    · have e1 : ((i + 1 : Nat) : Int) = (i : Int) + 1 := by omega
      rw [e1]
      exact he'
    · have hb' : b < s.heap.objs.size := by
        rcases (by simpa using hb : b = e ∨ b = it) with rfl | rfl
        · exact hel
        · exact hil
      rw [upd_ne (Nat.ne_of_lt hb')]
      exact (hf b hb).1
  done := by
    intro X hP hw hK hc i pins s σ H E I hf st hg
    subst hP hw hK
    obtain ⟨⟨old, he⟩, hit, hne, hai, hea⟩ := st
    obtain ⟨xs, hq, hx⟩ := hg
    obtain ⟨its, rv, p, hz⟩ := I.tuple hq
    have hl := rv.length
    have hx' : its.toArray[i]? = none := by simp; omega
    have D : Draws X.prog X.w X.A.in1 it [it, a] i (fun _ _ => False) (fun k h => k = i ∧ h.IsTupleIter it a i ∧ h.IsTuple a its.toArray) :=
      { live := fun _ _ st => by
          obtain ⟨_, ⟨o, ho, _⟩, _⟩ := st
          exact ⟨o, ho⟩
        frame := fun _ _ _ st hk => ⟨st.1, st.2.1.at fun o q => hk it (by simp) o q, st.2.2.at fun o q => hk a (by simp) o q⟩
        item := fun k s Q E hi st hQ => absurd st.1 (Nat.ne_of_lt hi)
        done := fun s Q E st hE => wpAny_nextOf_tuple_end (I.ok.hd hc) st.2.1 st.2.2 hx' hE }
    obtain ⟨f0, f1, _, f3, f4, f5⟩ := hf it (by simp)
    exact wpAny_pyNext_enum_endD D he ⟨rfl, hit, p⟩ fun h' eb => ⟨rfl, I.turned (t' := s.toks) (fun b o hb q => eb b o hb q) f0 f1 f3 f4 f5⟩
  self := fun A i s Q E st h => by
    obtain ⟨⟨_, he⟩, _⟩ := st
    exact wpAny_pyIter_enum he h
def iEnumT (K : PySem.W.Frag) (ta : TA) : TI := fun σ H R => ta σ H fun vs H1 => ∃ a xs, vs = [.ref a] ∧ ((SqL K H1 a xs ∧ R (Ite K a) H1) ∨ (SqT K H1 a xs ∧ R (IteT K a) H1))
theorem pi_enumA {X : Cx} {e : Expr} {ta : TA} {p pos tpos : Pos} {elts : List Expr} {kk : Nat} (hg : Gl X "enumerate") (hm : X.mg "enumerate" = none) (ha : PA X [e] ta) (hs : starEach [e] X.env = [(false, eval e X.env)] := by rfl) :
    PI X (.Tuple elts kk tpos) (.Call (.Name "enumerate" p) [e] [] pos) (iEnumT X.K ta) := by
  refine ⟨fun pins s σ H R I h => ?_⟩
  refine Call_ (ld_blt I hg hm boot_enumerate (callWith_type1 (thn (ha.run pos pins s σ H _ I h) fun us s1 ⟨vs, H1, I1, r1, q1⟩ => ?_) hs rfl))
  obtain ⟨a, xs, rfl, q1⟩ := q1
  have fresh : ∀ b ∈ [s1.heap.objs.size + 1, s1.heap.objs.size], FpOk X pins H1 b := fun b hb => by
    have hle : s1.heap.objs.size ≤ b := by
      rcases (by simpa using hb : b = s1.heap.objs.size + 1 ∨ b = s1.heap.objs.size) with rfl | rfl
      · exact Nat.le_succ _
      · exact Nat.le_refl _
    exact I1.fpOk hle (I1.hok.fresh hle)
  cases r1 with
  | cons r rr =>
    cases rr
    cases r
    rcases q1 with ⟨hq, q⟩ | ⟨hq, q⟩
    · obtain ⟨its, rv, p', hz⟩ := I1.list hq
      refine call_enumerate_list p'.isList fun h' he hit hsz hk => wpAny_pyIter_enum he ?_
      have I2 : Inv X pins σ H1 { s1 with heap := h' } := I1.kept (t' := s1.toks) hk
      exact ⟨s1.heap.objs.size + 1, [s1.heap.objs.size + 1, s1.heap.objs.size], _, _, H1, rfl, I2, turn_enum a _ _, ⟨⟨.none, he⟩, hit, Nat.succ_ne_self _⟩, fresh, q⟩
    · obtain ⟨its, rv, p', hz⟩ := I1.tuple hq
      have hal : a < s1.heap.objs.size := by
        obtain ⟨o, ho, _⟩ := p'
        exact Heap.lt_size ho
      refine call_enumT (items := its.toArray) p' fun h' he hit hk => wpAny_pyIter_enum he ?_
      have I2 : Inv X pins σ H1 { s1 with heap := h' } := I1.kept (t' := s1.toks) hk
      exact ⟨s1.heap.objs.size + 1, [s1.heap.objs.size + 1, s1.heap.objs.size], _, _, H1, rfl, I2, turn_enumT a _ _, ⟨⟨.none, he⟩, hit, Nat.succ_ne_self _, Nat.ne_of_lt hal, Ne.symm (Nat.ne_of_lt (Nat.lt_succ_of_lt hal))⟩, fresh, q⟩
section
variable {K : PySem.W.Frag} {H1 : Hp} {ds : List D}
theorem jw_enumT {Rl : Hp → Prop} {a : Addr} {xs : List V} (ha : ∀ H, Rl H → SqT K H a xs ∧ Stab H1 H) (r1 : Reps K H1 xs ds) : JW K Rl (IteT K a) (enumD ds) := by
  intro i H2 hR
  obtain ⟨h1, s1⟩ := ha H2 hR
  refine ⟨fun d e => ?_, fun hl => ⟨xs, h1, ?_⟩⟩
  · obtain ⟨p, e1, rfl⟩ := enum_get e
    obtain ⟨v, f1, k1⟩ := r1.get e1
    refine ⟨⟨xs, v, h1, f1⟩, fun x H' y => ?_⟩
    obtain ⟨T, x1, rfl, n, rfl, g1⟩ := y
    have w1 := g1 xs h1
    rw [f1] at w1
    cases w1
    exact rep_pair n (.int _) (k1.st s1)
  · unfold enumD at hl
    rw [List.length_zipWith, List.length_range] at hl
    rw [r1.length]
    omega
end
def enumS (strong : Bool) : List Sl → Option (List D)
  | [x] => match seqB strong x with
    | some (_, ds) => some (enumD ds)
    | none => none
  | _ => none
section
variable {X : Cx} {c : Ct} {W : WX} {a : Expr} {fs : List Ev} {b : Bool} {p pos tpos : Pos} {elts : List Expr} {kk : Nat}
theorem i_enum (hm : X.mg "enumerate" = none) (ha : PAv X c W [a] fs) (hg : Gl X "enumerate" := by rfl) (hs : starEach [a] X.env = [(false, eval a X.env)] := by rfl) : PIv X c W b (.Tuple elts kk tpos) (.Call (.Name "enumerate" p) [a] [] pos) (argI (enumS b) fs) := by
  refine ⟨pi_mono (pi_enumA hg hm ha.pa hs) ?_⟩
  rintro σ H R ⟨B, tp, env, ta, RS, h⟩
  refine arg_of RS h fun rs t vs H1 ds e R1 K1 VS h => ?_
  unfold enumS at e
  split at e
  · rename_i x
    split at e
    · rename_i z1 l1 ex
      cases e
      cases VS with
      | cons h1 h2 =>
        cases h2
        obtain ⟨p1, xs, rfl, r1, g1⟩ := live h1 ex
        have now : (if b = true then Stab H1 H1 else Kp c tp H1 H1) := by
          cases b
          · exact Kp.refl _ _ _
          · exact Stab.refl _
        refine ⟨p1, xs, rfl, ?_⟩
        cases z1 with
        | true => exact .inr ⟨(g1 H1 now).1, h _ H1 R1 K1 (jw_enumT g1 r1)⟩
        | false => exact .inl ⟨(g1 H1 now).1, h _ H1 R1 K1 (jw_enumL g1 r1)⟩
    · cases e
  · cases e
end
end MP

/-! MPo: sums of lists and of tuples. -/
namespace MP
open PySem PySem.Spec PyProof.Rows L2
def rSumT (K : PySem.W.Frag) : List V → Hp → VK → Prop := fun vs H Q => ∃ (a : Addr) (ns : List Int), vs = [V.ref a] ∧ SqT K H a (ns.map V.int) ∧ Q (.int ns.sum) H
theorem cr_sumT {X : Cx} (hc : X.calm = true) : CallR X (.builtin "sum") (rSumT X.K) := by
  intro pins s σ H vs us Q I r h
  obtain ⟨a, ns, rfl, hs, q⟩ := h
  obtain ⟨its, rv, hl, _⟩ := I.tuple hs
  rw [Vals.ref1 r]
  have hi := rv.ints
  obtain ⟨xs, e⟩ := hi.allInts.items
  have hn : numsOf (intItems xs).toList = ns := by rw [← e]; exact hi.numsOf
  rw [nums_intItems] at hn
  rw [e] at hl
  refine PySem.W.ktm_sumG (I.ok.hd hc) hl fun h' tk t' hk => ⟨.int _, H, I.kept hk, ⟨_, rfl⟩, ?_⟩
  rw [preSum_eq, List.take_of_length_le (by simp), hn]
  exact q
def rSumA (K : PySem.W.Frag) : List V → Hp → VK → Prop := fun vs H Q => rSum K vs H Q ∨ rSumT K vs H Q
theorem cr_sumA {X : Cx} (hc : X.calm = true) : CallR X (.builtin "sum") (rSumA X.K) := by
  intro pins s σ H vs us Q I r h
  rcases h with h | h
  · exact cr_sum hc pins s σ H vs us Q I r h
  · exact cr_sumT hc pins s σ H vs us Q I r h
def sumAS : List Sl → Option Sl
  | [x] => ((x.seq?).bind ints?).map fun ns => .val (.int ns.sum)
  | _ => none
theorem co_sumA {K : PySem.W.Frag} {c : Ct} : CallOk K c (rSumA K) sumAS := by
  intro tp H0 H vs xs z Q nv VS e k
  match xs, VS with
  | [x], .cons h .nil =>
    unfold sumAS at e
    dsimp only at e
    cases ex : x.seq? with
    | none => rw [ex] at e; cases e
    | some ds =>
      rw [ex] at e
      have e : (ints? ds).map (fun ns => Sl.val (.int ns.sum)) = some z := e
      cases en : ints? ds with
      | none => rw [en] at e; cases e
      | some ns =>
        rw [en] at e
        cases e
        obtain ⟨a, ys, rfl, hs, r⟩ := h.seq ex
        rw [ints?_eq en] at r
        have ey := Reps.intsV _ r
        subst ey
        have q : Q (.int ns.sum) H := k _ H (Same.refl H) (Rep.int _)
        rcases hs with hs | hs
        · exact .inl ⟨a, ns, rfl, hs, q⟩
        · exact .inr ⟨a, ns, rfl, hs, q⟩
  | [], _ => cases e
  | _ :: _ :: _, _ => cases e
end MP

/-! MPp: list(range(..)), tuple(range(..)). -/
namespace MP
open PySem PySem.Spec PyProof.Rows L2
/-- a range as an argument: its two ends -/
abbrev Rv := SE → TapeO → Option (Except Str (Int × Int) × TapeO)
def rg1R (f : Ev) : Rv := fun env ta => match f env ta with
  | none => none
  | some (.error x, t) => some (.error x, t)
  | some (.ok (.val (.int n)), t) => some (.ok (0, n), t)
  | _ => none
def rg2R (f g : Ev) : Rv := fun env ta => match f env ta with
  | none => none
  | some (.error x, t) => some (.error x, t)
  | some (.ok (.val (.int a)), t) => (match g env t with
    | none => none
    | some (.error x, t) => some (.error x, t)
    | some (.ok (.val (.int b)), t) => some (.ok (a, b), t)
    | _ => none)
  | _ => none
def rgOk (a b : Int) : Bool := small62 a && small62 b && decide ((b - a).toNat ≤ LIM)
def ofRg (mk : List D → Sl) (r : Rv) : Ev := fun env ta => match r env ta with
  | none => none
  | some (.error x, t) => some (.error x, t)
  | some (.ok (a, b), t) => if rgOk a b = true then some (.ok (mk (rgL a (b - a).toNat)), t) else none
def RPost (K : PySem.W.Frag) (c : Ct) (W : WX) (B : Hp) (tp : Option Addr) (σ : L2.St) (H : Hp) (env : SE) (r : Option (Except Str (Int × Int) × TapeO)) (Q : Int → Int → Hp → Prop) : Prop :=
  match r with
  | none => False
  | some (.ok (a, b), ta') => ∀ H', RepS K c B tp σ H' env ta' → Kp c tp H H' → Q a b H'
  | some (.error x, ta') => ∀ cls d H', RepS K c B tp σ H' env ta' → Kp c tp H H' → ErrIs c H' cls d x → W cls d σ H'
def tRr (K : PySem.W.Frag) (c : Ct) (W : WX) (f : Rv) : L2.St → Hp → (Int → Int → Hp → Prop) → Prop := fun σ H Q => ∃ B tp env ta, RepS K c B tp σ H env ta ∧ RPost K c W B tp σ H env (f env ta) Q
structure PRv (X : Cx) (c : Ct) (W : WX) (e : Expr) (f : Rv) : Prop where
  pr : PRg X e (tRr X.K c W f)
theorem prg_mono {X : Cx} {e : Expr} {t t' : L2.St → Hp → (Int → Int → Hp → Prop) → Prop} (h : PRg X e t) (i : ∀ σ H Q, t' σ H Q → t σ H Q) : PRg X e t' := fun pins s σ H Q I w => h pins s σ H Q I (i σ H Q w)
section
variable {X : Cx} {c : Ct} {W : WX} {a b e : Expr} {f g : Ev} {r : Rv} {p pos : Pos}
theorem r_1 (hm : X.mg "range" = none) (ha : PEv X c W a f) (hg : Gl X "range" := by rfl) (na : starEach [a] X.env = (false, eval a X.env) :: starEach [] X.env := by rfl) : PRv X c W (.Call (.Name "range" p) [a] [] pos) (rg1R f) := by
  refine ⟨prg_mono (prg_1 hg hm ha.pe na) ?_⟩
  rintro σ H Q ⟨B, tp, env, ta, RS, h⟩
  refine ⟨B, tp, env, ta, RS, ?_⟩
  unfold rg1R at h
  cases e1 : f env ta with
  | none => rw [e1] at h; exact h
  | some z =>
    obtain ⟨r, t⟩ := z
    rw [e1] at h
    cases r with
    | error x => exact h
    | ok r =>
      intro v H1 R1 K1 V1
      cases r with
      | val d =>
        cases d with
        | int i => exact ⟨i, V1.int, h H1 R1 K1⟩
        | _ => exact h.elim
      | _ => exact h.elim
theorem r_2 (hm : X.mg "range" = none) (ha : PEv X c W a f) (hb : PEv X c W b g) (hg : Gl X "range" := by rfl) (na : starEach [a, b] X.env = (false, eval a X.env) :: starEach [b] X.env := by rfl) (nb : starEach [b] X.env = (false, eval b X.env) :: starEach [] X.env := by rfl)
    (hp : (backTo pos (starEach [b] X.env)).any (·.1) = false := by rfl) : PRv X c W (.Call (.Name "range" p) [a, b] [] pos) (rg2R f g) := by
  refine ⟨prg_mono (prg_2 hg hm ha.pe hb.pe na nb hp) ?_⟩
  rintro σ H Q ⟨B, tp, env, ta, RS, h⟩
  refine ⟨B, tp, env, ta, RS, ?_⟩
  unfold rg2R at h
  cases e1 : f env ta with
  | none => rw [e1] at h; exact h
  | some z =>
    obtain ⟨r, t⟩ := z
    rw [e1] at h
    cases r with
    | error x => exact h
    | ok r =>
      intro v H1 R1 K1 V1
      cases r with
      | val d =>
        cases d with
        | int i =>
          dsimp only at h
          refine ⟨B, tp, env, t, R1, ?_⟩
          cases e2 : g env t with
          | none => rw [e2] at h; exact h
          | some z =>
            obtain ⟨r, t2⟩ := z
            rw [e2] at h
            cases r with
            | error x => exact fun cls d H' R' K' er => h cls d H' R' (K1.trans K') er
            | ok r =>
              intro u H2 R2 K2 V2
              cases r with
              | val d =>
                cases d with
                | int j => exact ⟨i, j, V1.int, V2.int, h H2 R2 (K1.trans K2)⟩
                | _ => exact h.elim
              | _ => exact h.elim
        | _ => exact h.elim
      | _ => exact h.elim
theorem rgOk_rg {i j : Int} (h : rgOk i j = true) : RgOk i j := by
  unfold rgOk at h
  simp only [Bool.and_eq_true, decide_eq_true_eq] at h
  obtain ⟨⟨h1, h2⟩, h3⟩ := h
  have h1 := of_decide_eq_true (show decide _ = true from h1)
  have h2 := of_decide_eq_true (show decide _ = true from h2)
  exact ⟨h1.1, h1.2, h2.1, h2.2, by have : LIM = 16777216 := rfl; rw [this] at h3; exact h3⟩
theorem rep_rg {K : PySem.W.Frag} {H : Hp} (i j : Int) : Reps K H (rgV i j) (rgL i (j - i).toNat) := by
  unfold rgV rgL
  generalize List.range (j - i).toNat = l
  induction l with
  | nil => exact .nil
  | cons x l ih => exact .cons (.int _) ih
theorem rg_of {K : PySem.W.Frag} {mk : List D → Sl} {ho : List V → HO} (hmk : ∀ (tp : Option Addr) (H : Hp) (xs : List V) (ds : List D) (p : Addr), (∀ a, H a = none → ¬ Vol c tp a) → Reps K H xs ds → H p = none → RepV K c tp H (upd H p (ho xs)) (.ref p) (mk ds)) :
    ∀ σ H Q, tE K c W (ofRg mk r) σ H Q → tRr K c W r σ H fun a b H1 => RgOk a b ∧ ∀ q, H1 q = none → Q (.ref q) (upd H1 q (ho (rgV a b))) := by
  rintro σ H Q ⟨B, tp, env, ta, RS, h⟩
  refine ⟨B, tp, env, ta, RS, ?_⟩
  unfold ofRg at h
  cases e1 : r env ta with
  | none => rw [e1] at h; exact h
  | some z =>
    obtain ⟨r, t⟩ := z
    rw [e1] at h
    cases r with
    | error x => exact h
    | ok r =>
      obtain ⟨i, j⟩ := r
      intro H1 R1 K1
      dsimp only at h
      split at h
      · rename_i hok
        exact ⟨rgOk_rg hok, fun q hq => EPost.same R1 (h.later K1) (Same.new hq) (hmk tp H1 _ _ q (fun a => R1.vol) (rep_rg i j) hq)⟩
      · exact h.elim
theorem v_listRg (hm : X.mg "list" = none) (he : PRv X c W e r) (hc : X.calm = true := by rfl) (hg : Gl X "list" := by rfl) (na : starEach [e] X.env = (false, eval e X.env) :: starEach [] X.env := by rfl) : PEv X c W (.Call (.Name "list" p) [e] [] pos) (ofRg .own r) :=
  ⟨pe_mono (pe_listRg hc hg hm he.pr na) (rg_of (ho := .lst) fun tp H xs ds p nv r hp => RepV.newL hp (nv p hp) r)⟩
theorem v_tupRg (hm : X.mg "tuple" = none) (he : PRv X c W e r) (hc : X.calm = true := by rfl) (hg : Gl X "tuple" := by rfl) (na : starEach [e] X.env = (false, eval e X.env) :: starEach [] X.env := by rfl) : PEv X c W (.Call (.Name "tuple" p) [e] [] pos) (ofRg (fun ds => .val (.tup ds)) r) :=
  ⟨pe_mono (pe_tupRg hc hg hm he.pr na) (rg_of (ho := .tup) fun tp H xs ds p nv r hp => RepV.newT hp r)⟩
end
end MP

/-! MPq: x.extend(e), x[k] op= e. -/
namespace MP
open PySem PySem.Spec PyProof.Rows L2
def rExtA : V → List V → Hp → VK → Prop := fun x vs H Q => ∃ l b xs zs, x = .ref l ∧ vs = [.ref b] ∧ H l = some (.lst xs) ∧ Rd H b (.lst zs) ∧ xs.length + zs.length ≤ sizeLine ∧ Q .non (upd H l (.lst (xs ++ zs)))
theorem mt_extA {X : Cx} : MtR X "list.extend" rExtA := by
  intro pins s σ H x vs v us Q I rx rv h
  obtain ⟨l, b, xs, zs, rfl, rfl, hH, hB, hz, q⟩ := h
  cases rx
  obtain ⟨u, rfl, ru⟩ := rv.one
  cases ru
  obtain ⟨z, its, n, r, hl, e⟩ := Inv.lstAny I (Rd.of hH)
  obtain ⟨z2, its2, n2, r2, hl2, e2⟩ := Inv.lstAny I hB
  have hsz : its.toArray.size + its2.toArray.size ≤ sizeLine := by rw [List.size_toArray, List.size_toArray]; omega
  have hlong : ¬ ((!its.toArray.isEmpty && Builtin.List.listTooLong (its.toArray.size + its2.toArray.size)) = true) := by
    rw [notLongL hsz, Bool.and_false]
    decide
  refine call_meets F.slot_list_extend ⟨_, e, rfl⟩ F.entry_list_extend (F.args_list_extend_2 _ _) (AutoSeq1.list_extend_list_list_0 l its.toArray n b its2.toArray n2 hlong (by rw [List.size_toArray]; omega) (by omega)) ⟨e, e2, ?_⟩
  exact ⟨.non, _, I.lset (its' := its ++ its2) hH e (by simp) (r.append r2) (by rw [List.length_append]; omega), rfl, q⟩
/-- a list, tracked or frozen in the heap -/
def Sl.rd? : Sl → Option (List D)
  | .own ds => some ds
  | .bor ds => some ds
  | _ => none
def extC (i : Nat) (f : Ev) : Cs := fun env ta => match env[i]? with
  | some (.own ds) => onE f (fun r env t => match r.rd? with
    | some es => if ds.length + es.length ≤ LIM then some (.nx, env.set i (.own (ds ++ es)), t) else none
    | none => none) env ta
  | _ => none
section
variable {X : Cx} {c : Ct} {W : WX} {e : Expr} {f : Ev} {pos : Pos}
/-- x.extend(e) -/
theorem s_ext {i : Nat} {x : Str} {p apos cpos : Pos} (he : PEv X c W e f) (hN : X.N[i]? = some x := by rfl) (hv : Vis X.env.scope x := by first | exact Or.inl rfl | exact Or.inr (Or.inl rfl) | exact Or.inr (Or.inr rfl))
    (hd : (x == ("__debug__" : Str)) = false := by decide) (hcd : (x == ("__classdict__" : Str)) = false := by decide)
    (hbase : attributeBase (.Name x p) "extend" X.env (eval (.Name x p) X.env) = eval (.Name x p) X.env := by rfl)
    (hfew : ((backTo cpos (starEach [e] X.env)).all (fun x => !x.1) && (backToKw cpos (keywordEach [] X.env)).all (fun x => x.1.isSome)
      && decide ([e].length + ([] : List Keyword).length + (if ([] : List Keyword).isEmpty then 0 else 1) < 30)) = true := by rfl)
    (hline : (apos.endLine == cpos.line) = true := by rfl) (hs : starEach [e] X.env = (false, eval e X.env) :: starEach [] X.env := by rfl)
    (hsw : swapsWith (.Call (.Attribute (.Name x p) "extend" apos) [e] [] cpos) none pos.line X.env = pure false := by rfl) :
    PSv X c W (.Expr (.Call (.Attribute (.Name x p) "extend" apos) [e] [] cpos) pos) (extC i f) := by
  refine ⟨ps_mono (L2.ps_expr (pe_bm PySem.F.plainAttrs_list PySem.F.slot_list_extend PySem.F.type_list_extend mt_extA (pe_var hN hv hd hcd) (L2.pa_cons he.pe L2.pa_nil hs) hbase hfew hline hs rfl) hsw) ?_⟩
  rintro D σ H ⟨B, tp, env, ta, RS, h⟩
  unfold extC at h
  split at h
  · rename_i ds q
    obtain ⟨a, xs, ea, hl, r⟩ := RS.ownAt q
    refine ⟨_, ea, .inl ⟨rfl, xs, SqL.of hl⟩, on_of RS h fun z t v H1 R1 K1 V1 h1 => ?_⟩
    split at h1
    · rename_i es hes
      split at h1
      · rename_i hlt
        obtain ⟨a', ys, ea', hl', r'⟩ := R1.ownAt q
        rw [ea] at ea'
        cases ea'
        have hv : ∃ b zs, v = .ref b ∧ H1 b = some (.lst zs) ∧ Reps X.K H1 zs es := by
          cases z with
          | own l => cases hes; obtain ⟨b, zs, rfl, _, _, hb, rz⟩ := V1; exact ⟨b, zs, rfl, hb, rz⟩
          | bor l => cases hes; obtain ⟨b, zs, rfl, hb, _, rz⟩ := V1; exact ⟨b, zs, rfl, hb, rz⟩
          | _ => cases hes
        obtain ⟨b, zs, rfl, hb, rz⟩ := hv
        refine ⟨a, b, ys, zs, rfl, rfl, hl', Rd.of hb, by rw [r'.length, rz.length]; exact lim_line hlt, ?_⟩
        exact h1 tp σ _ (.refl _) (K1.st.trans (stab_lst hl')) (R1.mut q ea hl' (r'.append rz))
      · exact h1.elim
    · exact h1.elim
  · exact h.elim
end
/-! ### x[k] op= e -/
def rGetL (K : PySem.W.Frag) : V → V → Hp → VK → Prop := fun x y H Q => ∃ p xs i v, x = .ref p ∧ y = .int i ∧ SqL K H p xs ∧ atI xs i = some v ∧ Q v H
theorem get_list {X : Cx} : PGet X (rGetL X.K) := by
  intro pins s σ H o i ov iv Q I ro ri h
  obtain ⟨p, xs, k, z, rfl, rfl, hq, he, q⟩ := h
  cases ro
  obtain ⟨t, rfl⟩ := ri
  obtain ⟨its, r, pl, hz⟩ := I.list hq
  obtain ⟨j, h1, h2, h3, h4, h5⟩ := atI_get he
  obtain ⟨w, ew, rw'⟩ := r.get h2
  have hl := r.length
  have hn := line63
  have fin : EP X pins σ Q w s := ⟨z, H, I, rw', q⟩
  by_cases h0 : 0 ≤ k
  · have hj : k.toNat = j := by
      rw [seqIndex_of h0 h5] at h1
      exact Option.some.inj h1
    exact wpAny_getItem_list pl.isList h0 (by omega) (by rw [hj]; simpa using ew) fin
  · have hj : (k + (its.toArray.size : Int)).toNat = j := by
      rw [seqIndex_neg (by omega) h4] at h1
      rw [List.size_toArray, ← hl]
      exact Option.some.inj h1
    exact wpAny_getItem_list_neg pl.isList (by omega) (by rw [List.size_toArray]; omega) (by omega) (by rw [hj]; simpa using ew) fin
def augSC (i : Nat) (g : Ev) (op : Sl → Sl → Option Sl) (f : Ev) : Cs := fun env ta => match env[i]? with
  | some (.own ds) => onE g (fun q env t => match q with
    | .val (.int k) => (match atI ds k, ixN ds.length k with
      | some d, some m => onE f (fun r env t => match op (.val d) r with
        | some (.val n) => some (.nx, env.set i (.own (ds.set m n)), t)
        | _ => none) env t
      | _, _ => none)
    | _ => none) env ta
  | _ => none
section
variable {X : Cx} {c : Ct} {W : WX} {e k : Expr} {f g : Ev} {pos : Pos}
theorem s_augS {i : Nat} {x : Str} {op : Operator} {r : R2} {o : Sl → Sl → Option Sl} {p tpos : Pos} (hr : OpR X (inplaceOp op) r) (ho : OpOk X.K c r o) (hk : PEv X c W k g) (he : PEv X c W e f) (hN : X.N[i]? = some x := by rfl)
    (hv : Vis X.env.scope x := by first | exact Or.inl rfl | exact Or.inr (Or.inl rfl) | exact Or.inr (Or.inr rfl))
    (hd : (x == ("__debug__" : Str)) = false := by decide) (hcd : (x == ("__classdict__" : Str)) = false := by decide)
    (ha : ∀ ov iv new, augStore k ov iv new = (do holding [new, ov, iv] (setItem ov iv new); release [new, ov, iv] []; pure .next) := by intros; rfl) :
    PSv X c W (.AugAssign (.Subscript (.Name x p) k tpos) op e pos) (augSC i g o f) := by
  refine ⟨ps_mono (ps_augS (pe_var hN hv hd hcd) hk.pe get_list he.pe (tip := r) hr set_list ha) ?_⟩
  rintro D σ H ⟨B, tp, env, ta, RS, h⟩
  unfold augSC at h
  split at h
  · rename_i ds q
    obtain ⟨a, xs, ea, hl, rr⟩ := RS.ownAt q
    refine ⟨_, ea, on_of RS h fun z t v H1 R1 K1 V1 h1 => ?_⟩
    split at h1
    · rename_i kk
      split at h1
      · rename_i d m ed em
        obtain ⟨a1, xs1, ea1, hl1, r1⟩ := R1.ownAt q
        rw [ea] at ea1
        cases ea1
        obtain ⟨w, ew, rw'⟩ := r1.atI ed
        refine ⟨a, xs1, kk, w, rfl, V1.int, SqL.of hl1, ew, on_of R1 (h1.le (.refl _) K1.st) fun y t2 u H2 R2 K2 V2 h2 => ?_⟩
        split at h2
        · rename_i n en
          have Vw : RepV X.K c tp H1 H1 w (.val d) := rw'
          refine ho tp H1 H1 H2 w u (.val d) y (.val n) _ (fun a => R2.vol) (Vw.kp K2) V2 en fun z H3 s3 V3 => ?_
          have R3 := R2.grow s3
          obtain ⟨a3, xs3, ea3, hl3, r3⟩ := R3.ownAt q
          rw [ea] at ea3
          cases ea3
          refine ⟨a, xs3, kk, m, rfl, V1.int, hl3, by rw [r3.length]; exact em, ?_⟩
          exact h2 tp σ _ (.refl _) ((K2.st.trans (.of_same s3)).trans (stab_lst hl3)) (R3.mut q ea hl3 (Reps.set V3 m r3))
        · exact h2.elim
      · exact h1.elim
    · exact h1.elim
  · exact h.elim
end
/-! ### x, y = a, b: two locals, each may be a new list -/
def parC (i j : Nat) (f g : Ev) : Cs := onE f fun p env t => match p.store? with
  | some s => onE g (fun q env t => q.store?.map fun u => (.nx, (env.set i s).set j u, t)) env t
  | none => none
section
variable {X : Cx} {c : Ct} {W : WX} {a b : Expr} {f g : Ev} {pos : Pos}
theorem s_par {i j : Nat} {x y : Str} {px py pt : Pos} {kt k2 pt2} (hN : X.N.Nodup) (ha : PEv X c W a f) (hb : PEv X c W b g)
    (hw : swappedStores [.Tuple [.Name x px, .Name y py] kt pt] (.Tuple [a, b] k2 pt2) X.env = pure (some [x, y])) (hi : X.N[i]? = some x := by rfl) (hj : X.N[j]? = some y := by rfl) (hij : i ≠ j := by decide) (hc : X.calm = true := by rfl)
    (hx : X.env.scope.names.lookup x = some .local := by rfl) (hy : X.env.scope.names.lookup y = some .local := by rfl)
    (hs : swapsWithSole [.Tuple [.Name x px, .Name y py] kt pt] (.Tuple [a, b] k2 pt2) pos.line X.env = pure false := by rfl)
    (s1 : starEach [a, b] X.env = (false, eval a X.env) :: starEach [b] X.env := by rfl) (s2 : starEach [b] X.env = (false, eval b X.env) :: starEach [] X.env := by rfl) :
    PSv X c W (.Assign [.Tuple [.Name x px, .Name y py] kt pt] (.Tuple [a, b] k2 pt2) pos) (parC i j f g) := by
  refine ⟨ps_mono (ps_par hc hN hi hj hij hx hy (L2.pa_cons ha.pe (L2.pa_cons hb.pe L2.pa_nil s2) s1) hw hs) ?_⟩
  rintro D σ H ⟨B, tp, env, ta, RS, h⟩
  refine on_of RS h fun p t v H1 R1 K1 V1 h1 => ?_
  cases e1 : p.store? with
  | none => rw [e1] at h1; exact h1.elim
  | some s =>
    rw [e1] at h1
    refine on_of R1 (h1.le (.refl _) K1.st) fun q t2 w H2 R2 K2 V2 h2 => ?_
    cases e2 : q.store? with
    | none => rw [e2] at h2; exact h2.elim
    | some u =>
      rw [e2] at h2
      have ra := RepS.store (i := i) RS R1 V1 e1
      have rb := RepS.store (i := i) RS R2 (V1.kp K2) e1
      exact ⟨v, w, rfl, h2 tp _ H2 (.refl _) K2.st (RepS.store (i := j) ra rb V2 e2)⟩
end
def parC3 (i j l : Nat) (f g h : Ev) : Cs := onE f fun p env t => match p.store? with
  | some s => onE g (fun q env t => match q.store? with
    | some u => onE h (fun r env t => r.store?.map fun z => (.nx, ((env.set i s).set j u).set l z, t)) env t
    | none => none) env t
  | none => none
section
variable {X : Cx} {c : Ct} {W : WX} {a b d : Expr} {f g h : Ev} {pos : Pos}
theorem s_par3 {i j l : Nat} {x y z : Str} {px py pz pt : Pos} {kt k2 pt2} (hN : X.N.Nodup) (ha : PEv X c W a f) (hb : PEv X c W b g) (hd : PEv X c W d h)
    (hw : swappedStores [.Tuple [.Name x px, .Name y py, .Name z pz] kt pt] (.Tuple [a, b, d] k2 pt2) X.env = pure (some [x, y, z])) (hi : X.N[i]? = some x := by rfl) (hj : X.N[j]? = some y := by rfl) (hl : X.N[l]? = some z := by rfl)
    (hij : i ≠ j := by decide) (hil : i ≠ l := by decide) (hjl : j ≠ l := by decide) (hc : X.calm = true := by rfl)
    (hx : X.env.scope.names.lookup x = some .local := by rfl) (hy : X.env.scope.names.lookup y = some .local := by rfl) (hz : X.env.scope.names.lookup z = some .local := by rfl)
    (hs : swapsWithSole [.Tuple [.Name x px, .Name y py, .Name z pz] kt pt] (.Tuple [a, b, d] k2 pt2) pos.line X.env = pure false := by rfl)
    (s1 : starEach [a, b, d] X.env = (false, eval a X.env) :: starEach [b, d] X.env := by rfl) (s2 : starEach [b, d] X.env = (false, eval b X.env) :: starEach [d] X.env := by rfl) (s3 : starEach [d] X.env = (false, eval d X.env) :: starEach [] X.env := by rfl) :
    PSv X c W (.Assign [.Tuple [.Name x px, .Name y py, .Name z pz] kt pt] (.Tuple [a, b, d] k2 pt2) pos) (parC3 i j l f g h) := by
  refine ⟨ps_mono (ps_par3 hc hN hi hj hl hij hil hjl hx hy hz (L2.pa_cons ha.pe (L2.pa_cons hb.pe (L2.pa_cons hd.pe L2.pa_nil s3) s2) s1) hw hs) ?_⟩
  rintro D σ H ⟨B, tp, env, ta, RS, h⟩
  refine on_of RS h fun p t v H1 R1 K1 V1 h1 => ?_
  cases e1 : p.store? with
  | none => rw [e1] at h1; exact h1.elim
  | some s =>
    rw [e1] at h1
    refine on_of R1 (h1.le (.refl _) K1.st) fun q t2 w H2 R2 K2 V2 h2 => ?_
    cases e2 : q.store? with
    | none => rw [e2] at h2; exact h2.elim
    | some u =>
      rw [e2] at h2
      refine on_of R2 (h2.le (.refl _) K2.st) fun r t3 w3 H3 R3 K3 V3 h3 => ?_
      cases e3 : r.store? with
      | none => rw [e3] at h3; exact h3.elim
      | some z =>
        rw [e3] at h3
        have ra := RepS.store (i := i) RS R1 V1 e1
        have rb := RepS.store (i := i) RS R2 (V1.kp K2) e1
        have rc := RepS.store (i := i) RS R3 ((V1.kp K2).kp K3) e1
        have rb2 := RepS.store (i := j) ra rb V2 e2
        have rc2 := RepS.store (i := j) ra rc (V2.kp K3) e2
        exact ⟨v, w, w3, rfl, h3 tp _ H3 (.refl _) K3.st (RepS.store (i := l) rb2 rc2 V3 e3)⟩
end
end MP

/-! MPr: x[::-1]. -/
namespace MP
open PySem PySem.Spec PyProof.Rows L2
theorem fm_congr {α β : Type} {f g : α → Option β} : ∀ {l : List α}, (∀ x ∈ l, f x = g x) → l.filterMap f = l.filterMap g
  | [], _ => rfl
  | x :: l, h => by
    rw [List.filterMap_cons, List.filterMap_cons, h x List.mem_cons_self, fm_congr fun y hy => h y (List.mem_cons_of_mem _ hy)]
section
variable {prog : Program} {w : World} {A : Around} {E : Value → Shared → Prop} {s : Shared}
theorem adj_rev (n : Nat) : Builtin.Slice.sliceAdjust none none (-1) (n : Int) = ((n : Int) - 1, -1) := by
  unfold Builtin.Slice.sliceAdjust
  simp
theorem places_rev (n : Nat) : Builtin.Slice.slicePlaces ((n : Int) - 1) (-1) (-1) = n := by
  unfold Builtin.Slice.slicePlaces
  by_cases h : n = 0
  · subst h; simp
  · have h1 : (-1 : Int) < (n : Int) - 1 := by omega
    simp [h1]
theorem pick_rev (xs : Array Value) : ((List.range xs.size).filterMap fun (k : Nat) => xs[(((xs.size : Int) - 1) + (k : Int) * (-1)).toNat]?).toArray = xs.toList.reverse.toArray := by
  have e1 : (List.range xs.size).filterMap (fun (k : Nat) => xs[(((xs.size : Int) - 1) + (k : Int) * (-1)).toNat]?) = ((List.range xs.size).map fun k => xs.size - 1 - k).filterMap (xs[·]?) := by
    rw [List.filterMap_map]
    refine fm_congr fun k hk => ?_
    rw [List.mem_range] at hk
    have : (((xs.size : Int) - 1) + (k : Int) * (-1)).toNat = xs.size - 1 - k := by omega
    rw [this]
    rfl
  rw [e1, PySem.W.krv_range, List.filterMap_reverse, PySem.W.krv_all]
theorem applied_rev {sl : Addr} {vl vu vs : Value} {n : Nat} {Q : Int × Int × Nat → Shared → Prop} (hs : s.heap.IsSliceOf sl vl vu vs) (pl : IsPart vl none) (pu : IsPart vu none) (ps : IsPart vs (some (-1)))
    (h : Q ((n : Int) - 1, -1, n) s) : wpAny (model prog w) A (Builtin.Slice.sliceApplied (.ref sl) (pure (n : Int))) Q E s := by
  obtain ⟨os, hos, hcs, hds⟩ := id hs
  unfold Builtin.Slice.sliceApplied Builtin.Slice.sliceFields
  refine wpAny_bind (wpAny_bind (wpAny_field hos hds (x := vl) rfl (wpAny_bind (wpAny_field hos hds (x := vu) rfl (wpAny_bind (wpAny_field hos hds (x := vs) rfl (wpAny_pure ?_)))))))
  refine wpAny_bind (HT.slicePart_ ps ?_)
  show wpAny _ _ (if ((-1 : Int) == 0) = true then _ else _) _ _ s
  rw [if_neg (by decide)]
  refine wpAny_bind (HT.slicePart_ pl (wpAny_bind (HT.slicePart_ pu (wpAny_bind (wpAny_pure ?_)))))
  show wpAny _ _ (match Builtin.Slice.sliceAdjust none none (-1) (n : Int) with | (lo, hi) => pure (lo, (-1 : Int), Builtin.Slice.slicePlaces lo hi (-1))) _ _ s
  rw [adj_rev n]
  show wpAny _ _ (pure (((n : Int) - 1), (-1 : Int), Builtin.Slice.slicePlaces ((n : Int) - 1) (-1) (-1))) _ _ s
  rw [places_rev]
  exact wpAny_pure h
theorem getItem_rev {t sl : Addr} {its : Array Value} {vl vu vs : Value} {Q : Value → Shared → Prop} (ht : IsTup s.heap t its) (hs : s.heap.IsSliceOf sl vl vu vs) (pl : IsPart vl none) (pu : IsPart vu none) (ps : IsPart vs (some (-1)))
    (h : Q (.ref s.heap.objs.size) { s with heap := s.heap.push { cls := .type "tuple", data := .seq its.toList.reverse.toArray } }) (hsz : its.size ≤ sizeLine) : wpAny (model prog w) A (getItem (.ref t) (.ref sl)) Q E s := by
  have htake : sizeOk (.seq its.toList.reverse.toArray) := by
    show its.toList.reverse.toArray.size ≤ sizeLine
    rw [List.size_toArray, List.length_reverse, Array.length_toList]
    exact hsz
  obtain ⟨os, hos, hcs, hds⟩ := id hs
  unfold getItem
  (try (with_reducible refine wpAny_holding ?_))
  (first | (refine wpAny_bind (wpAny_pure ?_)) | skip)
  refine wpAny_bind (wpAny_sequenceKey (ht.typeIs) (by decide) ?_)
  refine wpAny_bind (wpAny_callSpecial?_slot (name := Str.ofString "__getitem__") (ht.typeIs) slot_tuple_getitem (wpAny_call_entry slot_tuple_getitem (ht.typeIs) entry_tuple_getitem ?_ (args_tuple_getitem _ _)))
  show wpAny _ _ (Builtin.Tuple.tupleItemsOf (Value.ref t) >>= _) _ _ s
  refine wpAny_bind (tupleItemsOf_ ht ?_)
  refine wpAny_bind (wpAny_typeOf (show s.TypeIs (.ref sl) "slice" from ⟨os, hos, hcs⟩) ?_)
  rw [if_pos (by decide)]
  refine wpAny_bind (applied_rev hs pl pu ps ?_)
  show wpAny _ _ (if ((((its.size : Int) - 1) == 0 && (-1 : Int) == 1 && its.size == its.size) = true) then _ else _) _ _ s
  rw [if_neg (by simp), pick_rev]
  first
    | exact wpAny_bind (m := Builtin.Tuple.tupleExact _) (wpAny_newObj_type (wpAny_pure ⟨_, rfl, wpAny_pure h⟩) htake)
    | exact wpAny_bind (m := Builtin.Tuple.tupleExact _) (wpAny_newObj_type (wpAny_bind (wpAny_pure (wpAny_pure ⟨_, rfl, wpAny_pure h⟩))) htake)
    | exact wpAny_bind (wpAny_bind (m := Builtin.Tuple.tupleExact _) (wpAny_newObj_type (wpAny_pure (wpAny_pure ⟨_, rfl, wpAny_pure h⟩)) htake))
    | exact wpAny_bind (wpAny_bind (m := Builtin.Tuple.tupleExact _) (wpAny_newObj_type (wpAny_pure ⟨_, rfl, wpAny_pure h⟩) htake))
end
def tRevA (K : PySem.W.Frag) (te : TE) : TE := fun σ H Q => te σ H fun x H1 => ∃ a xs, x = .ref a ∧ ((SqL K H1 a xs ∧ ∀ p, H1 p = none → Q (.ref p) (upd H1 p (.lst xs.reverse))) ∨ (SqT K H1 a xs ∧ ∀ p, H1 p = none → Q (.ref p) (upd H1 p (.tup xs.reverse))))
theorem pe_revA {X : Cx} {e : Expr} {te : TE} {k : Nat} {p1 p2 p3 pos : Pos} (he : PE X e te) : PE X (.Subscript e (.Slice none none (some (.UnaryOp .USub (.Constant (.int 1) k p1) p2)) p3) pos) (tRevA X.K te) := by
  refine ⟨fun pins s σ H Q I h => ?_⟩
  refine Subscript_ (thn (he.run pins s σ H _ I h) fun v s1 ⟨x, H1, I1, r1, q1⟩ => ?_)
  obtain ⟨a, xs, rfl, q⟩ := q1
  cases r1
  have hst : PO X (some (.UnaryOp .USub (.Constant (.int 1) k p1) p2)) (tPart (tUn (rU fun i => .int (-i)) (tC (.int 1)))) := po_some (pe_un un_neg pe_int)
  refine wpAny_Slice (thn (po_none.run pins s1 σ H1 (fun o H2 => o = none ∧ H2 = H1) I1 ⟨rfl, rfl⟩) fun vl s2 ⟨l, H2, I2, pl, el, e2⟩ => ?_)
  subst el e2
  refine thn (po_none.run pins s2 σ H2 (fun o H3 => o = none ∧ H3 = H2) I2 ⟨rfl, rfl⟩) fun vu s3 ⟨u, H3, I3, pu, eu, e3⟩ => ?_
  subst eu e3
  refine thn (hst.run pins s3 σ H3 (fun o H4 => o = some (-1) ∧ H4 = H3) I3 ⟨1, rfl, -1, rfl, rfl, rfl⟩) fun vs s4 ⟨o, H4, I4, ps, eo, e4⟩ => ?_
  subst eo e4
  obtain ⟨so, hso⟩ : ∃ so : Obj, so = { cls := .type "slice", data := .fields #[vl, vu, vs] } := ⟨_, rfl⟩
  have I5 : Inv X pins σ H4 { s4 with heap := s4.heap.push so } := I4.kept (t' := s4.toks) fun b ob q => Heap.get?_push_of_some _ q
  rw [← hso]
  have hsl : (s4.heap.push so).IsSliceOf s4.heap.objs.size vl vu vs := by rw [hso]; exact Heap.IsSliceOf.new _ vl vu vs
  show wpAny (model X.prog X.w) X.A (subscriptTail e (.Slice none none (some (.UnaryOp .USub (.Constant (.int 1) k p1) p2)) p3) (.ref a) (.ref s4.heap.objs.size)) (EP X pins σ Q) X.xe { s4 with heap := s4.heap.push so }
  rcases q with ⟨hx, q⟩ | ⟨hx, q⟩
  · obtain ⟨its, r, ht, hz⟩ := I5.list hx
    have hlen := r.length
    refine tail_any (ops := [.ref a, .ref s4.heap.objs.size]) ht.isList.typeIs (PySem.slot_list_getitem.lookup) ?_ (by with_unfolding_all rfl)
    refine wpAny_getItem_list_slice ht.isList hsl pl pu ps (by decide) ?_ (by rw [List.size_toArray]; omega)
    rw [PySem.W.krv_pick]
    exact ⟨.ref _, _, I5.laid (t' := s4.toks) (o := .lst xs.reverse) (fun b ob q => Heap.get?_push_of_some _ q) (Nat.le_refl _) ⟨by rw [List.length_reverse]; exact hz, _, 0, r.reverse, Heap.get?_push_size _ rfl⟩, rfl, q _ (I5.hok.fresh (Nat.le_refl _))⟩
  · obtain ⟨its, r, ht, hz⟩ := I5.tuple hx
    have hlen := r.length
    refine tail_any (ops := [.ref a, .ref s4.heap.objs.size]) ht.typeIs (slot_tuple_getitem.lookup) ?_ (by with_unfolding_all rfl)
    refine getItem_rev ht hsl pl pu ps ?_ (by rw [List.size_toArray]; omega)
    exact ⟨.ref _, _, I5.laid (t' := s4.toks) (o := .tup xs.reverse) (fun b ob q => Heap.get?_push_of_some _ q) (Nat.le_refl _) ⟨by rw [List.length_reverse]; exact hz, _, r.reverse, IsTup.new _ _⟩, rfl, q _ (I5.hok.fresh (Nat.le_refl _))⟩
def revS : Sl → Option Sl
  | .val (.tup ds) => some (.val (.tup ds.reverse))
  | .val (.lst ds) => some (.own ds.reverse)
  | .own ds => some (.own ds.reverse)
  | .bor ds => some (.own ds.reverse)
  | _ => none
theorem v_rev {X : Cx} {c : Ct} {W : WX} {e : Expr} {f : Ev} {k : Nat} {p1 p2 p3 pos : Pos} (he : PEv X c W e f) : PEv X c W (.Subscript e (.Slice none none (some (.UnaryOp .USub (.Constant (.int 1) k p1) p2)) p3) pos) (unE revS f) := by
  refine ⟨pe_mono (pe_revA he.pe) ?_⟩
  rintro σ H Q ⟨B, tp, env, ta, RS, h⟩
  refine tE_bind RS h fun x t1 v H1 R1 K1 V1 h1 => ?_
  have h1 := h1.later K1
  have lst : ∀ ds, x.items? = some ds → revS x = some (.own ds.reverse) → ∃ a xs, v = .ref a ∧ ((SqL X.K H1 a xs ∧ ∀ p, H1 p = none → Q (.ref p) (upd H1 p (.lst xs.reverse))) ∨ (SqT X.K H1 a xs ∧ ∀ p, H1 p = none → Q (.ref p) (upd H1 p (.tup xs.reverse)))) := fun ds e1 e2 => by
    obtain ⟨a, xs, rfl, hs, rr⟩ := V1.list e1
    rw [e2] at h1
    exact ⟨a, xs, rfl, .inl ⟨hs, fun p hp => EPost.same R1 h1 (Same.new hp) (RepV.newL hp (R1.vol hp) rr.reverse)⟩⟩
  cases x with
  | val d =>
    cases d with
    | tup ds =>
      obtain ⟨a, xs, rfl, hs, rr⟩ := V1.tup
      exact ⟨a, xs, rfl, .inr ⟨hs, fun p hp => EPost.same R1 h1 (Same.new hp) (RepV.newT hp rr.reverse)⟩⟩
    | lst ds => exact lst ds rfl rfl
    | _ => exact h1.elim
  | own ds => exact lst ds rfl rfl
  | bor ds => exact lst ds rfl rfl
  | un => exact h1.elim
  | tape => exact h1.elim
  | dic _ => exact h1.elim
  | bdc _ => exact h1.elim
end MP

/-! MPs: a target with tuples in it = e. -/
namespace MP
open PySem PySem.Spec PyProof.Rows L2
def unpTC (t : Tg) (f : Ev) : Cs := onE f fun r env ta => match r with
  | .val d => (t.set d env).map fun e => (.nx, e, ta)
  | _ => none
section
variable {X : Cx} {c : Ct} {W : WX} {e : Expr} {f : Ev} {pos : Pos}
theorem s_unpT {t : Tg} {tg : Expr} (he : PEv X c W e f) (hg : PG X tg (t.g X.K)) (hs : swapsWithSole [tg] e pos.line X.env = pure false := by rfl) (hw : swappedStores [tg] e X.env = pure none := by rfl)
    (h1 : (assignEach [tg] X.env).map (·.2) = [assign tg X.env] := by rfl) : PSv X c W (.Assign [tg] e pos) (unpTC t f) := by
  refine ⟨ps_mono (ps_asg he.pe hg hs hw h1) ?_⟩
  rintro D σ H ⟨B, tp, env, ta, RS, h⟩
  refine on_of RS h fun r t1 v H1 R1 K1 V1 h1 => ?_
  cases r with
  | val d =>
    dsimp only at h1
    cases es : t.set d env with
    | none => rw [es] at h1; exact h1.elim
    | some env' =>
      rw [es] at h1
      obtain ⟨σ', g1, g2, _⟩ := tg_ok R1 V1 es
      exact g1 _ (h1 tp σ' H1 (.refl _) K1.st g2)
  | _ => exact h1.elim
end
end MP

/-! MPt: dicts whose keys are ints or texts. -/
namespace MP
open PySem PySem.Spec PyProof.Rows L2
theorem hu1 {k : Nat} {A : Around} (r : Room k A) : A.units + 1 < cLine := by have := r.un; omega
theorem stab_dk {H : Hp} {a : Addr} {xs : List (Key × V)} {o : HO} (h : H a = some (.dK xs)) : Stab H (upd H a o) :=
  ⟨fun b ys e => by rw [upd_ne (fun z => by rw [z, h] at e; cases e)]; exact e, fun b ob u e => by rw [upd_ne (fun z => by rw [z, h] at e; cases e)]; exact e⟩
section
variable {K : PySem.W.Frag} {c : Ct} {tp : Option Addr} {H H0 H1 B : Hp} {σ : L2.St} {env : SE} {ta ta' : TapeO}
theorem tapeR_updK {a : Addr} {o : HO} {xs : List (Key × V)} (h : TapeR K H tp ta) (ha : H a = some (.dK xs)) : TapeR K (upd H a o) tp ta := by
  cases tp <;> cases ta
  · exact h
  · exact h
  · exact h
  · rename_i b t
    obtain ⟨sc, e1, e2⟩ := h
    refine ⟨sc, ?_, (stab_dk ha).fz e2⟩
    rw [upd_ne (fun z => by rw [z, ha] at e1; cases e1)]; exact e1
theorem tabs_updK {T : List (Addr × Str)} {a : Addr} {o : HO} {xs : List (Key × V)} (h : LamX.Tabs T H) (ha : H a = some (.dK xs)) : LamX.Tabs T (upd H a o) := fun p hp => by
  obtain ⟨ps, e1, e2, e3⟩ := h p hp
  refine ⟨ps, by rw [upd_ne (fun z => by rw [z, ha] at e1; cases e1)]; exact e1, e2, fun pos cv q => ?_⟩
  obtain ⟨d, e4, e5⟩ := e3 pos cv q
  refine ⟨d, e4, ?_⟩
  rw [upd_ne (fun z => by rw [z, ha] at e5; unfold LamX.CodeO at e5; cases e5)]; exact e5
/-- a dict that no slot owns is changed -/
theorem RepS.updK {a : Addr} {xs : List (Key × V)} {o : HO} (R : RepS K c B tp σ H env ta) (h : H a = some (.dK xs)) (no : ∀ i, ¬ OwnAt env σ i a) (nB : B a = none) : RepS K c B tp σ (upd H a o) env ta where
  len := R.len
  slot := fun i sl e => by
    have q := R.slot i sl e
    cases sl with
    | un => exact q
    | val d => obtain ⟨v, e1, r⟩ := q; exact ⟨v, e1, r.st (stab_dk h)⟩
    | own ds =>
      obtain ⟨b, ys, e1, e2, r⟩ := q
      exact ⟨b, ys, e1, by rw [upd_ne (fun z => by rw [z, h] at e2; cases e2)]; exact e2, r.st (stab_dk h)⟩
    | bor _ => exact q
    | tape => exact q
    | dic ds =>
      obtain ⟨b, ys, e1, e2, r⟩ := q
      have hb : b ≠ a := fun z => no i ⟨⟨_, e, trivial⟩, by rw [← z]; exact e1⟩
      exact ⟨b, ys, e1, by rw [upd_ne hb]; exact e2, r.st (stab_dk h)⟩
    | bdc _ => exact q
  fresh := R.fresh
  dist := R.dist
  tape := tapeR_updK R.tape h
  tabs := tabs_updK R.tabs h
  keep := fun b u e n => by
    rw [upd_ne (fun z => by rw [z, nB] at e; cases e)]; exact R.keep b u e n
  stab := R.stab.trans (stab_dk h)
theorem Kp.updK {a : Addr} {xs : List (Key × V)} {o : HO} (k : Kp c tp H H1) (h : H1 a = some (.dK xs)) (n : H a = none) : Kp c tp H (upd H1 a o) where
  kp := fun b u e nv => by rw [upd_ne (fun z => by rw [z, n] at e; cases e)]; exact k.kp b u e nv
  st := k.st.trans (stab_dk h)
  nn := fun b e => by
    by_cases hb : b = a
    · rw [hb, upd_same] at e; cases e
    · rw [upd_ne hb] at e; exact k.nn b e
/-- the frame's own dict at slot i is changed -/
theorem RepS.mutK {i : Nat} {a : Addr} {xs ys : List (Key × V)} {ds es : List (Key × D)} (R : RepS K c B tp σ H env ta) (ei : env[i]? = some (.dic ds)) (ea : σ[i]? = some (some (.ref a))) (h : H a = some (.dK xs)) (r : RepsK K H ys es) :
    RepS K c B tp σ (upd H a (.dK ys)) (env.set i (.dic es)) ta := by
  have hi : i < env.length := (List.getElem?_eq_some_iff.mp ei).1
  have own : ∀ j b, OwnAt (env.set i (.dic es)) σ j b → OwnAt env σ j b := fun j b o => by
    obtain ⟨⟨fs, e1, so⟩, e2⟩ := o
    by_cases hj : i = j
    · subst hj; exact ⟨⟨_, ei, trivial⟩, e2⟩
    · rw [List.getElem?_set_ne hj] at e1; exact ⟨⟨fs, e1, so⟩, e2⟩
  have fr := R.fresh i a ⟨⟨_, ei, trivial⟩, ea⟩
  refine ⟨by rw [List.length_set]; exact R.len, fun j sl e1 => ?_, fun j b o => R.fresh j b (own j b o), fun j1 j2 b o1 o2 => R.dist j1 j2 b (own _ _ o1) (own _ _ o2), tapeR_updK R.tape h, tabs_updK R.tabs h, fun b u e n => ?_, R.stab.trans (stab_dk h)⟩
  · by_cases hj : i = j
    · subst hj
      rw [List.getElem?_set_self hi] at e1
      cases e1
      exact ⟨a, ys, ea, upd_same, r.st (stab_dk h)⟩
    · rw [List.getElem?_set_ne hj] at e1
      have q := R.slot j sl e1
      cases sl with
      | un => exact q
      | val d => obtain ⟨v, e2, rr⟩ := q; exact ⟨v, e2, rr.st (stab_dk h)⟩
      | own fs =>
        obtain ⟨b, zs, e2, e3, rr⟩ := q
        exact ⟨b, zs, e2, by rw [upd_ne (fun z => by rw [z, h] at e3; cases e3)]; exact e3, rr.st (stab_dk h)⟩
      | bor _ => exact q
      | tape => exact q
      | dic fs =>
        obtain ⟨b, zs, e2, e3, rr⟩ := q
        have hb : b ≠ a := fun z => hj (R.dist i j a ⟨⟨_, ei, trivial⟩, ea⟩ ⟨⟨_, e1, trivial⟩, by rw [← z]; exact e2⟩)
        exact ⟨b, zs, e2, by rw [upd_ne hb]; exact e3, rr.st (stab_dk h)⟩
      | bdc _ => exact q
  · rw [upd_ne (fun z => by rw [z, fr.1] at e; cases e)]; exact R.keep b u e n
theorem RepS.dicAt {i : Nat} {ds : List (Key × D)} (R : RepS K c B tp σ H env ta) (ei : env[i]? = some (.dic ds)) : ∃ a xs, σ[i]? = some (some (.ref a)) ∧ H a = some (.dK xs) ∧ RepsK K H xs ds := R.slot i _ ei
end
def Sl.dict? : Sl → Option (List (Key × D))
  | .dic ks => some ks
  | .bdc ks => some ks
  | _ => none
def Sl.key? : Sl → Option Key
  | .val (.int i) => some (.inl i)
  | .val (.str x) => some (.inr x)
  | _ => none
section
variable {K : PySem.W.Frag} {c : Ct} {tp : Option Addr} {H H0 H1 : Hp}
theorem RepV.dict {v : V} {r : Sl} {ks : List (Key × D)} (h : RepV K c tp H0 H v r) (e : r.dict? = some ks) : ∃ a xs, v = .ref a ∧ H a = some (.dK xs) ∧ ¬ Vol c tp a ∧ RepsK K H xs ks := by
  cases r with
  | dic es => cases e; obtain ⟨a, xs, rfl, n, nv, h1, r⟩ := h; exact ⟨a, xs, rfl, h1, nv, r⟩
  | bdc es => cases e; obtain ⟨a, xs, rfl, h1, nv, r⟩ := h; exact ⟨a, xs, rfl, h1, nv, r⟩
  | _ => cases e
theorem RepV.key {v : V} {r : Sl} {k : Key} (h : RepV K c tp H0 H v r) (e : r.key? = some k) : v = kV k := by
  unfold Sl.key? at e
  split at e
  · cases e; cases (show Rep K H v (.int _) from h); rfl
  · cases e; cases (show Rep K H v (.str _) from h); rfl
  · cases e
end
/-- {} -/
def dnewE : Ev := fun _ ta => some (.ok (.dic []), ta)
/-- d.get(k, x) -/
def dgetE (f g h : Ev) : Ev := bindE f fun x => match x.dict? with
  | some ks => bindE g fun y => match y.key? with
    | some k => bindE h fun z => match z with
      | .val d => fun _ t => some (.ok (.val ((valD ks k).getD d)), t)
      | _ => fun _ _ => none
    | none => fun _ _ => none
  | none => fun _ _ => none
/-- d[k], d a dict -/
def dsubE (f g : Ev) : Ev := bindE f fun x => match x.dict? with
  | some ks => bindE g fun y => match y.key? with
    | some k => match valD ks k with
      | some d => fun _ t => some (.ok (.val d), t)
      | none => fun _ _ => none
    | none => fun _ _ => none
  | none => fun _ _ => none
/-- d[k] = e, d a dict of the frame -/
def dsetC (i : Nat) (f g : Ev) : Cs := onE f fun r env t => match env[i]?, r with
  | some (.dic ks), .val d => onE g (fun q env t => match q.key? with
    | some k => if ks.length < LIM then some (.nx, env.set i (.dic (putD ks k d)), t) else none
    | _ => none) env t
  | _, _ => none
def lenDS : List Sl → Option Sl
  | [x] => match x.dict? with
    | some ks => some (.val (.int (ks.length : Int)))
    | none => none
  | _ => none
section
variable {X : Cx} {c : Ct} {W : WX} {o e k x : Expr} {f g h : Ev} {pos : Pos}
theorem v_dnew : PEv X c W (.Dict [] [] pos) dnewE := by
  refine ⟨pe_mono pe_dnewK ?_⟩
  rintro σ H Q ⟨B, tp, env, ta, RS, h⟩
  exact fun p hp => EPost.same RS h (Same.new hp) ⟨p, [], rfl, hp, RS.vol hp, upd_same, .nil⟩
theorem v_dget {apos : Pos} (hu : X.A.units + 1 < cLine) (ho : PEv X c W o f) (hk : PEv X c W k g) (hx : PEv X c W x h)
    (hbase : attributeBase o "get" X.env (eval o X.env) = eval o X.env := by rfl)
    (hfew : ((backTo pos (starEach [k, x] X.env)).all (fun x => !x.1) && (backToKw pos (keywordEach [] X.env)).all (fun x => x.1.isSome)
    && decide (([k, x] : List Expr).length + ([] : List Keyword).length + (if ([] : List Keyword).isEmpty then 0 else 1) < 30)) = true := by rfl)
    (hline : (apos.endLine == pos.line) = true := by rfl)
    (htr : backTo pos (starEach [k, x] X.env) = [(false, eval k X.env), (false, eval x X.env)] := by rfl) : PEv X c W (.Call (.Attribute o "get" apos) [k, x] [] pos) (dgetE f g h) := by
  refine ⟨pe_mono (pe_dget2 hu ho.pe hk.pe hx.pe ⟨hbase, hfew, hline, htr⟩) ?_⟩
  rintro σ H Q ⟨B, tp, env, ta, RS, hh⟩
  refine tE_bind RS hh fun r t v H1 R1 K1 V1 h1 => ?_
  cases ed : r.dict? with
  | none => rw [ed] at h1; exact h1.elim
  | some ks =>
    rw [ed] at h1
    obtain ⟨a, xs, rfl, ha, nv, rr⟩ := V1.dict ed
    refine ⟨a, rfl, .inl ⟨xs, .inl ha⟩, tE_bind R1 (h1.later K1) fun r2 t2 u H2 R2 K2 V2 h2 => ?_⟩
    cases ek : r2.key? with
    | none => rw [ek] at h2; exact h2.elim
    | some kk =>
      rw [ek] at h2
      have hu2 := V2.key ek
      subst hu2
      refine tE_bind R2 (h2.later K2) fun r3 t3 w H3 R3 K3 V3 h3 => ?_
      cases r3 with
      | val d =>
        have ha3 := K3.kp _ _ (K2.kp _ _ ha nv) nv
        have rr3 := (rr.st K2.st).st K3.st
        refine ⟨_, DGet.k ha3, EPost.val R3 (h3.later K3) ?_⟩
        obtain ⟨q1, q2⟩ := rr3.val (k := kk)
        cases ev : valD ks kk with
        | none => rw [q1 ev]; exact V3
        | some d' => obtain ⟨v', e1, r'⟩ := q2 d' ev; rw [e1]; exact r'
      | _ => exact h3.elim
theorem v_dsub (hu : X.A.units + 1 < cLine) (ho : PEv X c W o f) (hk : PEv X c W k g) (hs : NoSl k := by exact fun _ _ => rfl) : PEv X c W (.Subscript o k pos) (dsubE f g) := by
  refine ⟨pe_mono (pe_dget hu ho.pe hk.pe hs) ?_⟩
  rintro σ H Q ⟨B, tp, env, ta, RS, hh⟩
  refine tE_bind RS hh fun r t v H1 R1 K1 V1 h1 => ?_
  cases ed : r.dict? with
  | none => rw [ed] at h1; exact h1.elim
  | some ks =>
    rw [ed] at h1
    obtain ⟨a, xs, rfl, ha, nv, rr⟩ := V1.dict ed
    refine tE_bind R1 (h1.later K1) fun r2 t2 u H2 R2 K2 V2 h2 => ?_
    cases ek : r2.key? with
    | none => rw [ek] at h2; exact h2.elim
    | some kk =>
      rw [ek] at h2
      have hu2 := V2.key ek
      subst hu2
      have ha2 := K2.kp _ _ ha nv
      obtain ⟨q1, q2⟩ := (rr.st K2.st).val (k := kk)
      dsimp only at h2
      cases ev : valD ks kk with
      | none => rw [ev] at h2; exact h2.elim
      | some d =>
        rw [ev] at h2
        obtain ⟨v', e1, r'⟩ := q2 d ev
        refine ⟨a, v', rfl, by rw [← e1]; exact DGet.k ha2, EPost.val R2 (h2.later K2) r'⟩
theorem length_putD (ks : List (Key × D)) (k : Key) (v : D) : (putD ks k v).length ≤ ks.length + 1 := by
  unfold putD
  split <;> simp
theorem s_dset {i : Nat} {x : Str} {p tpos : Pos} (hu : X.A.units + 1 < cLine) (he : PEv X c W e f) (hk : PEv X c W k g) (hN : X.N[i]? = some x := by rfl) (hv : Vis X.env.scope x := by first | exact Or.inl rfl | exact Or.inr (Or.inl rfl) | exact Or.inr (Or.inr rfl))
    (hd : (x == ("__debug__" : Str)) = false := by decide) (hcd : (x == ("__classdict__" : Str)) = false := by decide)
    (hs : swapsWith e (some (.Subscript (.Name x p) k tpos)) pos.line X.env = pure false := by rfl) : PSv X c W (.Assign [.Subscript (.Name x p) k tpos] e pos) (dsetC i f g) := by
  refine ⟨ps_mono (ps_dput hu (pe_var hN hv hd hcd) hk.pe he.pe hs) ?_⟩
  rintro D σ H ⟨B, tp, env, ta, RS, h⟩
  refine on_of RS h fun r t v H1 R1 K1 V1 h1 => ?_
  split at h1
  · rename_i ks d q
    obtain ⟨a, xs, ea, hl, rr⟩ := R1.dicAt q
    refine ⟨_, ea, on_of R1 (h1.le (.refl _) K1.st) fun z t2 u H2 R2 K2 V2 h2 => ?_⟩
    cases ek : z.key? with
    | none => rw [ek] at h2; exact h2.elim
    | some kk =>
      rw [ek] at h2
      dsimp only at h2
      split at h2
      · rename_i hlim
        obtain rfl := V2.key ek
        obtain ⟨a', ys, ea', hl', r'⟩ := R2.dicAt q
        rw [ea] at ea'
        cases ea'
        refine ⟨a, _, rfl, DPut.k hl' (by rw [r'.length]; unfold LIM at hlim; rw [sizeLine_eq]; omega), ?_⟩
        exact h2 tp σ _ (.refl _) (K2.st.trans (stab_dk hl')) (R2.mutK q ea hl' (r'.put (Rep.st V1 K2.st)))
      · exact h2.elim
  · exact h1.elim
theorem cr_lenD : CallR X (.builtin "len") (fun xs H Q => ∃ (a : Addr) (kvs : List (Key × V)), xs = [.ref a] ∧ H a = some (.dK kvs) ∧ Q (.int kvs.length) H) := by
  intro pins s σ H xs us Q I r h
  obtain ⟨a, kvs, rfl, ha, q⟩ := h
  obtain rfl := Vals.ref1 r
  exact d_len I (.inl ha) fun t s' I' => ⟨.int kvs.length, H, I', (show RelV (V.int kvs.length) (Value.int kvs.length t) from ⟨t, rfl⟩), q⟩
theorem co_lenD {K : PySem.W.Frag} : CallOk K c (fun xs H Q => ∃ (a : Addr) (kvs : List (Key × V)), xs = [.ref a] ∧ H a = some (.dK kvs) ∧ Q (.int kvs.length) H) lenDS := by
  intro tp H0 H vs xs z Q nv hv e k
  unfold lenDS at e
  split at e
  · cases hv with
    | cons h1 h2 =>
      cases h2
      split at e
      · rename_i ks ed
        cases e
        obtain ⟨a, ys, rfl, ha, _, rr⟩ := h1.dict ed
        exact ⟨a, ys, rfl, ha, k _ H (Same.refl H) (by rw [rr.length]; exact Rep.int _)⟩
      · cases e
  · cases e
end
/-! ### {k: v for ..} -/
def dcompL (t : Tg) (cnd : Tv) (ke : Ev) (elt : Ev) : List D → SE → TapeO → List (Key × D) → Option (List (Key × D) × TapeO)
  | [], _, ta, acc => some (acc, ta)
  | d :: ds, env, ta, acc => match t.set d env with
    | none => none
    | some env1 => match cnd env1 ta with
      | some (.ok true, t1) => match ke env1 t1 with
        | some (.ok kk, t2) => match kk.key? with
          | some k => match elt env1 t2 with
            | some (.ok (.val y), t3) => dcompL t cnd ke elt ds env t3 (putD acc k y)
            | _ => none
          | none => none
        | _ => none
      | some (.ok false, t1) => dcompL t cnd ke elt ds env t1 acc
      | _ => none
def dcompE (it : Iv) (vs : List Nat) (t : Tg) (cnd : Tv) (ke elt : Ev) : Ev := fun env ta => match it env ta with
  | none => none
  | some (.error x, t1) => some (.error x, t1)
  | some (.ok ds, t1) => if ds.length < LIM then (dcompL t cnd ke elt ds (wipeE env vs) t1 []).map fun p => (.ok (.dic p.1), p.2) else none
theorem wipe_wipe {σ : L2.St} {vs : List Nat} : L2.wipe (L2.wipe σ vs) vs = L2.wipe σ vs := by
  have : ∀ (us ws : List Nat), (∀ j ∈ us, j ∈ ws) → L2.wipe (L2.wipe σ ws) us = L2.wipe σ ws := by
    intro us ws hw
    induction us with
    | nil => rfl
    | cons k us ih =>
      show (L2.wipe (L2.wipe σ ws) us).set k none = L2.wipe σ ws
      rw [ih fun j hj => hw j (List.mem_cons_of_mem _ hj)]
      have hk := hw k List.mem_cons_self
      clear ih hw
      induction ws with
      | nil => simp at hk
      | cons l ws ih2 =>
        show ((L2.wipe σ ws).set l none).set k none = (L2.wipe σ ws).set l none
        by_cases hm : k ∈ ws
        · by_cases hkl : k = l
          · subst hkl; rw [List.set_set]
          · rw [List.set_comm _ _ (Ne.symm hkl), ih2 hm]
        · have hkl : k = l := by
            rcases List.mem_cons.mp hk with z | z
            · exact z
            · exact absurd z hm
          subst hkl; rw [List.set_set]
  exact this vs vs fun j hj => hj
section
variable {K : PySem.W.Frag} {c : Ct} {W : WX} {it : Iv} {t : Tg} {cnd : Tv} {ke elt : Ev} {vs : List Nat}
theorem dcomp_of (hv : ∀ j ∈ t.slots, j ∈ vs) : ∀ σ H Q, tE K c W (dcompE it vs t cnd ke elt) σ H Q → tDc (tIt K c W false it) (t.g K) (tTt K c W0 cnd) (tE K c W0 ke) (tE K c W0 elt) vs σ H Q := by
  rintro σ H Q ⟨B, tp, env, ta, RS, h⟩
  refine ⟨B, tp, env, ta, RS, ?_⟩
  unfold dcompE at h
  cases q : it env ta with
  | none => rw [q] at h; exact h
  | some p =>
    obtain ⟨r, t0⟩ := p
    rw [q] at h
    cases r with
    | error x => exact h
    | ok ds =>
      dsimp only at h
      intro J H1 R1 K1 jw D0 hD
      by_cases hlim : ds.length < LIM
      · rw [if_pos hlim] at h
        cases ec : dcompL t cnd ke elt ds (wipeE env vs) t0 [] with
        | none => rw [ec] at h; exact h.elim
        | some fin =>
          rw [ec] at h
          have nvD : ¬ Vol c tp D0 := R1.vol hD
          have nD0 : H D0 = none := K1.nn _ hD
          have noD := RS.noOwn nD0
          have nBD := RS.noB nD0
          refine ⟨fun i m H' => m = ds.length - i ∧ i ≤ ds.length ∧ ∃ acc accD ta', H' D0 = some (.dK acc) ∧ RepsK K H' acc accD ∧ accD.length ≤ i ∧ RepS K c B tp σ H' env ta' ∧ Kp c tp H1 H' ∧
            dcompL t cnd ke elt (ds.drop i) (wipeE env vs) ta' accD = some fin,
            ⟨ds.length, by simp, Nat.zero_le _, [], [], t0, upd_same, .nil, Nat.le_refl _, R1.grow (Same.new hD), .same (Same.new hD), by rw [List.drop_zero]; exact ec⟩, ?_⟩
          rintro i m H2 ⟨rfl, hi, acc, accD, ta2, hacc, racc, hla, R2, K2, ed⟩
          obtain ⟨jgo, jstop⟩ := jw i H2 K2
          by_cases hlt : i < ds.length
          · have e1 : ds[i]? = some ds[i] := by simp [hlt]
            obtain ⟨go, yl⟩ := jgo ds[i] e1
            refine .inr ⟨go, fun H' => ∃ acc accD ta', H' D0 = some (.dK acc) ∧ RepsK K H' acc accD ∧ accD.length ≤ i + 1 ∧ RepS K c B tp σ H' env ta' ∧ Kp c tp H1 H' ∧
              dcompL t cnd ke elt (ds.drop (i + 1)) (wipeE env vs) ta' accD = some fin, fun H' q' => ⟨ds.length - (i + 1), by omega, rfl, hlt, q'⟩, fun x H3 y => ?_⟩
            obtain ⟨s3, r3⟩ := yl x H3 y
            have R3 := R2.grow s3
            have K3 : Kp c tp H1 H3 := K2.trans (.same s3)
            rw [List.drop_eq_getElem_cons hlt] at ed
            unfold dcompL at ed
            cases e2 : t.set ds[i] (wipeE env vs) with
            | none => rw [e2] at ed; cases ed
            | some env3 =>
              rw [e2] at ed
              dsimp only at ed
              obtain ⟨σ3, g1, g2, g3⟩ := tg_ok (R3.wipe vs) r3 e2
              refine g1 _ ⟨by rw [g3 vs hv]; exact wipe_wipe, ?_⟩
              refine ⟨B, tp, env3, ta2, g2, ?_⟩
              cases e3 : cnd env3 ta2 with
              | none => rw [e3] at ed; cases ed
              | some p =>
                obtain ⟨r, t4⟩ := p
                rw [e3] at ed
                cases r with
                | error x => cases ed
                | ok b =>
                  intro H4 R4 K4
                  have hD4 : H4 D0 = some (.dK acc) := K4.kp _ _ (s3 _ _ hacc) nvD
                  have K4' : Kp c tp H1 H4 := K3.trans K4
                  have R4' : RepS K c B tp σ H4 env t4 := R4.move R3 K4
                  cases b with
                  | false =>
                    rw [if_neg Bool.false_ne_true]
                    exact ⟨acc, accD, t4, hD4, (racc.st (.of_same s3)).st K4.st, Nat.le_succ_of_le hla, R4', K4', ed⟩
                  | true =>
                    rw [if_pos rfl]
                    dsimp only at ed
                    refine ⟨B, tp, env3, t4, R4, ?_⟩
                    cases ek : ke env3 t4 with
                    | none => rw [ek] at ed; cases ed
                    | some p =>
                      obtain ⟨r, tk⟩ := p
                      rw [ek] at ed
                      cases r with
                      | error x => cases ed
                      | ok zk =>
                        dsimp only at ed
                        intro vk Hk Rk Kk Vk
                        cases ekk : zk.key? with
                        | none => rw [ekk] at ed; cases ed
                        | some kk =>
                          rw [ekk] at ed
                          dsimp only at ed
                          have hvk := Vk.key ekk
                          have hDk : Hk D0 = some (.dK acc) := Kk.kp _ _ hD4 nvD
                          refine ⟨B, tp, env3, tk, Rk, ?_⟩
                          cases e5 : elt env3 tk with
                          | none => rw [e5] at ed; cases ed
                          | some p =>
                            obtain ⟨r, t5⟩ := p
                            rw [e5] at ed
                            cases r with
                            | error x => cases ed
                            | ok z =>
                              intro v H5 R5 K5 V5
                              cases z with
                              | val yd =>
                                dsimp only at ed
                                have hD5 : H5 D0 = some (.dK acc) := K5.kp _ _ hDk nvD
                                have R5' : RepS K c B tp σ H5 env t5 := (R5.move Rk K5).move R4' (Kk.trans K5)
                                have ra5 : RepsK K H5 acc accD := (((racc.st (.of_same s3)).st K4.st).st Kk.st).st K5.st
                                refine ⟨acc, kk, hvk, hD5, by rw [ra5.length, sizeLine_eq]; unfold LIM at hlim; omega, putK acc kk v, putD accD kk yd, t5, upd_same, ?_, by have := length_putD accD kk yd; omega, R5'.updK hD5 noD nBD, ((K4'.trans Kk).trans K5).updK hD5 hD, ed⟩
                                exact (ra5.put V5).st (stab_dk hD5)
                              | _ => cases ed
          · have e1 : ds.drop i = [] := List.drop_eq_nil_of_le (by omega)
            rw [e1] at ed
            cases ed
            exact .inl ⟨jstop (by omega), h _ H2 R2 (K1.trans K2) ⟨D0, acc, rfl, nD0, nvD, hacc, racc⟩⟩
      · rw [if_neg hlim] at h; exact h.elim
end
section
variable {X : Cx} {c : Ct} {W : WX} {kx elt tg iter : Expr} {ifs : List Expr} {scope : Scope} {own : List (Str × Nat)} {pos : Pos} {it : Iv} {t : Tg} {cnd : Tv} {fk fe : Ev}
/-- {k: v for tg in iter if ..} -/
theorem v_dcomp (hN : X.N.Nodup) (hi : PIv X c W false tg iter it) (own : List (Str × Nat)) (ok : blkC X.N X.env.scope scope own = true)
    (hg : ∀ (s : Shared) (H : Hp) (C : Addr) (cl : List (Str × Addr)) (fp : List Addr), PG (X.blk s H scope (compEnvC scope cl C X.env) fp) tg (t.g X.K))
    (ht : ∀ (s : Shared) (H : Hp) (C : Addr) (cl : List (Str × Addr)) (fp : List Addr), PCn (X.blk s H scope (compEnvC scope cl C X.env) fp) c ifs cnd)
    (hk : ∀ (s : Shared) (H : Hp) (C : Addr) (cl : List (Str × Addr)) (fp : List Addr), PEv (X.blk s H scope (compEnvC scope cl C X.env) fp) c W0 kx fk)
    (he : ∀ (s : Shared) (H : Hp) (C : Addr) (cl : List (Str × Addr)) (fp : List Addr), PEv (X.blk s H scope (compEnvC scope cl C X.env) fp) c W0 elt fe)
    (hv : ∀ j ∈ t.slots, j ∈ own.map (·.2) := by decide) (hc : X.calm = true := by rfl) (hs : ∀ x, foldedSetIterable iter X.env x = pure x := by exact fun _ => rfl) :
    PEv X c W (.DictComp kx elt [⟨tg, iter, ifs, 0⟩] scope pos) (dcompE it (own.map (·.2)) t cnd fk fe) :=
  ⟨pe_mono (pe_dc (tk := tE X.K c W0 fk) (tv := tE X.K c W0 fe) (tt := tTt X.K c W0 cnd) hc hN hi.pi (blkOk_by ok) hg (fun s H C cl fp => (ht s H C cl fp).pts) (fun s H C cl fp => (hk s H C cl fp).pe) (fun s H C cl fp => (he s H C cl fp).pe) hs) (dcomp_of hv)⟩
end
end MP

/-! MPu: sorted(d.items()), keys and values ints. -/
namespace L2
open PySem PySem.Spec PyProof.Rows L2.DX
abbrev entI (e : Int × Int) : Key × V := (Sum.inl e.1, V.int e.2)
theorem ents_of {P : Program} {w : World} : ∀ (ks : List (Int × Int)) {es : List DictEntry} {vs : List (Key × Value)}, KV (ks.map entI) vs → Pairs (mixKind P w) es vs → ∀ (j : Nat) (en : DictEntry), es[j]? = some en →
    ∃ (e : Int × Int) (t u : Tok), ks[j]? = some e ∧ en.key = .int e.1 t ∧ en.val = .int e.2 u
  | [], es, vs, h1, h2, j, en, he => by
    cases h1
    cases h2
    simp at he
  | k :: ks, es, vs, h1, h2, j, en, he => by
    cases h1 with
    | cons a1 a2 =>
      cases h2 with
      | cons b1 b2 b3 =>
        rename_i q vs' e0 es'
        cases j with
        | zero =>
          simp at he
          subst he
          obtain ⟨q1, q2⟩ := q
          obtain ⟨e1, e2⟩ := a1
          dsimp only at e1 e2 b1 b2
          subst e1
          obtain ⟨t, ht⟩ := Value.isInt_shape (k := k.1) (v := e0.key) b1
          obtain ⟨u, hu⟩ := (show ∃ u, q2 = Value.int k.2 u from e2)
          exact ⟨k, t, u, rfl, ht, by rw [b2, hu]⟩
        | succ j =>
          obtain ⟨e, t, u, x1, x2, x3⟩ := ents_of ks a2 b3 j en (by simpa using he)
          exact ⟨e, t, u, by simpa using x1, x2, x3⟩
section
variable {X : Cx}
def rItemsK : V → List V → Hp → VK → Prop := fun x xs H Q => ∃ (a : Addr) (kvs : List (Key × V)), x = .ref a ∧ xs = [] ∧ H a = some (.dK kvs) ∧ ∀ p, H p = none → Q (.ref p) (upd H p (itemsO p a))
theorem mt_itemsK : MtR X "dict.items" rItemsK := by
  intro pins s σ H x xs v us Q I rx rxs h
  obtain ⟨a, kvs, rfl, rfl, ha, q⟩ := h
  cases rx
  cases rxs
  obtain ⟨z, hd, xs', rel, o, es, ep, ho, hx, hdat, _⟩ := dk_of I.hok ha
  refine DT.callItems (es := es) (ep := ep) hd ⟨o, ho, hx, hdat⟩ ?_
  have hf : H s.heap.objs.size = none := I.hok.fresh (Nat.le_refl _)
  exact ⟨.ref s.heap.objs.size, upd H s.heap.objs.size (itemsO s.heap.objs.size a), I.laid (t' := s.toks) (fun b u e => Heap.get?_push_of_some _ e) (Nat.le_refl _) (itemsO_ok (Heap.get?_push_size _ rfl)), rfl, q _ hf⟩
def rSortItI : List V → Hp → VK → Prop := fun vs H Q => ∃ (p a : Addr) (ks : List (Int × Int)) (B : Int), vs = [.ref p] ∧ H p = some (itemsO p a) ∧ H a = some (.dK (ks.map entI)) ∧ ks.length < 64 ∧
  (∀ e ∈ ks, 0 ≤ e.1 ∧ e.1 < B ∧ 0 ≤ e.2 ∧ e.2 < B) ∧
  ((ks.map (·.1)).Nodup → ∀ (H' : Hp) (l : Addr) (zs : List (Addr × Int × Int)), (∀ b o, H b = some o → H' b = some o) → H l = none → (zs.map (·.2)).Perm ks → (zs.map (·.2)).Pairwise (fun e f => e.1 ≤ f.1) → H' l = some (.lst (zs.map fun z => V.ref z.1)) →
    (∀ z ∈ zs, H' z.1 = some (.tup [.int z.2.1, .int z.2.2])) → Q (.ref l) H')
theorem cr_sortedItemsI (hc : X.calm = true) : CallR X (.builtin "sorted") rSortItI := by
  intro pins s σ H xs us Q I r h
  obtain ⟨p, a, ks, B, rfl, hp, ha, h64, hb, q⟩ := h
  obtain rfl := Vals.ref1 r
  have view : s.heap.IsItemsView p a := (show ObjOk X.prog X.w H s.heap p (itemsO p a) from I.hok p _ hp).1
  obtain ⟨z, hd, vs, rel, o, es, ep, ho, hx, hdat, hes, hps, hnd⟩ := dk_of I.hok ha
  have l1 : (ks.map entI).length = vs.length := rel.length
  rw [List.length_map] at l1
  have l2 : es.size = vs.length := by rw [← Array.length_toList, hps.length]
  have knd : (ks.map (·.1)).Nodup := by
    have e := rel.keys
    rw [← e, List.map_map] at hnd
    have : (ks.map ((fun kv : Key × V => kv.1) ∘ entI)) = (ks.map (·.1)).map Sum.inl := by rw [List.map_map]; rfl
    rw [this] at hnd
    exact List.Pairwise.of_map Sum.inl (fun _ _ h e => h (by rw [e])) hnd
  have q := q knd
  have hh : X.A.handled = none := I.ok.hd hc
  refine DT.sortedI (es := es) (ep := ep) hh view ⟨o, ho, hx, hdat⟩ (by rw [sizeLine_eq]; omega) fun h' tk as hk hlt hl hG => ?_
  have lak : as.length = ks.length := by omega
  have nd : as.Nodup := List.Pairwise.imp (fun h => Nat.ne_of_lt h) hG.rise
  have pr : ∀ (j : Nat) (b : Addr), as[j]? = some b → ∃ (e : Int × Int) (t u : Tok), ks[j]? = some e ∧ h'.get? b = some { cls := .type "tuple", data := .seq #[Value.int e.1 t, Value.int e.2 u] } := by
    intro j b hj
    obtain ⟨en, he, hg⟩ := hG.pairs j b hj
    rw [← Array.getElem?_toList] at he
    obtain ⟨e, t, u, x1, x2, x3⟩ := ents_of ks rel hps j en he
    exact ⟨e, t, u, x1, by rw [hg, x2, x3]⟩
  have hob : (h'.push { cls := .type "list", data := .seq (as.map Value.ref).toArray }).get? h'.objs.size = some (seqObj "list" (as.map Value.ref).toArray 0) := Heap.get?_push_size _ rfl
  have kb : ∀ b o, s.heap.get? b = some o → (h'.push { cls := .type "list", data := .seq (as.map Value.ref).toArray }).get? b = some o := fun b o e => Heap.get?_push_of_some _ (hk b o e)
  have ne0 : ∀ b o, h'.get? b = some o → b ≠ h'.objs.size := fun b o e => Nat.ne_of_lt (Heap.lt_size e)
  generalize hh2 : h'.push { cls := .type "list", data := .seq (as.map Value.ref).toArray } = h2 at hob kb ⊢
  have ka : ∀ b o, h'.get? b = some o → h2.get? b = some o := fun b o e => by rw [← hh2]; exact Heap.get?_push_of_some _ e
  have ti : ∀ (j : Nat) (b : Addr), as[j]? = some b → ∃ e : Int × Int, ks[j]? = some e ∧ TS.TupInts h2 (.ref b) [e.1, e.2] := by
    intro j b hj
    obtain ⟨e, t, u, he, hg⟩ := pr j b hj
    exact ⟨e, he, b, _, rfl, ⟨_, ka _ _ hg, rfl, 0, rfl⟩, by
      show IntsAre [Value.int e.1 t, Value.int e.2 u] [e.1, e.2]
      exact .cons _ _ (.cons _ _ .nil)⟩
  have at_ : ∀ v ∈ as.map Value.ref, ∃ (j : Nat) (b : Addr) (e : Int × Int), v = .ref b ∧ as[j]? = some b ∧ ks[j]? = some e ∧ TS.TupInts h2 v [e.1, e.2] := by
    intro v hv'
    obtain ⟨b, hb, rfl⟩ := List.mem_map.mp hv'
    obtain ⟨j, hj⟩ := List.mem_iff_getElem?.mp hb
    obtain ⟨e, he, ht⟩ := ti j b hj
    exact ⟨j, b, e, rfl, hj, he, ht⟩
  refine TS.call_sort_tups (s := { s with heap := h2, toks := tk }) (d := 2) (B := B) hob (by rw [List.length_map]; omega) (by omega) (fun v hv => ?_) fun out o2 o3 => ?_
  · obtain ⟨j, b, e, rfl, hj, he, ht⟩ := at_ v hv
    refine ⟨_, ht, rfl, fun m hm => ?_⟩
    have hbe := hb e (List.mem_of_getElem? he)
    simp at hm
    rcases hm with rfl | rfl
    · exact ⟨hbe.1, hbe.2.1⟩
    · exact ⟨hbe.2.2.1, hbe.2.2.2⟩
  · show EP X pins σ Q (.ref h'.objs.size) { s with heap := sortedHeap h2 h'.objs.size (as.map Value.ref) out, toks := tk }
    obtain ⟨zs, pz, ez⟩ := perm_lift (fun z : Addr × Int × Int => Value.ref z.1) o2 (as.zip ks) (by
      have : ∀ (as : List Addr) (ks : List (Int × Int)), as.length = ks.length → (as.zip ks).map (fun z => Value.ref z.1) = as.map Value.ref := by
        intro as
        induction as with
        | nil => intro ks _; rfl
        | cons a as ih =>
          intro ks h
          cases ks with
          | nil => simp at h
          | cons k ks => simp at h ⊢; simpa using ih ks h
      exact this as ks lak)
    have idx : ∀ z ∈ zs, ∃ j : Nat, as[j]? = some z.1 ∧ ks[j]? = some z.2 := by
      intro z' hz'
      obtain ⟨j, hj⟩ := List.mem_iff_getElem?.mp (pz.mem_iff.mp hz')
      exact ⟨j, List.getElem?_zip_eq_some.mp hj⟩
    have hout : out.toList = zs.map fun z => Value.ref z.1 := ez.symm
    have hperm : (zs.map (·.2)).Perm ks := by
      have e := pz.map (·.2)
      have m2 : (as.zip ks).map (·.2) = ks := List.map_snd_zip (by rw [lak]; exact Nat.le_refl _)
      rw [m2] at e
      exact e
    have io : ∀ z ∈ zs, TS.intsOf h2 (.ref z.1) = [z.2.1, z.2.2] := by
      intro z' hz'
      obtain ⟨j, j1, j2⟩ := idx z' hz'
      obtain ⟨e, he, ht⟩ := ti j _ j1
      rw [ht.ints]
      rw [he] at j2
      cases j2
      rfl
    have hsort : (zs.map (·.2)).Pairwise (fun e f => e.1 ≤ f.1) := by
      rw [hout, List.pairwise_map] at o3
      rw [List.pairwise_map]
      refine List.Pairwise.imp_of_mem (fun {x y} hx hy h => ?_) o3
      rw [io x hx, io y hy] at h
      obtain ⟨j, _, j2⟩ := idx x hx
      obtain ⟨i, _, i2⟩ := idx y hy
      have b1 := hb _ (List.mem_of_getElem? j2)
      have b2 := hb _ (List.mem_of_getElem? i2)
      have h' : x.2.1 * B ^ 1 + (x.2.2 * B ^ 0 + 0) ≤ y.2.1 * B ^ 1 + (y.2.2 * B ^ 0 + 0) := h
      rw [Int.pow_succ, Int.pow_zero, Int.one_mul, Int.mul_one, Int.mul_one] at h'
      by_cases hle : x.2.1 ≤ y.2.1
      · exact hle
      · exfalso
        have h3 : y.2.1 + 1 ≤ x.2.1 := by omega
        have h4 : (y.2.1 + 1) * B ≤ x.2.1 * B := Int.mul_le_mul_of_nonneg_right h3 (by omega)
        rw [Int.add_mul, Int.one_mul] at h4
        omega
    have kF : ∀ b o, b ≠ h'.objs.size → h2.get? b = some o → (sortedHeap h2 h'.objs.size (as.map Value.ref) out).get? b = some o := fun b o hb e => (PyProof.Rows.sortedHeap_old hb (Heap.lt_size e)).trans e
    have kS : ∀ b o, s.heap.get? b = some o → (sortedHeap h2 h'.objs.size (as.map Value.ref) out).get? b = some o := fun b o e => kF b o (ne0 _ _ (hk b o e)) (kb b o e)
    obtain ⟨eF, heF⟩ := PyProof.Rows.sortedHeap_at (vs := as.map Value.ref) (out := out) hob
    have I1 : Inv X pins σ H { s with heap := sortedHeap h2 h'.objs.size (as.map Value.ref) out, toks := tk } := I.kept (t' := tk) kS
    have hn0 : H h'.objs.size = none := I.hok.fresh (Nat.le_of_lt hlt)
    have hlen : (zs.map fun z => V.ref z.1).length ≤ sizeLine := by
      have e := hperm.length_eq
      rw [List.length_map] at e
      rw [List.length_map, sizeLine_eq]
      omega
    have rv : Vals (zs.map fun z => V.ref z.1) out.toList := by
      rw [hout]
      exact vals_maps (fun z : Addr × Int × Int => V.ref z.1) (fun z => Value.ref z.1) zs fun _ _ => rfl
    have I2 : Inv X pins σ (upd H h'.objs.size (.lst (zs.map fun z => V.ref z.1))) { s with heap := sortedHeap h2 h'.objs.size (as.map Value.ref) out, toks := tk } :=
      I1.take (h' := sortedHeap h2 h'.objs.size (as.map Value.ref) out) (t' := tk) (fun b ob _ e => e) (I.fpOk (Nat.le_of_lt hlt) hn0) ⟨hlen, out.toList, eF, rv, heF⟩
    obtain ⟨H2, I3, g, qt⟩ := takeT (P := fun b vs => ∃ (j : Nat) (e : Int × Int), as[j]? = some b ∧ ks[j]? = some e ∧ vs = [.int e.1, .int e.2]) I as _ I2 nd fun b hb => by
      obtain ⟨j, hj⟩ := List.mem_iff_getElem?.mp hb
      obtain ⟨e, t, u, he, hg⟩ := pr j b hj
      have hbl : s.heap.objs.size ≤ b := Nat.le_of_lt (hG.above b hb)
      refine ⟨hbl, ?_, [.int e.1, .int e.2], ⟨j, e, hj, he, rfl⟩, fun H3 => ⟨(by rw [sizeLine_eq]; show 2 ≤ 16777216; omega), [Value.int e.1 t, Value.int e.2 u], .cons (show RelV (.int e.1) (Value.int e.1 t) from ⟨t, rfl⟩) (.cons (show RelV (.int e.2) (Value.int e.2 u) from ⟨u, rfl⟩) .nil), ⟨_, kF _ _ (ne0 _ _ hg) (ka _ _ hg), rfl, 0, rfl⟩⟩⟩
      rw [upd_ne (ne0 _ _ hg)]
      exact I.hok.fresh hbl
    have gr : ∀ b o, H b = some o → H2 b = some o := fun b o e => g b o (by rw [upd_ne (ne_of_none e hn0)]; exact e)
    refine ⟨.ref h'.objs.size, H2, I3, rfl, q H2 h'.objs.size zs gr hn0 hperm hsort (g _ _ upd_same) fun z' hz' => ?_⟩
    obtain ⟨i, i1, i2⟩ := idx z' hz'
    obtain ⟨vs, ⟨j, e, j1, j2, ev⟩, hH⟩ := qt z'.1 (List.mem_of_getElem? i1)
    have eij : i = j := (List.getElem?_inj (List.getElem?_eq_some_iff.mp i1).1 nd).mp (i1.trans j1.symm)
    subst eij
    have ee : e = z'.2 := Option.some.inj (j2.symm.trans i2)
    rw [ev, ee] at hH
    exact hH
end
end L2

namespace MP
open PySem PySem.Spec PyProof.Rows L2
def pairs? : List (Key × D) → Option (List (Int × Int))
  | [] => some []
  | (.inl i, .int v) :: r => (pairs? r).map fun q => (i, v) :: q
  | _ => none
theorem RepsK.pairs {K : PySem.W.Frag} {H : Hp} : ∀ {xs : List (Key × V)} {ks : List (Key × D)} {ps : List (Int × Int)}, RepsK K H xs ks → pairs? ks = some ps → xs = ps.map L2.entI
  | _, _, ps, .nil, e => by cases e; rfl
  | _, _, ps, .cons (k := k) (d := d) h t, e => by
    cases k with
    | inr x => cases e
    | inl i =>
      cases d with
      | int v =>
        unfold pairs? at e
        cases q : pairs? _ with
        | none => rw [q] at e; cases e
        | some qs =>
          rw [q] at e
          cases e
          cases h
          rw [List.map_cons, ← t.pairs q]
      | _ => cases e
def sortP (ks : List (Int × Int)) : List (Int × Int) := ks.mergeSort (fun a b => decide (a.1 ≤ b.1))
theorem sortP_perm (ks : List (Int × Int)) : (sortP ks).Perm ks := List.mergeSort_perm _ _
theorem sortP_sorted (ks : List (Int × Int)) : (sortP ks).Pairwise (fun e f => e.1 ≤ f.1) := by
  have := List.pairwise_mergeSort (le := fun (a b : Int × Int) => decide (a.1 ≤ b.1)) (fun a b c h1 h2 => by simp at *; omega) (fun a b => by simp; omega) ks
  exact this.imp fun h => by simpa using h
theorem nodup_inj : ∀ {l : List (Int × Int)} {a b : Int × Int}, (l.map (·.1)).Nodup → a ∈ l → b ∈ l → a.1 = b.1 → a = b
  | [], _, _, _, h, _, _ => by cases h
  | c :: l, a, b, nd, ha, hb, e => by
    rw [List.map_cons, List.nodup_cons] at nd
    rcases List.mem_cons.mp ha with ea | ha
    · rcases List.mem_cons.mp hb with eb | hb
      · rw [ea, eb]
      · exact (nd.1 (List.mem_map.mpr ⟨b, hb, by rw [← ea]; exact e.symm⟩)).elim
    · rcases List.mem_cons.mp hb with eb | hb
      · exact (nd.1 (List.mem_map.mpr ⟨a, ha, by rw [← eb]; exact e⟩)).elim
      · exact nodup_inj nd.2 ha hb e
theorem sortP_uniq {xs ys : List (Int × Int)} (p : xs.Perm ys) (h1 : xs.Pairwise (fun e f => e.1 ≤ f.1)) (h2 : ys.Pairwise (fun e f => e.1 ≤ f.1)) (nd : (ys.map (·.1)).Nodup) : xs = ys := by
  refine List.Perm.eq_of_pairwise (le := fun e f : Int × Int => e.1 ≤ f.1) (fun a b ha hb h h' => ?_) h1 h2 p
  have ha := p.mem_iff.mp ha
  have e := Int.le_antisymm h h'
  exact nodup_inj nd ha hb e
/-- sorted(d.items()) -/
def sortItE (f : Ev) : Ev := bindE f fun x => match x.dict? with
  | some ks => match pairs? ks with
    | some ps => if ps.length < 64 ∧ ps.all (fun e => decide (0 ≤ e.1) && decide (0 ≤ e.2)) = true then fun _ t => some (.ok (.own ((sortP ps).map fun e => .tup [.int e.1, .int e.2])), t) else fun _ _ => none
    | none => fun _ _ => none
  | none => fun _ _ => none
theorem bound_pairs : ∀ (ps : List (Int × Int)), ∃ B : Int, ∀ e ∈ ps, e.1 < B ∧ e.2 < B
  | [] => ⟨0, fun e h => by cases h⟩
  | p :: ps => by
    obtain ⟨B, h⟩ := bound_pairs ps
    refine ⟨B.toNat + p.1.toNat + p.2.toNat + 1, fun e he => ?_⟩
    rcases List.mem_cons.mp he with rfl | he
    · omega
    · have := h e he; omega
section
variable {X : Cx} {c : Ct} {W : WX} {o : Expr} {f : Ev} {pos : Pos}
theorem v_sortIt {apos cpos p : Pos} (hc : X.calm = true) (hm : X.mg "sorted" = none) (ho : PEv X c W o f) (hg : Gl X "sorted" := by rfl)
    (hbase : attributeBase o "items" X.env (eval o X.env) = eval o X.env := by rfl) (hline : (apos.endLine == cpos.line) = true := by rfl)
    (he : starEach [.Call (.Attribute o "items" apos) [] [] cpos] X.env = (false, eval (.Call (.Attribute o "items" apos) [] [] cpos) X.env) :: starEach [] X.env := by rfl) :
    PEv X c W (.Call (.Name "sorted" p) [.Call (.Attribute o "items" apos) [] [] cpos] [] pos) (sortItE f) := by
  refine ⟨pe_mono (pe_callB (L2.cr_sortedItemsI hc) hg hm (by decide +kernel) (pa_cons (pe_bm0 PySem.F.plainAttrs_dict PySem.F.slot_dict_items PySem.F.type_dict_items L2.mt_itemsK ho.pe hbase hline) pa_nil) (by decide) (by decide) he (by rfl)) ?_⟩
  rintro σ H Q ⟨B, tp, env, ta, RS, hh⟩
  refine tE_bind RS hh fun r t v H1 R1 K1 V1 h1 => ?_
  cases ed : r.dict? with
  | none => rw [ed] at h1; exact h1.elim
  | some ks =>
    rw [ed] at h1
    dsimp only at h1
    cases ep : pairs? ks with
    | none => rw [ep] at h1; exact h1.elim
    | some ps =>
      rw [ep] at h1
      dsimp only at h1
      split at h1
      · rename_i hok
        obtain ⟨a, xs, rfl, ha, nv, rr⟩ := V1.dict ed
        have hx := rr.pairs ep
        subst hx
        refine ⟨.inr (.inr (.inl ⟨rfl, .inl ⟨_, ha⟩⟩)), a, _, rfl, rfl, ha, fun p hp => ?_⟩
        obtain ⟨B', hB⟩ := bound_pairs ps
        refine ⟨p, a, ps, B', rfl, upd_same, by rw [upd_ne (ne_of_none ha hp)]; exact ha, hok.1, fun e he => ?_, fun nd H' l zs sm hl pm hs hz ht => ?_⟩
        · have q := List.all_eq_true.mp hok.2 e he
          simp only [Bool.and_eq_true, decide_eq_true_eq] at q
          exact ⟨q.1, (hB e he).1, q.2, (hB e he).2⟩
        · have sm2 : Same H1 H' := fun b o e => sm b o (by rw [upd_ne (ne_of_none e hp)]; exact e)
          have hl1 : H1 l = none := by
            cases q : H1 l with
            | none => rfl
            | some o =>
              have : upd H1 p (DX.itemsO p a) l = some o := by rw [upd_ne (ne_of_none q hp)]; exact q
              rw [hl] at this; cases this
          refine EPost.same R1 (h1.later K1) sm2 ⟨l, _, rfl, hl1, R1.vol hl1, hz, ?_⟩
          have eq := sortP_uniq (pm.trans (sortP_perm ps).symm) hs (sortP_sorted ps) (((sortP_perm ps).map (·.1)).nodup_iff.mpr nd)
          rw [← eq]
          clear eq pm hs hz
          induction zs with
          | nil => exact .nil
          | cons z zs ih =>
            refine .cons (Rep.tup (SqT.of (ht z List.mem_cons_self)) (.cons (.int _) (.cons (.int _) .nil))) (ih fun z' h' => ht z' (List.mem_cons_of_mem _ h'))
      · exact h1.elim
end
/-! ### is True, is False -/
def isBS : Sl → Sl → Option Sl
  | .val (.bl a), .val (.bl b) => some (.val (.bl (decide (a = b))))
  | _, _ => none
def isntBS : Sl → Sl → Option Sl
  | .val (.bl a), .val (.bl b) => some (.val (.bl (!decide (a = b))))
  | _, _ => none
section
variable {K : PySem.W.Frag} {c : Ct}
theorem ok_isB : OpOk K c (fun x y H Q => ∃ a b, x = .bl a ∧ y = .bl b ∧ Q (.bl (decide (a = b))) H) isBS := by
  intro tp H0 H1 H v u x y z Q nv hx hy e k
  unfold isBS at e
  split at e
  · cases e
    cases (show Rep K H v (.bl _) from hx)
    cases (show Rep K H u (.bl _) from hy)
    exact ⟨_, _, rfl, rfl, k _ H (Same.refl H) (Rep.bl _)⟩
  · cases e
theorem ok_isntB : OpOk K c (fun x y H Q => ∃ a b, x = .bl a ∧ y = .bl b ∧ Q (.bl (!decide (a = b))) H) isntBS := by
  intro tp H0 H1 H v u x y z Q nv hx hy e k
  unfold isntBS at e
  split at e
  · cases e
    cases (show Rep K H v (.bl _) from hx)
    cases (show Rep K H u (.bl _) from hy)
    exact ⟨_, _, rfl, rfl, k _ H (Same.refl H) (Rep.bl _)⟩
  · cases e
theorem bl_isB : ∀ x y z, isBS x y = some z → ∃ b, z = .val (.bl b) := fun x y z e => by
  unfold isBS at e
  split at e
  · cases e; exact ⟨_, rfl⟩
  · cases e
theorem bl_isntB : ∀ x y z, isntBS x y = some z → ∃ b, z = .val (.bl b) := fun x y z e => by
  unfold isntBS at e
  split at e
  · cases e; exact ⟨_, rfl⟩
  · cases e
end
end MP

/-! MPv: how the later constructs are reckoned. -/
namespace MP
open PySem PySem.Spec PyProof.Rows L2
section
variable {f g h : Ev} {t u : Tv} {fs : List Ev} {env env1 : SE} {ta t1 : TapeO} {i j n : Nat} {cs ds : Cs} {it : Iv} {tg : Tg} {x y : Sl} {e : Str} {b : Bool} {l : List D} {js vs : List Nat}
/-! slices -/
abbrev RP := Option (Except Str (Option Int) × TapeO)
@[simp] theorem noP_ap : noP env ta = some (.ok none, ta) := Eq.trans rfl rfl
def sPK (r : RE) : RP := kX r fun x t1 => (partOf x).map fun o => (.ok o, t1)
@[simp] theorem sPK_ok : sPK (some (.ok x, t1)) = (partOf x).map fun o => (.ok o, t1) := Eq.trans rfl rfl
@[simp] theorem someP_ap : someP f env ta = sPK (f env ta) := by
  unfold someP sPK
  rcases f env ta with _ | ⟨_ | _, _⟩ <;> rfl
@[simp] theorem partOf_int {k : Int} : partOf (.val (.int k)) = some (some k) := rfl
def slK2 (x : Sl) (lo : Option Int) (r : RP) : RE := kX r fun hi t1 => (slS x lo hi).map fun z => (.ok z, t1)
@[simp] theorem slK2_ok {lo hi : Option Int} : slK2 x lo (some (.ok hi, t1)) = (slS x lo hi).map fun z => (.ok z, t1) := Eq.trans rfl rfl
def slK1 (x : Sl) (q : Pv) (env : SE) (r : RP) : RE := kX r fun lo t1 => slK2 x lo (q env t1)
@[simp] theorem slK1_ok {q : Pv} {lo : Option Int} : slK1 x q env (some (.ok lo, t1)) = slK2 x lo (q env t1) := Eq.trans rfl rfl
def slK (p q : Pv) (env : SE) (r : RE) : RE := kX r fun x t1 => slK1 x q env (p env t1)
@[simp] theorem slK_ok {p q : Pv} : slK p q env (some (.ok x, t1)) = slK1 x q env (p env t1) := Eq.trans rfl rfl
@[simp] theorem slE_ap {p q : Pv} : slE f p q env ta = slK p q env (f env ta) := by
  unfold slE slK
  rw [bindE_ap]
  refine kX_ext fun x t1 => ?_
  unfold slK1
  (try dsimp only)
  rcases p env t1 with _ | ⟨_ | lo, t2⟩
  · rfl
  · rfl
  · show _ = slK2 x lo (q env t2)
    unfold slK2
    (try dsimp only)
    rcases q env t2 with _ | ⟨_ | _, _⟩ <;> rfl
@[simp] theorem slS_tup {lo hi : Option Int} : slS (.val (.tup l)) lo hi = some (.val (.tup (cutD l lo hi))) := rfl
@[simp] theorem slS_lst {lo hi : Option Int} : slS (.val (.lst l)) lo hi = some (.own (cutD l lo hi)) := rfl
@[simp] theorem slS_bor {lo hi : Option Int} : slS (.bor l) lo hi = some (.own (cutD l lo hi)) := rfl
@[simp] theorem slS_own {lo hi : Option Int} : slS (.own l) lo hi = some (.own (cutD l lo hi)) := rfl
/-! list(range), tuple(range) -/
abbrev RR := Option (Except Str (Int × Int) × TapeO)
def rgB (x : Sl) (t : TapeO) : RR := kO (intOf x) fun n => some (.ok (0, n), t)
@[simp] theorem rgB_int {k : Int} : rgB (.val (.int k)) ta = some (.ok (0, k), ta) := Eq.trans rfl rfl
def rg1K (r : RE) : RR := kX r rgB
@[simp] theorem rg1K_ok : rg1K (some (.ok x, t1)) = rgB x t1 := Eq.trans rfl rfl
@[simp] theorem rg1R_ap : rg1R f env ta = rg1K (f env ta) := by
  unfold rg1R rg1K
  rcases f env ta with _ | ⟨_ | r, _⟩
  · rfl
  · rfl
  · rcases r with _ | d | _ | _ | _ | _ | _ <;> first | rfl | (cases d <;> rfl)
def ofRgK (mk : List D → Sl) (r : RR) : RE := kX r fun p t1 => if rgOk p.1 p.2 = true then some (.ok (mk (rgL p.1 (p.2 - p.1).toNat)), t1) else none
@[simp] theorem ofRgK_ok {mk : List D → Sl} {a c : Int} : ofRgK mk (some (.ok (a, c), t1)) = if rgOk a c = true then some (.ok (mk (rgL a (c - a).toNat)), t1) else none := Eq.trans rfl rfl
@[simp] theorem ofRg_ap {mk : List D → Sl} {r : Rv} : ofRg mk r env ta = ofRgK mk (r env ta) := by
  unfold ofRg ofRgK
  rcases r env ta with _ | ⟨_ | ⟨_, _⟩, _⟩ <;> rfl
/-! pairs of new things -/
def parCK2 (i j : Nat) (env : SE) (s : Sl) (r : RE) : RC := kS r env fun q t1 => q.store?.map fun u => (.nx, (env.set i s).set j u, t1)
@[simp] theorem parCK2_ok {s : Sl} : parCK2 i j env s (some (.ok y, t1)) = y.store?.map fun u => (.nx, (env.set i s).set j u, t1) := Eq.trans rfl rfl
def parCK1 (i j : Nat) (g : Ev) (env : SE) (t1 : TapeO) (o : Option Sl) : RC := kO o fun s => parCK2 i j env s (g env t1)
@[simp] theorem parCK1_some {s : Sl} : parCK1 i j g env t1 (some s) = parCK2 i j env s (g env t1) := Eq.trans rfl rfl
def parCK (i j : Nat) (g : Ev) (env : SE) (r : RE) : RC := kS r env fun p t1 => parCK1 i j g env t1 p.store?
@[simp] theorem parCK_ok : parCK i j g env (some (.ok x, t1)) = parCK1 i j g env t1 x.store? := Eq.trans rfl rfl
@[simp] theorem parC_ap : parC i j f g env ta = parCK i j g env (f env ta) := by
  unfold parC parCK
  rw [onE_ap]
  refine kS_ext fun p t1 => ?_
  unfold parCK1
  cases p.store? with
  | none => rfl
  | some s =>
    show onE _ _ _ _ = parCK2 i j env s (g env t1)
    rw [onE_ap]
    rfl
/-! x.append(y.pop(k)) -/
def apB (i j : Nat) (ds es : List D) (env : SE) (t : TapeO) (o : Option Int) : RC := kO o fun k => if ds.length < LIM ∧ es.length ≤ LIM ∧ i ≠ j then kO (ixN es.length k) fun m => (es[m]?).map fun d => (.nx, (env.set j (.own (es.eraseIdx m))).set i (.own (ds ++ [d])), t) else none
@[simp] theorem apB_some {i j : Nat} {ds es : List D} {env : SE} {t : TapeO} {k : Int} : apB i j ds es env t (some k) = if ds.length < LIM ∧ es.length ≤ LIM ∧ i ≠ j then kO (ixN es.length k) fun m => (es[m]?).map fun d => (.nx, (env.set j (.own (es.eraseIdx m))).set i (.own (ds ++ [d])), t) else none := Eq.trans rfl rfl
def apK2 (i j : Nat) (ds es : List D) (env : SE) (r : RE) : RC := kS r env fun x t1 => apB i j ds es env t1 (intOf x)
@[simp] theorem apK2_ok {i j : Nat} {ds es : List D} : apK2 i j ds es env (some (.ok x, t1)) = apB i j ds es env t1 (intOf x) := Eq.trans rfl rfl
def apK1 (i j : Nat) (f : Ev) (env : SE) (ta : TapeO) (o p : Option (List D)) : RC := kO o fun ds => kO p fun es => apK2 i j ds es env (f env ta)
@[simp] theorem apK1_some {ds es : List D} : apK1 i j f env ta (some ds) (some es) = apK2 i j ds es env (f env ta) := Eq.trans rfl rfl
@[simp] theorem appPopC_ap : appPopC i j f env ta = apK1 i j f env ta (ownOf env[i]?) (ownOf env[j]?) := by
  unfold appPopC apK1
  rcases env[i]? with _ | s
  · rfl
  · rcases env[j]? with _ | q
    · cases s <;> rfl
    · cases s <;> cases q <;> first | rfl | skip
      show onE _ _ _ _ = kS _ _ _
      rw [onE_ap]
      refine kS_ext fun r t1 => ?_
      rcases r with _ | d | _ | _ | _ | _ | _ <;> first | rfl | (cases d <;> first | rfl | skip)
      show (if _ then _ else _) = apB _ _ _ _ _ _ (some _)
      unfold apB kO
      dsimp only
      split
      · cases ixN _ _ <;> rfl
      · rfl
/-! dicts -/
@[simp] theorem dnewE_ap : dnewE env ta = some (.ok (.dic []), ta) := Eq.trans rfl rfl
@[simp] theorem dict_dic {ks : List (Key × D)} : Sl.dict? (.dic ks) = some ks := rfl
@[simp] theorem dict_bdc {ks : List (Key × D)} : Sl.dict? (.bdc ks) = some ks := rfl
@[simp] theorem key_int {k : Int} : Sl.key? (.val (.int k)) = some (.inl k) := rfl
@[simp] theorem key_str {k : Str} : Sl.key? (.val (.str k)) = some (.inr k) := rfl
def dgB3 (ks : List (Key × D)) (k : Key) (t : TapeO) (o : Option D) : RE := kO o fun d => some (.ok (.val ((valD ks k).getD d)), t)
@[simp] theorem dgB3_some {ks : List (Key × D)} {k : Key} {d : D} : dgB3 ks k ta (some d) = some (.ok (.val ((valD ks k).getD d)), ta) := Eq.trans rfl rfl
def dgK3 (ks : List (Key × D)) (k : Key) (r : RE) : RE := kX r fun z t => dgB3 ks k t (valOf z)
@[simp] theorem dgK3_ok {ks : List (Key × D)} {k : Key} : dgK3 ks k (some (.ok x, t1)) = dgB3 ks k t1 (valOf x) := Eq.trans rfl rfl
def dgB2 (ks : List (Key × D)) (h : Ev) (env : SE) (t : TapeO) (o : Option Key) : RE := kO o fun k => dgK3 ks k (h env t)
@[simp] theorem dgB2_some {ks : List (Key × D)} {k : Key} : dgB2 ks h env ta (some k) = dgK3 ks k (h env ta) := Eq.trans rfl rfl
def dgK2 (ks : List (Key × D)) (h : Ev) (env : SE) (r : RE) : RE := kX r fun y t => dgB2 ks h env t y.key?
@[simp] theorem dgK2_ok {ks : List (Key × D)} : dgK2 ks h env (some (.ok x, t1)) = dgB2 ks h env t1 x.key? := Eq.trans rfl rfl
def dgB1 (g h : Ev) (env : SE) (t : TapeO) (o : Option (List (Key × D))) : RE := kO o fun ks => dgK2 ks h env (g env t)
@[simp] theorem dgB1_some {ks : List (Key × D)} : dgB1 g h env ta (some ks) = dgK2 ks h env (g env ta) := Eq.trans rfl rfl
def dgK1 (g h : Ev) (env : SE) (r : RE) : RE := kX r fun y t => dgB1 g h env t y.dict?
@[simp] theorem dgK1_ok : dgK1 g h env (some (.ok x, t1)) = dgB1 g h env t1 x.dict? := Eq.trans rfl rfl
@[simp] theorem dgetE_ap : dgetE f g h env ta = dgK1 g h env (f env ta) := by
  unfold dgetE dgK1
  rw [bindE_ap]
  refine kX_ext fun x t1 => ?_
  unfold dgB1
  cases x.dict? with
  | none => rfl
  | some ks =>
    show bindE _ _ _ _ = dgK2 _ _ _ _
    rw [bindE_ap]
    refine kX_ext fun y t2 => ?_
    unfold dgB2
    cases y.key? with
    | none => rfl
    | some k =>
      show bindE _ _ _ _ = dgK3 _ _ _
      rw [bindE_ap]
      refine kX_ext fun z t3 => ?_
      cases z <;> rfl
def dsB2 (i : Nat) (env : SE) (ks : List (Key × D)) (d : D) (t : TapeO) (o : Option Key) : RC := kO o fun k => if ks.length < LIM then some (.nx, env.set i (.dic (putD ks k d)), t) else none
@[simp] theorem dsB2_some {ks : List (Key × D)} {d : D} {k : Key} : dsB2 i env ks d ta (some k) = if ks.length < LIM then some (.nx, env.set i (.dic (putD ks k d)), ta) else none := Eq.trans rfl rfl
def dsK2 (i : Nat) (env : SE) (ks : List (Key × D)) (d : D) (r : RE) : RC := kS r env fun q t => dsB2 i env ks d t q.key?
@[simp] theorem dsK2_ok {ks : List (Key × D)} {d : D} : dsK2 i env ks d (some (.ok x, t1)) = dsB2 i env ks d t1 x.key? := Eq.trans rfl rfl
def dicOf : Option Sl → Option (List (Key × D))
  | some (.dic ks) => some ks
  | _ => none
@[simp] theorem dicOf_dic {ks : List (Key × D)} : dicOf (some (.dic ks)) = some ks := rfl
def dsB1 (i : Nat) (g : Ev) (env : SE) (t : TapeO) (o : Option (List (Key × D))) (p : Option D) : RC := kO o fun ks => kO p fun d => dsK2 i env ks d (g env t)
@[simp] theorem dsB1_some {ks : List (Key × D)} {d : D} : dsB1 i g env ta (some ks) (some d) = dsK2 i env ks d (g env ta) := Eq.trans rfl rfl
def dsK1 (i : Nat) (g : Ev) (env : SE) (r : RE) : RC := kS r env fun x t => dsB1 i g env t (dicOf env[i]?) (valOf x)
@[simp] theorem dsK1_ok : dsK1 i g env (some (.ok x, t1)) = dsB1 i g env t1 (dicOf env[i]?) (valOf x) := Eq.trans rfl rfl
@[simp] theorem dsetC_ap : dsetC i f g env ta = dsK1 i g env (f env ta) := by
  unfold dsetC dsK1
  rw [onE_ap]
  refine kS_ext fun r t1 => ?_
  rcases env[i]? with _ | s
  · rfl
  · cases s <;> first | rfl | skip
    cases r <;> first | rfl | skip
    show onE _ _ _ _ = dsK2 _ _ _ _ _
    rw [onE_ap]
    refine kS_ext fun q t2 => ?_
    unfold dsB2
    cases q.key? <;> rfl
@[simp] theorem lenDS_one : lenDS [x] = x.dict?.map fun ks => .val (.int (ks.length : Int)) := by
  unfold lenDS
  dsimp only
  cases h : x.dict? <;> simp [h]
def siP (ps : List (Int × Int)) (t : TapeO) : RE := if ps.length < 64 ∧ ps.all (fun e => decide (0 ≤ e.1) && decide (0 ≤ e.2)) = true then some (.ok (.own ((sortP ps).map fun e => .tup [.int e.1, .int e.2])), t) else none
def siB (t : TapeO) (o : Option (List (Key × D))) : RE := kO o fun ks => kO (pairs? ks) fun ps => siP ps t
@[simp] theorem siB_some {ks : List (Key × D)} : siB ta (some ks) = kO (pairs? ks) fun ps => siP ps ta := Eq.trans rfl rfl
def siK (r : RE) : RE := kX r fun x t => siB t x.dict?
@[simp] theorem siK_ok : siK (some (.ok x, t1)) = siB t1 x.dict? := Eq.trans rfl rfl
@[simp] theorem sortItE_ap : sortItE f env ta = siK (f env ta) := by
  unfold sortItE siK
  rw [bindE_ap]
  refine kX_ext fun x t1 => ?_
  unfold siB
  cases x.dict? with
  | none => rfl
  | some ks =>
    dsimp only [kO]
    cases pairs? ks with
    | none => rfl
    | some ps =>
      dsimp only
      unfold siP
      split <;> rfl
/-! {k: v for ..} -/
def dcK2 (tg : Tg) (t : Tv) (ke f : Ev) (l : List D) (env : SE) (acc : List (Key × D)) (k : Key) (r : RE) : Option (List (Key × D) × TapeO) := kC r fun y t2 => dcompL tg t ke f l env t2 (putD acc k y)
@[simp] theorem dcK2_ok {ke : Ev} {acc : List (Key × D)} {k : Key} {d : D} : dcK2 tg t ke f l env acc k (some (.ok (.val d), t1)) = dcompL tg t ke f l env t1 (putD acc k d) := Eq.trans rfl rfl
def dcB (tg : Tg) (t : Tv) (ke f : Ev) (l : List D) (env env1 : SE) (acc : List (Key × D)) (ta : TapeO) (o : Option Key) : Option (List (Key × D) × TapeO) := kO o fun k => dcK2 tg t ke f l env acc k (f env1 ta)
@[simp] theorem dcB_some {ke : Ev} {acc : List (Key × D)} {k : Key} : dcB tg t ke f l env env1 acc ta (some k) = dcK2 tg t ke f l env acc k (f env1 ta) := Eq.trans rfl rfl
def kE {β : Type} (r : RE) (k : Sl → TapeO → Option β) : Option β := match r with
  | some (.ok x, t) => k x t
  | _ => none
def dcK1 (tg : Tg) (t : Tv) (ke f : Ev) (l : List D) (env env1 : SE) (acc : List (Key × D)) (r : RE) : Option (List (Key × D) × TapeO) := kE r fun x t1 => dcB tg t ke f l env env1 acc t1 x.key?
@[simp] theorem dcK1_ok {ke : Ev} {acc : List (Key × D)} : dcK1 tg t ke f l env env1 acc (some (.ok x, t1)) = dcB tg t ke f l env env1 acc t1 x.key? := Eq.trans rfl rfl
def dcK0 (tg : Tg) (t : Tv) (ke f : Ev) (l : List D) (env env1 : SE) (acc : List (Key × D)) (r : RB) : Option (List (Key × D) × TapeO) := kD r fun b t1 => if b = true then dcK1 tg t ke f l env env1 acc (ke env1 t1) else dcompL tg t ke f l env t1 acc
@[simp] theorem dcK0_ok {ke : Ev} {acc : List (Key × D)} : dcK0 tg t ke f l env env1 acc (some (.ok b, t1)) = if b = true then dcK1 tg t ke f l env env1 acc (ke env1 t1) else dcompL tg t ke f l env t1 acc := Eq.trans rfl rfl
def dcK (tg : Tg) (t : Tv) (ke f : Ev) (l : List D) (env : SE) (acc : List (Key × D)) (ta : TapeO) (o : Option SE) : Option (List (Key × D) × TapeO) := kO o fun env1 => dcK0 tg t ke f l env env1 acc (t env1 ta)
@[simp] theorem dcK_some {ke : Ev} {acc : List (Key × D)} : dcK tg t ke f l env acc ta (some env1) = dcK0 tg t ke f l env env1 acc (t env1 ta) := Eq.trans rfl rfl
@[simp] theorem dcompL_nil {ke : Ev} {acc : List (Key × D)} : dcompL tg t ke f [] env ta acc = some (acc, ta) := Eq.trans rfl rfl
theorem dcompL_cons {ke : Ev} {acc : List (Key × D)} {d : D} : dcompL tg t ke f (d :: l) env ta acc = dcK tg t ke f l env acc ta (tg.set d env) := by
  rw [dcompL]
  rcases tg.set d env with _ | env1
  · rfl
  · show _ = dcK0 tg t ke f l env env1 acc (t env1 ta)
    unfold dcK0
    (try dsimp only)
    rcases t env1 ta with _ | ⟨_ | b, t1⟩
    · rfl
    · rfl
    · cases b
      · rfl
      · show _ = dcK1 tg t ke f l env env1 acc (ke env1 t1)
        unfold dcK1
        (try dsimp only)
        rcases ke env1 t1 with _ | ⟨_ | x, t2⟩
        · rfl
        · rfl
        · show _ = dcB tg t ke f l env env1 acc t2 x.key?
          unfold dcB
          (try dsimp only)
          cases x.key? with
          | none => rfl
          | some k =>
            show _ = dcK2 tg t ke f l env acc k (f env1 t2)
            unfold dcK2
            (try dsimp only)
            rcases f env1 t2 with _ | ⟨_ | y, t3⟩
            · rfl
            · rfl
            · cases y <;> rfl
def dcompK (vs : List Nat) (tg : Tg) (t : Tv) (ke f : Ev) (env : SE) (r : RD) : RE := kX r fun l t1 => if l.length < LIM then (dcompL tg t ke f l (wipeE env vs) t1 []).map fun p => (.ok (.dic p.1), p.2) else none
@[simp] theorem dcompK_ok {ke : Ev} : dcompK vs tg t ke f env (some (.ok l, t1)) = if l.length < LIM then (dcompL tg t ke f l (wipeE env vs) t1 []).map fun p => (.ok (.dic p.1), p.2) else none := Eq.trans rfl rfl
@[simp] theorem dcompE_ap {ke : Ev} : dcompE it vs tg t ke f env ta = dcompK vs tg t ke f env (it env ta) := by
  unfold dcompE dcompK
  rcases it env ta with _ | ⟨_ | _, _⟩ <;> rfl
/-! targets with tuples in them -/
@[simp] theorem set_pat {ps : List Pt} : Tg.set (.pat ps) (.tup l) env = setPats ps l env := rfl
@[simp] theorem setPats_nil : setPats [] [] env = some env := rfl
@[simp] theorem setPats_cons {p : Pt} {ps : List Pt} {d : D} : setPats (p :: ps) (d :: l) env = (p.set d env).bind (setPats ps l) := rfl
@[simp] theorem setP_nm {d : D} : Pt.set (.nm j) d env = some (env.set j (.val d)) := rfl
@[simp] theorem setP_tu : Pt.set (.tu js) (.tup l) env = if l.length = js.length then some (setAll js l env) else none := rfl
def unpTB (tg : Tg) (env : SE) (t : TapeO) (o : Option D) : RC := kO o fun d => (tg.set d env).map fun e => (.nx, e, t)
@[simp] theorem unpTB_some {d : D} : unpTB tg env ta (some d) = (tg.set d env).map fun e => (.nx, e, ta) := Eq.trans rfl rfl
def unpTK (tg : Tg) (env : SE) (r : RE) : RC := kS r env fun x t => unpTB tg env t (valOf x)
@[simp] theorem unpTK_ok : unpTK tg env (some (.ok x, t1)) = unpTB tg env t1 (valOf x) := Eq.trans rfl rfl
@[simp] theorem unpTC_ap : unpTC tg f env ta = unpTK tg env (f env ta) := by
  unfold unpTC unpTK
  rw [onE_ap]
  refine kS_ext fun r t1 => ?_
  cases r <;> rfl
/-! x[::-1] -/
@[simp] theorem revS_tup : revS (.val (.tup l)) = some (.val (.tup l.reverse)) := rfl
@[simp] theorem revS_lst : revS (.val (.lst l)) = some (.own l.reverse) := rfl
/-! operations -/
theorem sum_ints (l : List Int) : sumAS [.val (.tup (l.map D.int))] = some (.val (.int l.sum)) := by
  unfold sumAS
  simp [ints?_map]
theorem sum_bor (l : List Int) : sumAS [.bor (l.map D.int)] = some (.val (.int l.sum)) := by
  unfold sumAS
  simp [ints?_map]
theorem sum_own (l : List Int) : sumAS [.own (l.map D.int)] = some (.val (.int l.sum)) := by
  unfold sumAS
  simp [ints?_map]
theorem zip_bor (l m : List D) : zipS false [.bor l, .bor m] = some (zipD l m) := rfl
theorem zip_tup (b : Bool) (l m : List D) : zipS b [.val (.tup l), .val (.tup m)] = some (zipD l m) := by cases b <;> rfl
theorem enum_tup (b : Bool) (l : List D) : enumS b [.val (.tup l)] = some (enumD l) := by cases b <;> rfl
end
end MP

/-! MPw: what the laws draw: _law_some, _law_order, _law_moved. -/
namespace MP
open PySem
theorem rgL_range'' (lo : Int) (n : Nat) : rgL lo n = (List.range' 0 n).map fun i => D.int (lo + (i : Nat)) := by
  unfold rgL; rw [List.range_eq_range']
theorem small62_of' {i : Int} (h : 0 ≤ i) (h2 : i < 1000000) : small62 i = true := by unfold small62; simp; omega
theorem rg1_ok' {j : Int} (h : 0 ≤ j) (h2 : j < 1000000) : rg1S [.val (.int j)] = some ((List.range' 0 j.toNat).map fun i => D.int (i : Nat)) := by
  unfold rg1S
  dsimp only
  rw [if_pos (small62_of' h h2), rgL_range'']
  simp
theorem take_next {n : Int} (h1 : 1 ≤ n) (h2 : n < 2 ^ 62) {t : Tape} (T : TOk t) : ∃ (a : Int) (t' : Tape), 0 ≤ a ∧ a < n ∧ TOk t' ∧ takeF [.tape, .val (.int n)] (some t) = some (.ok (.val (.int a)), some t') :=
  ⟨takeV t n, takeT t n, take_nn T h1 h2, take_lt T h1 h2, take_tok T h1 h2, take_eq T h1 h2⟩
def someC : Cs := (retC (compE (argI rg1S [(varE 2)]) [3] (.one 3) yesT (callF takeF [(varE 0), (varE 1)])))
def someF : Fn := defF 4 someC
theorem some_comp {n : Int} (h1 : 1 ≤ n) (h2 : n < 2 ^ 62) (m0 z : Sl) : ∀ (m j : Nat) (t : Tape), TOk t → ∃ (l : List Int) (t' : Tape), l.length = m ∧ (∀ x ∈ l, 0 ≤ x ∧ x < n) ∧ TOk t' ∧
    compL (.one 3) yesT (callF takeF [(varE 0), (varE 1)]) ((List.range' j m).map fun i => D.int (i : Nat)) [.tape, .val (.int n), m0, z] (some t) = some (l.map D.int, some t')
  | 0, j, t, T => ⟨[], t, rfl, (fun x h => by cases h), T, rfl⟩
  | m + 1, j, t, T => by
    obtain ⟨a, t1, a0, a1, T1, e1⟩ := take_next h1 h2 T
    obtain ⟨l, t2, hl, hx, T2, e2⟩ := some_comp h1 h2 m0 z m (j + 1) t1 T1
    refine ⟨a :: l, t2, by simp [hl], fun x h => ?_, T2, ?_⟩
    · rcases List.mem_cons.mp h with rfl | h
      · exact ⟨a0, a1⟩
      · exact hx x h
    · rw [List.range'_succ, List.map_cons, compL_cons]
      simp [e1, e2]
theorem some_ok {n : Int} (h1 : 1 ≤ n) (h2 : n < 2 ^ 62) {m : Int} (m0 : 0 ≤ m) (m1 : m < 1000) {t : Tape} (T : TOk t) : ∃ (l : List Int) (t' : Tape), (l.length : Int) = m ∧ (∀ x ∈ l, 0 ≤ x ∧ x < n) ∧ TOk t' ∧
    someF [.tape, .val (.int n), .val (.int m)] (some t) = some (.ok (.own (l.map D.int)), some t') := by
  obtain ⟨l, t', hl, hx, T', e⟩ := some_comp h1 h2 (.val (.int m)) .un m.toNat 0 t T
  refine ⟨l, t', by omega, hx, T', ?_⟩
  have rg := rg1_ok' m0 (show m < 1000000 by omega)
  have hL : m.toNat < LIM := by
    have : LIM = 16777216 := rfl
    omega
  unfold someF someC
  rw [defF_ap]
  simp [rg, hL, e]
/-! ### an order -/
theorem canLay_ints' : ∀ l : List Int, PyData.canLayAll0 (pys (l.map D.int)) = true
  | [] => rfl
  | n :: l => by simp [pys, D.py, PyData.canLayAll0, PyData.canLay0, canLay_ints' l]
theorem depth_ints' : ∀ l : List Int, PyData.depthAll (pys (l.map D.int)) = 0
  | [] => rfl
  | n :: l => by simp [pys, D.py, PyData.depthAll, PyData.depth, depth_ints' l]
theorem ne_bor_nil (l : List Int) : neS (.bor (l.map D.int)) (.own []) = some (.val (.bl (!decide (l = [])))) := by
  unfold neS eqC
  cases l with
  | nil => simp [Sl.dat?, D.py, pys, SeqAt.shaped, PyData.canLay0, PyData.canLayAll0, PyData.depth, PyData.depthAll, PyData.eqv, PyData.eqvAll]
  | cons n l => simp [Sl.dat?, D.py, pys, SeqAt.shaped, PyData.canLay0, PyData.canLayAll0, PyData.depth, PyData.depthAll, PyData.eqv, PyData.eqvAll, canLay_ints', depth_ints']
def orderC : Cs := (seqC (parC 2 3 (ofRg .own (rg1R (varE 1))) (lstE []))
  (seqC (whileC (ofE (binE neS (varE 2) (lstE []))) (appPopC 3 2 (callF takeF [(varE 0), (callE lenS [(varE 2)])])) 100000)
  (retC (callE tupleS [(varE 3)]))))
def orderF : Fn := defF 4 orderC
theorem perm_erase (l : List Int) (k : Nat) (h : k < l.length) : (l[k] :: l.eraseIdx k).Perm l := by
  induction l generalizing k with
  | nil => simp at h
  | cons a l ih =>
    cases k with
    | zero => simp
    | succ k =>
      simp only [List.length_cons, Nat.add_lt_add_iff_right] at h
      simp only [List.getElem_cons_succ, List.eraseIdx_cons_succ]
      exact (List.Perm.swap _ _ _).trans ((ih k h).cons a)
theorem map_erase {α β : Type} (f : α → β) : ∀ (l : List α) (k : Nat), (l.eraseIdx k).map f = (l.map f).eraseIdx k
  | [], _ => rfl
  | a :: l, 0 => rfl
  | a :: l, k + 1 => by
    rw [List.eraseIdx_cons_succ, List.map_cons, List.map_cons, List.eraseIdx_cons_succ, map_erase f l k]
theorem order_loop (n : Sl) : ∀ (fuel : Nat) (left found : List Int) (t : Tape), TOk t → left.length < fuel → left.length + found.length < 1000 → ∃ (ord : List Int) (t' : Tape), ord.Perm (found ++ left) ∧ TOk t' ∧
    whileC (ofE (binE neS (varE 2) (lstE []))) (appPopC 3 2 (callF takeF [(varE 0), (callE lenS [(varE 2)])])) fuel [.tape, n, .own (left.map D.int), .own (found.map D.int)] (some t) = some (.nx, [.tape, n, .own [], .own (ord.map D.int)], some t')
  | 0, left, found, t, T, h, _ => by omega
  | fuel + 1, left, found, t, T, h, hb => by
    by_cases hz : left = []
    · subst hz
      refine ⟨found, t, by simp, T, ?_⟩
      have e := ne_bor_nil []
      simp at e
      rw [while_ap]
      simp [e]
    · have hlen : 1 ≤ left.length := by
        cases left with
        | nil => exact absurd rfl hz
        | cons _ _ => simp
      obtain ⟨a, t1, a0, a1, T1, e1⟩ := take_next (n := (left.length : Int)) (by omega) (by omega) T
      have ha : a.toNat < left.length := by omega
      obtain ⟨ord, t2, hp, T2, e2⟩ := order_loop n fuel (left.eraseIdx a.toNat) (found ++ [left[a.toNat]]) t1 T1 (by rw [List.length_eraseIdx_of_lt ha]; omega) (by rw [List.length_eraseIdx_of_lt ha]; simp; omega)
      refine ⟨ord, t2, hp.trans ?_, T2, ?_⟩
      · rw [List.append_assoc]
        exact (perm_erase left a.toNat ha).append_left found
      · have e := ne_bor_nil left
        have hx : L2.ixN left.length a = some a.toNat := by unfold L2.ixN; rw [if_pos a0, if_pos (by omega)]
        have hL1 : found.length < LIM := by
          have : LIM = 16777216 := rfl
          omega
        have hL2 : left.length ≤ LIM := by
          have : LIM = 16777216 := rfl
          omega
        rw [List.map_append, List.map_cons, List.map_nil] at e2
        have ei : (left.eraseIdx a.toNat).map D.int = (left.map D.int).eraseIdx a.toNat := by
          exact map_erase _ _ _
        rw [ei] at e2
        rw [while_ap]
        simp [e, hz, lenS, e1, hx, hL1, hL2, ha, e2]
theorem order_ok {n : Int} (h1 : 0 ≤ n) (h2 : n < 500) {t : Tape} (T : TOk t) : ∃ (ord : List Int) (t' : Tape), ord.Perm ((List.range' 0 n.toNat).map fun i => (i : Nat)) ∧ TOk t' ∧
    orderF [.tape, .val (.int n)] (some t) = some (.ok (.val (.tup (ord.map D.int))), some t') := by
  obtain ⟨ord, t', hp, T', e⟩ := order_loop (.val (.int n)) 100000 ((List.range' 0 n.toNat).map fun i => ((i : Nat) : Int)) [] t T (by simp; omega) (by simp; omega)
  refine ⟨ord, t', by simpa using hp, T', ?_⟩
  have hr : rgOk 0 n = true := by
    unfold rgOk small62
    have : LIM = 16777216 := rfl
    simp
    omega
  have er : rgL 0 (n - 0).toNat = ((List.range' 0 n.toNat).map fun i => ((i : Nat) : Int)).map D.int := by
    rw [rgL_range'', List.map_map, Int.sub_zero]
    refine List.map_congr_left fun i _ => ?_
    simp
  rw [Int.sub_zero] at er
  unfold orderF orderC
  rw [defF_ap]
  simp at e er
  simp [hr, er, e, tupleS]
/-! ### moved -/
def movedC : Cs := (retC (callE tupleS [(compE (seqI (varE 1)) [2] (.one 2) yesT (binE ixS (varE 0) (varE 2)))]))
def movedF : Fn := defF 3 movedC
theorem moved_comp (row : List D) (o z : Sl) (ta : TapeO) : ∀ (ord : List Int), (∀ i ∈ ord, 0 ≤ i ∧ i < row.length) → compL (.one 2) yesT (binE ixS (varE 0) (varE 2)) (ord.map D.int) [.val (.tup row), o, z] ta = some (ord.map fun i => row.getD i.toNat .non, ta)
  | [], _ => rfl
  | i :: ord, h => by
    have ih := moved_comp row o z ta ord fun j hj => h j (List.mem_cons_of_mem _ hj)
    obtain ⟨h0, h1⟩ := h i List.mem_cons_self
    have hx : ixS (.val (.tup row)) (.val (.int i)) = some (.val (row.getD i.toNat .non)) := ix_at rfl h0 (by rw [List.getD_eq_getElem?_getD, List.getElem?_eq_getElem (by omega)]; rfl)
    rw [List.map_cons, compL_cons]
    simp at ih hx
    simp [hx, ih]
theorem moved_ok (row : List D) (ord : List Int) (ta : TapeO) (h : ∀ i ∈ ord, 0 ≤ i ∧ i < row.length) (hl : ord.length < 1000) : movedF [.val (.tup row), .val (.tup (ord.map D.int))] ta = some (.ok (.val (.tup (ord.map fun i => row.getD i.toNat .non))), ta) := by
  have e := moved_comp row (.val (.tup (ord.map D.int))) .un ta ord h
  have hL : ord.length < LIM := by
    have : LIM = 16777216 := rfl
    omega
  unfold movedF movedC
  rw [defF_ap]
  simp at e
  simp [hL, e, tupleS]
/-- an order of a row is as long as the row -/
theorem ord_mem {ord : List Int} {n : Nat} (h : ord.Perm ((List.range' 0 n).map fun i => (i : Nat))) : ∀ i ∈ ord, 0 ≤ i ∧ i < n := fun i hi => by
  have := h.mem_iff.mp hi
  obtain ⟨j, hj, rfl⟩ := List.mem_map.mp this
  rw [List.mem_range'_1] at hj
  omega
theorem range_getD {α : Type} (d : α) : ∀ (l : List α) (k : Nat), ((List.range' k l.length).map fun i => l.getD (i - k) d) = l
  | [], _ => rfl
  | a :: l, k => by
    rw [List.length_cons, List.range'_succ, List.map_cons, Nat.sub_self]
    show a :: _ = a :: l
    congr 1
    conv => rhs; rw [← range_getD d l (k + 1)]
    refine List.map_congr_left fun i hi => ?_
    rw [List.mem_range'_1] at hi
    rw [show i - k = (i - (k + 1)) + 1 by omega]
    rfl
theorem ord_perm {α : Type} (d : α) {ord : List Int} (l : List α) (h : ord.Perm ((List.range' 0 l.length).map fun i => (i : Nat))) : (ord.map fun i => l.getD i.toNat d).Perm l := by
  have h2 := h.map fun i : Int => l.getD i.toNat d
  rw [List.map_map] at h2
  refine h2.trans (List.Perm.of_eq ?_)
  conv => rhs; rw [← range_getD d l 0]
  refine List.map_congr_left fun i _ => ?_
  simp
theorem perm_sum {l m : List Int} (h : l.Perm m) : l.sum = m.sum := by
  induction h with
  | nil => rfl
  | cons a _ ih => simp [ih]
  | swap a b l => simp; omega
  | trans _ _ h1 h2 => rw [h1, h2]
/-! ### cuts -/
theorem cut_to (l : List D) {c : Int} (h : 0 ≤ c) (h2 : c ≤ l.length) : cutD l none (some c) = l.take c.toNat := by
  obtain ⟨k, rfl⟩ := Int.eq_ofNat_of_zero_le h
  unfold cutD
  rw [HT.sIx_none, HT.sIx_nat, Nat.min_eq_left (by omega)]
  simp
theorem cut_from (l : List D) {c : Int} (h : 0 ≤ c) (h2 : c ≤ l.length) : cutD l (some c) none = l.drop c.toNat := by
  obtain ⟨k, rfl⟩ := Int.eq_ofNat_of_zero_le h
  unfold cutD
  rw [HT.sIx_none, HT.sIx_nat, Nat.min_eq_left (by omega), List.take_of_length_le (by simp)]
  simp
end MP

/-! MPx: tuple(zip(a, b)), a and b lists. -/
namespace ZT
open PySem PySem.Spec PyProof.Rows PySem.W PySem.Calls L2
theorem zip_no_len : typeLookup (.type "zip") "__len__" = pure none := by rw [typeLookup_type, builtinLookup_eq_fast]; kernel_rfl
theorem zip_no_hint : typeLookup (.type "zip") "__length_hint__" = pure none := by rw [typeLookup_type, builtinLookup_eq_fast]; kernel_rfl
/-- a zip that has handed out k pairs; what it handed out stays, S is another thing -/
structure ZSt (h : Heap) (z TI TO i1 i2 l1 l2 S : Addr) (xs ys : Array Value) (k : Nat) : Prop where
  hTI : IsPair h TI (.ref i1) (.ref i2)
  h1 : h.IsListIter i1 l1 k
  h2 : h.IsListIter i2 l2 k
  hl1 : h.IsList l1 xs
  hl2 : h.IsList l2 ys
  hz : (IsZip h z TI TO .none ∧ ∃ a b, IsPair h TO a b) ∨ ∃ T f oT, IsZipHeld h z TI TO T f ∧ h.get? T = some oT ∧ T ≠ z ∧ T ≠ i1 ∧ T ≠ i2 ∧ T ≠ S
structure MadeZ (xs ys : Array Value) (lo : Addr) (h : Heap) (as : List Addr) : Prop where
  rise : as.Pairwise (· < ·)
  above : ∀ a ∈ as, lo < a
  pairs : ∀ (j : Nat) (a : Addr), as[j]? = some a → ∃ x y, xs[j]? = some x ∧ ys[j]? = some y ∧ IsPair h a x y
section
variable {prog : Program} {w : World} {A : Around} {E : Value → Shared → Prop} {s : Shared} {z TI TO i1 i2 l1 l2 S : Addr} {xs ys : Array Value} {k : Nat}
theorem MadeZ.there {lo : Addr} {h : Heap} {as : List Addr} (g : MadeZ xs ys lo h as) {a : Addr} (ha : a ∈ as) : a < h.objs.size := by
  obtain ⟨j, hj⟩ := List.mem_iff_getElem?.mp ha
  obtain ⟨_, _, _, _, e⟩ := g.pairs j a hj
  exact Heap.lt_size e
theorem ZSt.frame {h h' : Heap} (D : ZSt h z TI TO i1 i2 l1 l2 S xs ys k) (hk : ∀ b o, b ≠ S → h.get? b = some o → h'.get? b = some o) (n1 : z ≠ S) (n2 : TI ≠ S) (n3 : TO ≠ S) (n4 : i1 ≠ S) (n5 : i2 ≠ S) (n6 : l1 ≠ S) (n7 : l2 ≠ S) : ZSt h' z TI TO i1 i2 l1 l2 S xs ys k where
  hTI := hk _ _ n2 D.hTI
  h1 := D.h1.at fun o e => hk _ o n4 e
  h2 := D.h2.at fun o e => hk _ o n5 e
  hl1 := D.hl1.at fun o e => hk _ o n6 e
  hl2 := D.hl2.at fun o e => hk _ o n7 e
  hz := by
    rcases D.hz with ⟨hz, a, b, hTO⟩ | ⟨T, f, oT, hz, hT, r1, r2, r3, r4⟩
    · exact .inl ⟨hk _ _ n1 hz, a, b, hk _ _ n3 hTO⟩
    · exact .inr ⟨T, f, oT, hk _ _ n1 hz, hk _ _ r4 hT, r1, r2, r3, r4⟩
theorem nxtZ {Q : Option Value → Shared → Prop} (Dp : ZipApart z TI TO i1 i2 l1 l2) (D : ZSt s.heap z TI TO i1 i2 l1 l2 S xs ys k) (hS : S < s.heap.objs.size) {x y : Value} (hx : xs[k]? = some x) (hy : ys[k]? = some y)
    (hQ : ∀ h', ZSt h' z TI TO i1 i2 l1 l2 S xs ys (k + 1) → IsPair h' s.heap.objs.size x y → h'.objs.size = s.heap.objs.size + 1 → (∀ c o, c ≠ z → c ≠ TO → c ≠ i1 → c ≠ i2 → s.heap.get? c = some o → h'.get? c = some o) → Q (some (.ref s.heap.objs.size)) { s with heap := h' }) :
    wpAny (model prog w) A (pyNext (.ref z)) Q E s := by
  obtain ⟨hTI, h1, h2, hl1, hl2, hz⟩ := D
  have lt : ∀ {c o}, s.heap.get? c = some o → s.heap.objs.size ≠ c := fun e => Nat.ne_of_gt (Heap.lt_size e)
  have n1 : s.heap.objs.size ≠ i1 := let ⟨_, e, _⟩ := h1; lt e
  have n2 : s.heap.objs.size ≠ i2 := let ⟨_, e, _⟩ := h2; lt e
  rcases hz with ⟨hz, a, b, hTO⟩ | ⟨T, f, oT, hz, hT, r1, r2, r3, r4⟩
  · refine wpAny_pyNext_zip_item Dp hz hTI hTO h1 h2 hl1 hl2 hx hy fun h' a1 a2 a3 a4 a5 a6 hk => ?_
    exact hQ h' ⟨hk _ _ Dp.TIz Dp.TITO Dp.TIi1 Dp.TIi2 hTI, a3, a4, hl1.at fun o e => hk _ o Dp.l1z Dp.l1TO Dp.l1i1 Dp.l1i2 e, hl2.at fun o e => hk _ o Dp.l2z Dp.l2TO Dp.l2i1 Dp.l2i2 e,
      .inr ⟨s.heap.objs.size, false, _, a1, a5, lt hz, n1, n2, Nat.ne_of_gt hS⟩⟩ a5 a6 hk
  · refine wpAny_pyNext_zip_item_held Dp hz hT hTI h1 h2 hl1 hl2 hx hy fun h' a1 a3 a4 a5 a6 hk => ?_
    exact hQ h' ⟨hk _ _ Dp.TIz Dp.TIi1 Dp.TIi2 hTI, a3, a4, hl1.at fun o e => hk _ o Dp.l1z Dp.l1i1 Dp.l1i2 e, hl2.at fun o e => hk _ o Dp.l2z Dp.l2i1 Dp.l2i2 e,
      .inr ⟨T, true, oT, a1, hk _ _ r1 r2 r3 hT, r1, r2, r3, r4⟩⟩ a5 a6 fun c o c1 _ c3 c4 e => hk c o c1 c3 c4 e
theorem finZ {Q : Option Value → Shared → Prop} (hh : A.handled = none) (Dp : ZipApart z TI TO i1 i2 l1 l2) (D : ZSt s.heap z TI TO i1 i2 l1 l2 S xs ys k) (hend : xs[k]? = none ∨ ys[k]? = none)
    (hQ : ∀ h', (∀ c o, c ≠ z → c ≠ TO → c ≠ i1 → c ≠ i2 → s.heap.get? c = some o → h'.get? c = some o) → Q none { s with heap := h' }) : wpAny (model prog w) A (pyNext (.ref z)) Q E s := by
  obtain ⟨hTI, h1, h2, hl1, hl2, hz⟩ := D
  rcases hz with ⟨hz, a, b, hTO⟩ | ⟨T, f, oT, hz, hT, r1, r2, r3, r4⟩
  · exact wpAny_pyNext_zip_end hh Dp hz hTI hTO h1 h2 hl1 hl2 hend hQ
  · exact wpAny_pyNext_zip_end_held hh Dp hz hT hTI h1 h2 hl1 hl2 hend fun h' hk => hQ h' fun c o c1 _ c3 c4 e => hk c o c1 c3 c4 e
/-- what is laid out: all below S -/
structure Below (z TI TO i1 i2 l1 l2 S : Addr) : Prop where
  nz : z < S
  nTI : TI < S
  nTO : TO < S
  n1 : i1 < S
  n2 : i2 < S
  nl1 : l1 < S
  nl2 : l2 < S
theorem loopZ {R : Result → Shared → Prop} (hh : A.handled = none) (Dp : ZipApart z TI TO i1 i2 l1 l2) (Bl : Below z TI TO i1 i2 l1 l2 S) (n : Nat) (hnx : xs.size = n) (hny : ys.size = n) (hn : n ≤ sizeLine) (res : Value) {h₁ : Heap}
    (hR : ∀ h' tk acc c as, (∀ b o, b ≠ S → b ≠ z → b ≠ TO → b ≠ i1 → b ≠ i2 → h₁.get? b = some o → h'.get? b = some o) → h'.get? S = some { cls := .type "list", dict := none, data := .seq acc c, slots := #[] } → as.length = n → MadeZ xs ys S h' as →
      acc.toList = as.map Value.ref → R (.ok (.ret res)) { s with heap := h', toks := tk }) :
    ∀ (m i : Nat) (h : Heap) (tk c : Nat) (acc : Array Value) (as : List Addr), n - i = m → i ≤ n → ZSt h z TI TO i1 i2 l1 l2 S xs ys i → (∀ b o, b ≠ S → b ≠ z → b ≠ TO → b ≠ i1 → b ≠ i2 → h₁.get? b = some o → h.get? b = some o) →
      h.get? S = some { cls := .type "list", dict := none, data := .seq acc c, slots := #[] } → acc.toList = as.map Value.ref → as.length = i → MadeZ xs ys S h as →
      codeAny (model prog w) A (.builtin "list.extend.loop" ⟨[.ref S, .ref z, res], []⟩) R { s with heap := h, toks := tk } := by
  have ab : ∀ {b : Addr}, S < b → b ≠ z ∧ b ≠ TO ∧ b ≠ i1 ∧ b ≠ i2 := fun hb =>
    ⟨Nat.ne_of_gt (Nat.lt_trans Bl.nz hb), Nat.ne_of_gt (Nat.lt_trans Bl.nTO hb), Nat.ne_of_gt (Nat.lt_trans Bl.n1 hb), Nat.ne_of_gt (Nat.lt_trans Bl.n2 hb)⟩
  intro m
  induction m with
  | zero =>
    intro i h tk c acc as hk hi hst hkeep hS hacc hal hG
    refine codeAny_builtin PySem.F.entry_extend_loop ?_
    rw [Around.under_plainId PySem.F.plain_extend_loop _]
    show wpAny _ A.in1 (pyNext (.ref z) >>= _) _ _ _
    refine wpAny_bind (finZ (s := { s with heap := h, toks := tk }) (A := A.in1) hh Dp hst (.inl (Array.getElem?_eq_none (by omega))) fun h' he => ?_)
    refine wpAny_pure (hR h' tk acc c as (fun b o h0 h1 h2 h3 h4 e => he b o h1 h2 h3 h4 (hkeep b o h0 h1 h2 h3 h4 e)) (he S _ (Nat.ne_of_gt Bl.nz) (Nat.ne_of_gt Bl.nTO) (Nat.ne_of_gt Bl.n1) (Nat.ne_of_gt Bl.n2) hS) (by omega) ⟨hG.rise, hG.above, fun j a hj => ?_⟩ hacc)
    obtain ⟨x, y, e1, e2, e3⟩ := hG.pairs j a hj
    obtain ⟨b1, b2, b3, b4⟩ := ab (hG.above a (List.mem_of_getElem? hj))
    exact ⟨x, y, e1, e2, he a _ b1 b2 b3 b4 e3⟩
  | succ m ih =>
    intro i h tk c acc as hk hi hst hkeep hS hacc hal hG
    have hlt : i < n := by omega
    have hsz : acc.size = i := by rw [← Array.length_toList, hacc, List.length_map, hal]
    have ex : xs[i]? = some (xs[i]'(by omega)) := Array.getElem?_eq_getElem (by omega)
    have ey : ys[i]? = some (ys[i]'(by omega)) := Array.getElem?_eq_getElem (by omega)
    have hSl : S < h.objs.size := Heap.lt_size hS
    refine codeAny_builtin PySem.F.entry_extend_loop ?_
    rw [Around.under_plainId PySem.F.plain_extend_loop _]
    show wpAny _ A.in1 (pyNext (.ref z) >>= _) _ _ _
    refine wpAny_bind (nxtZ (s := { s with heap := h, toks := tk }) (S := S) Dp hst hSl ex ey fun h' hst' ht hz hkp => ?_)
    dsimp only at ht hz hkp ⊢
    have hS' := hkp S _ (Nat.ne_of_gt Bl.nz) (Nat.ne_of_gt Bl.nTO) (Nat.ne_of_gt Bl.n1) (Nat.ne_of_gt Bl.n2) hS
    have up : ∀ b o, b ≠ S → h'.get? b = some o → (h'.update S (Obj.mapSeq (·.push (Value.ref h.objs.size)))).get? b = some o := fun b o hb e => (Heap.get?_update_other _ _ (Ne.symm hb)).trans e
    show wpAny _ A.in1 (updateSeq S (·.push (Value.ref h.objs.size)) >>= _) _ _ _
    refine wpAny_bind ?_
    refine wpAny_updateSeq hS' rfl (wpAny_pure ⟨plainId_quiet PySem.F.plain_extend_loop _, ih (i + 1) _ tk _ (acc.push (Value.ref h.objs.size)) (as ++ [h.objs.size]) (by omega) hlt
      (hst'.frame up (Nat.ne_of_lt Bl.nz) (Nat.ne_of_lt Bl.nTI) (Nat.ne_of_lt Bl.nTO) (Nat.ne_of_lt Bl.n1) (Nat.ne_of_lt Bl.n2) (Nat.ne_of_lt Bl.nl1) (Nat.ne_of_lt Bl.nl2))
      (fun b o h0 h1 h2 h3 h4 e => up b o h0 (hkp b o h1 h2 h3 h4 (hkeep b o h0 h1 h2 h3 h4 e))) (Heap.get?_update_self _ hS' rfl) (by rw [Array.toList_push, hacc, List.map_append]; rfl) (by rw [List.length_append, hal]; rfl) ⟨?_, ?_, ?_⟩⟩) (by rw [hsz]; omega) (by show (acc.push (Value.ref h.objs.size)).size ≤ sizeLine + 1; rw [Array.size_push, hsz]; omega)
    · refine List.pairwise_append.mpr ⟨hG.rise, List.pairwise_singleton _ _, fun a ha b hb => ?_⟩
      rw [List.mem_singleton.mp hb]
      exact hG.there ha
    · intro a ha
      rcases List.mem_append.mp ha with ha | ha
      · exact hG.above a ha
      · rw [List.mem_singleton.mp ha]; exact hSl
    · intro j b hj
      rcases Nat.lt_trichotomy j as.length with h1 | h1 | h1
      · rw [List.getElem?_append_left h1] at hj
        obtain ⟨x, y, e1, e2, e3⟩ := hG.pairs j b hj
        have hb := hG.above b (List.mem_of_getElem? hj)
        obtain ⟨b1, b2, b3, b4⟩ := ab hb
        exact ⟨x, y, e1, e2, up b _ (Nat.ne_of_gt hb) (hkp b _ b1 b2 b3 b4 e3)⟩
      · subst h1
        have hb : h.objs.size = b := by simpa using hj
        subst hb
        exact ⟨_, _, by rw [hal]; exact ex, by rw [hal]; exact ey, up _ _ (Nat.ne_of_gt hSl) ht⟩
      · have hnone : (as ++ [h.objs.size])[j]? = none := List.getElem?_eq_none (by rw [List.length_append, List.length_singleton]; omega)
        rw [hnone] at hj; cases hj
end
section
variable {prog : Program} {w : World} {A : Around} {E : Value → Shared → Prop} {s : Shared} {z TI TO i1 i2 l1 l2 : Addr} {xs ys : Array Value}
theorem collectZ {Q : List Value → Shared → Prop} (hh : A.handled = none) (Dp : ZipApart z TI TO i1 i2 l1 l2) (Bl : Below z TI TO i1 i2 l1 l2 s.heap.objs.size) (n : Nat) (hnx : xs.size = n) (hny : ys.size = n) (hn : n ≤ sizeLine)
    (hz : IsZip s.heap z TI TO .none) (hTI : IsPair s.heap TI (.ref i1) (.ref i2)) {a b : Value} (hTO : IsPair s.heap TO a b) (h1 : s.heap.IsListIter i1 l1 0) (h2 : s.heap.IsListIter i2 l2 0) (hl1 : s.heap.IsList l1 xs) (hl2 : s.heap.IsList l2 ys)
    (hQ : ∀ h' tk as, (∀ b o, b ≠ z → b ≠ TO → b ≠ i1 → b ≠ i2 → s.heap.get? b = some o → h'.get? b = some o) → as.length = n → MadeZ xs ys s.heap.objs.size h' as → Q (as.map Value.ref) { s with heap := h', toks := tk }) :
    wpAny (model prog w) A (collect (.ref z)) Q E s := by
  have hSz : s.heap.objs.size ≠ z := Nat.ne_of_gt Bl.nz
  unfold collect
  refine wpAny_bind (wpAny_runValue (codeAny_builtin F.entry_proto_collect ?_))
  rw [Around.under_plainId F.plain_proto_collect _]
  show wpAny _ A.in1 (newList [] >>= fun l => again (.builtin "list.__iadd__" ⟨[l, .ref z], []⟩)) _ _ s
  refine wpAny_bind (wpAny_newObj_type ?_)
  refine wpAny_pure ⟨plainId_quiet F.plain_list_iadd _, codeAny_builtin F.entry_list_iadd ?_⟩
  rw [Around.under_plainId F.plain_list_iadd _]
  show wpAny _ A.in1 (Builtin.List.listExtendWith (.ref s.heap.objs.size) (.ref z) (.ref s.heap.objs.size)) _ _ _
  have hz₁ : IsZip (s.heap.push { cls := .type "list", data := .seq ([] : List Value).toArray }) z TI TO .none := Heap.get?_push_of_some _ hz
  have hTy : ∀ s' : Shared, s'.heap = s.heap.push { cls := .type "list", data := .seq ([] : List Value).toArray } → s'.TypeIs (.ref z) "zip" := fun s' e => ⟨_, by rw [e]; exact hz₁, rfl⟩
  unfold Builtin.List.listExtendWith
  refine wpAny_bind (wpAny_typeOf (hTy _ rfl) ?_)
  have g1 : Builtin.List.listSameRef (.ref s.heap.objs.size) (.ref z) = false := by simp [Builtin.List.listSameRef, hSz]
  have g2 : (Value.type "zip" == Value.type "list") = false := by decide
  have g3 : (Value.type "zip" == Value.type "tuple") = false := by decide
  simp only [g1, g2, g3, Bool.or_false, Bool.false_eq_true, if_false]
  refine wpAny_bind (wpAny_pyIter_zip (f0 := .none) hz₁ ?_)
  refine wpAny_bind (wpAny_holding ?_)
  unfold Builtin.List.listLengthHint
  refine wpAny_bind (wpAny_specialOf (hTy _ rfl) zip_no_len ?_)
  show wpAny _ A.in1 (specialOf (Value.ref z) (Str.ofString "__length_hint__") >>= _) _ _ _
  refine wpAny_bind (wpAny_specialOf (hTy _ rfl) zip_no_hint ?_)
  refine wpAny_pure ?_
  show wpAny _ A.in1 (rule "list.extend.makes-room" >>= fun _ => Builtin.List.listTouch (.ref s.heap.objs.size) >>= fun _ =>
    again (.builtin "list.extend.loop" ⟨[.ref s.heap.objs.size, .ref z, .ref s.heap.objs.size], []⟩)) _ _ _
  refine wpAny_bind (wpAny_rule ?_)
  have hS₁ : (s.heap.push { cls := .type "list", data := .seq ([] : List Value).toArray }).get? s.heap.objs.size = some { cls := .type "list", data := .seq ([] : List Value).toArray } := Heap.get?_push_size _ rfl
  refine wpAny_bind ?_
  show wpAny _ A.in1 (updateSeq s.heap.objs.size (·.push .none) >>= fun _ => updateSeq s.heap.objs.size (·.pop)) _ _ _
  refine wpAny_bind (wpAny_updateSeq hS₁ rfl ?_)
  have hS₂ := Heap.get?_update_self (Obj.mapSeq (·.push Value.none)) hS₁ rfl
  refine wpAny_updateSeq hS₂ rfl ?_
  have hS₃ := Heap.get?_update_self (Obj.mapSeq (·.pop)) hS₂ rfl
  have oth : ∀ b o, b ≠ s.heap.objs.size → s.heap.get? b = some o →
      (((s.heap.push { cls := .type "list", data := .seq ([] : List Value).toArray }).update s.heap.objs.size (Obj.mapSeq (·.push Value.none))).update s.heap.objs.size (Obj.mapSeq (·.pop))).get? b = some o :=
    fun b o hb e => (Heap.get?_update_other _ _ (Ne.symm hb)).trans ((Heap.get?_update_other _ _ (Ne.symm hb)).trans (Heap.get?_push_of_some _ e))
  refine wpAny_pure ⟨plainId_quiet F.plain_extend_loop _, loopZ (s := s) (h₁ := s.heap) hh Dp Bl n hnx hny hn _ (fun h' tk acc c as hk hS' hl hG hacc => ?_) n 0 _ s.toks _ _ [] (Nat.sub_zero _) (Nat.zero_le _)
    ((⟨hTI, h1, h2, hl1, hl2, .inl ⟨hz, a, b, hTO⟩⟩ : ZSt s.heap z TI TO i1 i2 l1 l2 s.heap.objs.size xs ys 0).frame oth (Nat.ne_of_lt Bl.nz) (Nat.ne_of_lt Bl.nTI) (Nat.ne_of_lt Bl.nTO) (Nat.ne_of_lt Bl.n1) (Nat.ne_of_lt Bl.n2) (Nat.ne_of_lt Bl.nl1) (Nat.ne_of_lt Bl.nl2))
    (fun b o hb _ _ _ _ e => oth b o hb e) hS₃ rfl rfl ⟨List.Pairwise.nil, (fun _ ha => nomatch ha), (fun j a hj => by simp at hj)⟩⟩
  show wpAny _ A (load s.heap.objs.size >>= _) _ _ _
  refine wpAny_bind (wpAny_load hS' ?_)
  refine wpAny_pure ?_
  show Q acc.toList _
  rw [hacc]
  exact hQ h' tk as (fun b o b1 b2 b3 b4 e => hk b o (Nat.ne_of_lt (Heap.lt_size e)) b1 b2 b3 b4 e) hl hG
theorem code_tuple_new_zip {Q₁ : Value → Shared → Prop} (hh : A.handled = none) (Dp : ZipApart z TI TO i1 i2 l1 l2) (Bl : Below z TI TO i1 i2 l1 l2 s.heap.objs.size) (n : Nat) (hnx : xs.size = n) (hny : ys.size = n) (hn : n ≤ sizeLine)
    (hz : IsZip s.heap z TI TO .none) (hTI : IsPair s.heap TI (.ref i1) (.ref i2)) {a b : Value} (hTO : IsPair s.heap TO a b) (h1 : s.heap.IsListIter i1 l1 0) (h2 : s.heap.IsListIter i2 l2 0) (hl1 : s.heap.IsList l1 xs) (hl2 : s.heap.IsList l2 ys)
    (h : ∀ h' tk as, (∀ b o, b ≠ z → b ≠ TO → b ≠ i1 → b ≠ i2 → s.heap.get? b = some o → h'.get? b = some o) → as.length = n → MadeZ xs ys s.heap.objs.size h' as →
      Q₁ (.ref h'.objs.size) { s with heap := h'.push { cls := .type "tuple", data := .seq (as.map Value.ref).toArray }, toks := tk }) :
    codeAny (model prog w) A (.call (.builtin "tuple.__new__") ⟨[.type "tuple", .ref z], []⟩) (wants Q₁ E) s := by
  refine codeAny_of_tree ?_
  show wpAny _ A.in1 (do checkBuiltinCall "tuple.__new__" ⟨[.type "tuple", .ref z], []⟩; again (.builtin "tuple.__new__" ⟨[.type "tuple", .ref z], []⟩)) _ _ s
  refine wpAny_bind (wpAny_of_eq (F.newCall_tuple_1 _) (wpAny_pure ⟨plainId_quiet F.plain_tuple_new _, codeAny_builtin F.entry_tuple_new ?_⟩))
  rw [Around.under_plainId F.plain_tuple_new _]
  have hsub := sub_tuple_self
  have hinit := init_tuple_lookup
  have hmh := madeHere_tuple
  have hTy : s.TypeIs (.ref z) "zip" := ⟨_, hz, rfl⟩
  have hh1 : A.in1.handled = none := hh
  wp_walk using wpAny_typeOf hTy, collectZ (A := A.in1) hh1 Dp Bl n hnx hny hn hz hTI hTO h1 h2 hl1 hl2
  intro h' tk as hk hl hG
  show wpAny _ _ (Builtin.Tuple.tupleExact (as.map Value.ref).toArray >>= fun v => ret v) _ _ _
  unfold Builtin.Tuple.tupleExact
  refine wpAny_bind (wpAny_newObj_type ?_ (by show (as.map Value.ref).toArray.size ≤ sizeLine; rw [List.size_toArray, List.length_map, hl]; exact hn))
  exact wpAny_pure (h h' tk as hk hl hG)
theorem call_tuple_zip {Q : Value → Shared → Prop} (hh : A.handled = none) (Dp : ZipApart z TI TO i1 i2 l1 l2) (Bl : Below z TI TO i1 i2 l1 l2 s.heap.objs.size) (n : Nat) (hnx : xs.size = n) (hny : ys.size = n) (hn : n ≤ sizeLine)
    (hz : IsZip s.heap z TI TO .none) (hTI : IsPair s.heap TI (.ref i1) (.ref i2)) {a b : Value} (hTO : IsPair s.heap TO a b) (h1 : s.heap.IsListIter i1 l1 0) (h2 : s.heap.IsListIter i2 l2 0) (hl1 : s.heap.IsList l1 xs) (hl2 : s.heap.IsList l2 ys)
    (hQ : ∀ h' tk as, (∀ b o, b ≠ z → b ≠ TO → b ≠ i1 → b ≠ i2 → s.heap.get? b = some o → h'.get? b = some o) → as.length = n → MadeZ xs ys s.heap.objs.size h' as →
      Q (.ref h'.objs.size) { s with heap := h'.push { cls := .type "tuple", data := .seq (as.map Value.ref).toArray }, toks := tk }) :
    wpAny (model prog w) A (call (.type "tuple") [.ref z]) Q E s := by
  refine callType_codes (Q₁ := fun obj s₁ => s₁.TypeIs obj "tuple" ∧ Q obj s₁) F.called_tuple (F.typeCall_tuple_1 _) F.entry_object_init
    (code_tuple_new_zip (A := A.in1) hh Dp Bl n hnx hny hn hz hTI hTO h1 h2 hl1 hl2 fun h' tk as hk hl hG => ⟨⟨_, Heap.get?_push_size _ rfl, rfl⟩, hQ h' tk as hk hl hG⟩) fun obj s₁ h₁ => ?_
  exact ⟨h₁.1, F.args_object_init_2 obj _, object_init_meets F.called_tuple.init.lookup F.called_tuple.made (by decide) prog w A.in1 _ s₁ ⟨h₁.1, rfl, h₁.2⟩⟩
end
end ZT
namespace L2
open PySem PySem.Spec PyProof.Rows ZT
/-- tuple(zip(a, b)), two lists of one length: a new tuple of new pairs -/
def tTupZip (K : PySem.W.Frag) (ta : TA) : TE := fun σ H Q => ta σ H fun vs H1 => ∃ a b xs ys, vs = [.ref a, .ref b] ∧ SqL K H1 a xs ∧ SqL K H1 b ys ∧ xs.length = ys.length ∧
  ∀ (H' : Hp) (p : Addr) (as : List Addr), (∀ b o, H1 b = some o → H' b = some o) → H1 p = none → as.length = xs.length → H' p = some (.tup (as.map V.ref)) → (∀ (j : Nat) (c : Addr), as[j]? = some c → ∃ x y, xs[j]? = some x ∧ ys[j]? = some y ∧ H' c = some (.tup [x, y])) → Q (.ref p) H'
theorem pe_tupZip {X : Cx} {e e2 : Expr} {ta : TA} {p p2 pos pos2 : Pos} (hc : X.calm = true) (hg : Gl X "zip") (hm : X.mg "zip" = none) (hgt : Gl X "tuple") (hmt : X.mg "tuple" = none) (ha : PA X [e, e2] ta)
    (hs : starEach [e, e2] X.env = (false, eval e X.env) :: starEach [e2] X.env := by rfl) (hpl : (backTo pos2 (starEach [e2] X.env)).any (·.1) = false := by rfl)
    (hs2 : starEach [.Call (.Name "zip" p2) [e, e2] [] pos2] X.env = (false, eval (.Call (.Name "zip" p2) [e, e2] [] pos2) X.env) :: starEach [] X.env := by rfl) :
    PE X (.Call (.Name "tuple" p) [.Call (.Name "zip" p2) [e, e2] [] pos2] [] pos) (tTupZip X.K ta) := by
  refine ⟨fun pins s σ H Q I h => ?_⟩
  refine Call_ (ld_blt I hgt hmt boot_tuple (PyProof.Rows.callWith_type1 ?_ hs2 rfl))
  rw [hs2]
  show wpAny _ _ (spliced ((false, eval (.Call (.Name "zip" p2) [e, e2] [] pos2) X.env) :: backTo pos (starEach [] X.env))) _ _ s
  refine Calls.spliced_cons ?_
  refine Call_ (ld_blt I hg hm PyProof.Rows.boot_zip (PyProof.Rows.callWith_type1 (thn (ha.run pos2 pins s σ H _ I h) fun us s1 ⟨vs, H1, I1, r1, q1⟩ => ?_) hs hpl))
  obtain ⟨a, b, xs, ys, ex, hqx, hqy, hxy, q⟩ := q1
  subst ex
  cases r1 with
  | cons r rr =>
    cases rr with
    | cons r' rr =>
      cases rr
      cases r
      cases r'
      obtain ⟨its, rv, p1, z1⟩ := I1.list hqx
      obtain ⟨its2, rv2, p2, z2⟩ := I1.list hqy
      have la : a < s1.heap.objs.size := p1.lt
      have lb : b < s1.heap.objs.size := p2.lt
      have hh : X.A.handled = none := I1.ok.hd hc
      refine call_zip_2 p1.isList p2.isList fun h' hz hTI hTO h1 h2 hsz hk => Calls.spliced_nil ?_
      have ln1 : its.toArray.size = xs.length := by rw [List.size_toArray]; exact rv.length.symm
      have ln2 : its2.toArray.size = xs.length := by rw [List.size_toArray, hxy]; exact rv2.length.symm
      refine call_tuple_zip (s := { s1 with heap := h' }) hh (PySem.W.ktu_apart s1.heap.objs.size a b la lb) ?_ xs.length ln1 ln2 z1 hz hTI hTO h1 h2 (p1.isList.at fun o e => hk _ o e) (p2.isList.at fun o e => hk _ o e) fun h2' tk as hk2 hl hG => ?_
      · show Below _ _ _ _ _ _ _ h'.objs.size
        rw [hsz]
        constructor <;> first | omega | (show (_ : Nat) < _; omega) | exact Nat.lt_of_lt_of_le la (Nat.le_add_right _ _) | exact Nat.lt_of_lt_of_le lb (Nat.le_add_right _ _)
      · dsimp only at hk2 hG ⊢
        have h2le : s1.heap.objs.size ≤ h'.objs.size := by rw [hsz]; exact Nat.le_add_right _ _
        have kS : ∀ b o, s1.heap.get? b = some o → h2'.get? b = some o := fun b o e => by
          have hb : b < s1.heap.objs.size := Heap.lt_size e
          exact hk2 b o (Nat.ne_of_lt (Nat.lt_of_lt_of_le hb (Nat.le_add_right _ _))) (Nat.ne_of_lt (Nat.lt_of_lt_of_le hb (Nat.le_add_right _ _))) (Nat.ne_of_lt hb) (Nat.ne_of_lt (Nat.lt_of_lt_of_le hb (Nat.le_add_right _ _))) (hk b o e)
        have kP : ∀ b o, h2'.get? b = some o → (h2'.push { cls := .type "tuple", data := .seq (as.map Value.ref).toArray }).get? b = some o := fun b o e => Heap.get?_push_of_some _ e
        have hp : (h2'.push { cls := .type "tuple", data := .seq (as.map Value.ref).toArray }).get? h2'.objs.size = some { cls := .type "tuple", data := .seq (as.map Value.ref).toArray } := Heap.get?_push_size _ rfl
        have Dp := PySem.W.ktu_apart s1.heap.objs.size a b la lb
        have szS : s1.heap.objs.size ≤ h2'.objs.size := Nat.le_trans (Nat.le_add_right _ 2) (Nat.le_of_lt (Heap.lt_size (hk2 _ _ Dp.TIz Dp.TITO Dp.TIi1 Dp.TIi2 hTI)))
        generalize hh3 : h2'.push { cls := .type "tuple", data := .seq (as.map Value.ref).toArray } = h3 at kP hp ⊢
        have I3 : Inv X pins σ H1 { s1 with heap := h3, toks := tk } := I1.kept (t' := tk) fun b o e => kP b o (kS b o e)
        have nd : as.Nodup := List.Pairwise.imp (fun h => Nat.ne_of_lt h) hG.rise
        have pr : ∀ (j : Nat) (c : Addr), as[j]? = some c → ∃ (x y : V) (u v : Value), xs[j]? = some x ∧ ys[j]? = some y ∧ RelV x u ∧ RelV y v ∧ h2'.get? c = some { cls := .type "tuple", data := .seq #[u, v] } := by
          intro j c hj
          obtain ⟨u, v, e1, e2, e3⟩ := hG.pairs j c hj
          rw [List.getElem?_toArray] at e1 e2
          obtain ⟨x, ex, rx⟩ := DX.pget rv e1
          obtain ⟨y, ey, ry⟩ := DX.pget rv2 e2
          exact ⟨x, y, u, v, ex, ey, rx, ry, e3⟩
        have hnp : H1 h2'.objs.size = none := I1.hok.fresh szS
        have I4 : Inv X pins σ (upd H1 h2'.objs.size (.tup (as.map V.ref))) { s1 with heap := h3, toks := tk } :=
          I3.take (h' := h3) (t' := tk) (fun b ob _ e => e) (I1.fpOk szS hnp) ⟨by rw [List.length_map, hl]; exact z1, as.map Value.ref, vals_maps (fun c : Addr => V.ref c) (fun c => Value.ref c) as fun _ _ => rfl, ⟨_, hp, rfl, 0, rfl⟩⟩
        obtain ⟨H2, I5, g, qt⟩ := DX.takeT (P := fun c vs => ∃ (j : Nat) (x y : V), as[j]? = some c ∧ xs[j]? = some x ∧ ys[j]? = some y ∧ vs = [x, y]) I1 as _ I4 nd fun c hc => by
          obtain ⟨j, hj⟩ := List.mem_iff_getElem?.mp hc
          obtain ⟨x, y, u, v, ex, ey, rx, ry, hg⟩ := pr j c hj
          have hcl : s1.heap.objs.size ≤ c := Nat.le_trans h2le (Nat.le_of_lt (hG.above c hc))
          refine ⟨hcl, ?_, [x, y], ⟨j, x, y, hj, ex, ey, rfl⟩, fun H3 => ⟨(by rw [sizeLine_eq]; show 2 ≤ 16777216; omega), [u, v], .cons rx (.cons ry .nil), ⟨_, kP _ _ hg, rfl, 0, rfl⟩⟩⟩
          rw [upd_ne (Nat.ne_of_lt (hG.there hc))]
          exact I1.hok.fresh hcl
        refine ⟨.ref h2'.objs.size, H2, I5, rfl, q _ _ as (fun b o e => g b o (by rw [upd_ne (ne_of_none e hnp)]; exact e)) hnp hl (g _ _ upd_same) fun j c hj => ?_⟩
        obtain ⟨vs, ⟨i, x, y, i1, i2, i3, ev⟩, hH⟩ := qt c (List.mem_of_getElem? hj)
        have eij : i = j := (List.getElem?_inj (List.getElem?_eq_some_iff.mp i1).1 nd).mp (i1.trans hj.symm)
        subst eij
        rw [ev] at hH
        exact ⟨x, y, i2, i3, hH⟩
end L2
namespace MP
open PySem PySem.Spec PyProof.Rows L2
def tupZipS : List Sl → Option Sl
  | [x, y] => match x.items?, y.items? with
    | some ds, some es => if ds.length = es.length then some (.val (.tup (zipD ds es))) else none
    | _, _ => none
  | _ => none
theorem tupZip_own (ds es : List D) : tupZipS [.own ds, .own es] = if ds.length = es.length then some (.val (.tup (zipD ds es))) else none := rfl
theorem tupZip_bor (ds es : List D) : tupZipS [.bor ds, .bor es] = if ds.length = es.length then some (.val (.tup (zipD ds es))) else none := rfl
theorem reps_zip {K : PySem.W.Frag} {H H' : Hp} (s : Stab H H') : ∀ {as : List Addr} {xs ys : List V} {ds es : List D}, Reps K H xs ds → Reps K H ys es → ds.length = es.length → as.length = xs.length →
    (∀ (j : Nat) (c : Addr), as[j]? = some c → ∃ x y, xs[j]? = some x ∧ ys[j]? = some y ∧ H' c = some (.tup [x, y])) → Reps K H' (as.map V.ref) (zipD ds es)
  | [], _, _, _, _, .nil, .nil, _, _, _ => .nil
  | a :: as, _, _, _, _, .cons r1 t1, .cons r2 t2, hl, hl2, h => by
    obtain ⟨x, y, e1, e2, e3⟩ := h 0 a rfl
    cases e1
    cases e2
    exact .cons (.tup (SqT.of e3) (.cons (r1.st s) (.cons (r2.st s) .nil))) (reps_zip s t1 t2 (by simpa using hl) (by simpa using hl2) fun j c hj => h (j + 1) c (by simpa using hj))
  | _ :: _, _, _, _, _, .nil, .nil, _, hl, _ => by simp at hl
  | _, _, _, _, _, .nil, .cons _ _, hl, _, _ => by simp at hl
  | _, _, _, _, _, .cons _ _, .nil, hl, _, _ => by simp at hl
  | [], _, _, _, _, .cons _ _, .cons _ _, _, hl, _ => by simp at hl
section
variable {X : Cx} {c : Ct} {W : WX} {e e2 : Expr} {fs : List Ev} {p p2 pos pos2 : Pos}
theorem v_tupZip (hmt : X.mg "tuple" = none) (hm : X.mg "zip" = none) (ha : PAv X c W [e, e2] fs) (hc : X.calm = true := by rfl) (hg : Gl X "zip" := by rfl) (hgt : Gl X "tuple" := by rfl)
    (hs : starEach [e, e2] X.env = (false, eval e X.env) :: starEach [e2] X.env := by rfl) (hpl : (backTo pos2 (starEach [e2] X.env)).any (·.1) = false := by rfl)
    (hs2 : starEach [.Call (.Name "zip" p2) [e, e2] [] pos2] X.env = (false, eval (.Call (.Name "zip" p2) [e, e2] [] pos2) X.env) :: starEach [] X.env := by rfl) :
    PEv X c W (.Call (.Name "tuple" p) [.Call (.Name "zip" p2) [e, e2] [] pos2] [] pos) (callE tupZipS fs) := by
  refine ⟨pe_mono (pe_tupZip hc hg hm hgt hmt ha.pa hs hpl hs2) ?_⟩
  rintro σ H Q ⟨B, tp, env, ta, RS, h⟩
  refine ⟨B, tp, env, ta, RS, ?_⟩
  unfold callE at h
  cases q : evs fs env ta with
  | none => rw [q] at h; exact h
  | some z =>
    obtain ⟨rs, t⟩ := z
    rw [q] at h
    cases rs with
    | error x => exact h
    | ok rs =>
      dsimp only at h
      intro vs H1 R1 K1 VS
      cases ez : tupZipS rs with
      | none => rw [ez] at h; exact h.elim
      | some z =>
        rw [ez] at h
        unfold tupZipS at ez
        split at ez
        · rename_i x y
          split at ez
          · rename_i ds es ex ey
            split at ez
            · rename_i hl
              cases ez
              cases VS with
              | cons V1 VS =>
                cases VS with
                | cons V2 VS =>
                  cases VS
                  obtain ⟨a, xs, rfl, s1, r1⟩ := V1.list ex
                  obtain ⟨b, ys, rfl, s2, r2⟩ := V2.list ey
                  refine ⟨a, b, xs, ys, rfl, s1, s2, by rw [r1.length, r2.length]; exact hl, fun H' p as sm hp hla ht hj => ?_⟩
                  exact EPost.same R1 (h.later K1) sm (Rep.tup (SqT.of ht) (reps_zip (.of_same sm) r1 r2 hl hla hj))
            · cases ez
          · cases ez
        · cases ez
end
end MP
namespace MP
open PySem PySem.Spec PyProof.Rows L2
/-! a list times an int -/
def repS : Sl → Sl → Option Sl
  | .own ds, .val (.int k) => if 0 ≤ k ∧ k < 2 ^ 62 ∧ ds.length * k.toNat ≤ LIM then some (.own (List.replicate k.toNat ds).flatten) else none
  | .bor ds, .val (.int k) => if 0 ≤ k ∧ k < 2 ^ 62 ∧ ds.length * k.toNat ≤ LIM then some (.own (List.replicate k.toNat ds).flatten) else none
  | _, _ => none
theorem ok_rep {K : PySem.W.Frag} {c : Ct} : OpOk K c rRep repS := by
  intro tp H0 H1 H v u x y z Q nv hx hy e k
  have go : ∀ (a : Addr) (xs : List V) (ds : List D) (k' : Int), H a = some (.lst xs) → Reps K H xs ds → 0 ≤ k' → k' < 2 ^ 62 → ds.length * k'.toNat ≤ LIM → (∀ w H', Same H H' → RepV K c tp H H' w (.own (List.replicate k'.toNat ds).flatten) → Q w H') → rRep (.ref a) (.int k') H Q :=
    fun a xs ds k' ha r h0 h1 hl kk => ⟨a, k', xs, rfl, rfl, ha, by omega, by omega, by rw [r.length]; exact lim_line hl, fun p hp => kk _ _ (Same.new hp) (RepV.newL hp (nv _ hp) (r.flat _))⟩
  unfold repS at e
  split at e
  · split at e
    · rename_i hk
      cases e
      obtain ⟨a, xs, rfl, n, nv', ha, r⟩ := hx
      cases (show Rep K H u (.int _) from hy)
      exact go a xs _ _ ha r hk.1 hk.2.1 hk.2.2 k
    · cases e
  · split at e
    · rename_i hk
      cases e
      obtain ⟨a, xs, rfl, ha, nv', r⟩ := hx
      cases (show Rep K H u (.int _) from hy)
      exact go a xs _ _ ha r hk.1 hk.2.1 hk.2.2 k
    · cases e
  · cases e
end MP

/-! MPy: data are equal to themselves; lists of bools; lists of pairs of ints. -/
namespace MP
open PySem
mutual
/-- no texts in it -/
def D.ns : D → Bool
  | .str _ => false
  | .tup ds => nss ds
  | .lst ds => nss ds
  | _ => true
def nss : List D → Bool
  | [] => true
  | d :: ds => d.ns && nss ds
end
mutual
theorem canLay_py : ∀ d : D, d.ns = true → PyData.canLay0 d.py = true
  | .non, _ => rfl
  | .bl _, _ => rfl
  | .int _, _ => rfl
  | .str _, h => by simp [D.ns] at h
  | .tup ds, h => by simp [D.py, PyData.canLay0, canLay_pys ds (by simpa [D.ns] using h)]
  | .lst ds, h => by simp [D.py, PyData.canLay0, canLay_pys ds (by simpa [D.ns] using h)]
theorem canLay_pys : ∀ ds : List D, nss ds = true → PyData.canLayAll0 (pys ds) = true
  | [], _ => rfl
  | d :: ds, h => by
    simp [nss] at h
    simp [pys, PyData.canLayAll0, canLay_py d h.1, canLay_pys ds h.2]
end
theorem nss_of {ds : List D} (h : ∀ d ∈ ds, d.ns = true) : nss ds = true := by
  induction ds with
  | nil => rfl
  | cons d ds ih => simp [nss, h d List.mem_cons_self, ih fun x hx => h x (List.mem_cons_of_mem _ hx)]
theorem nss_ints (l : List Int) : nss (l.map D.int) = true := nss_of fun d hd => by
  obtain ⟨i, _, rfl⟩ := List.mem_map.mp hd
  rfl
mutual
theorem eqv_self : ∀ d : D, PyData.eqv d.py d.py = true
  | .non => by simp [D.py, PyData.eqv]
  | .bl b => by cases b <;> simp [D.py, PyData.eqv]
  | .int _ => by simp [D.py, PyData.eqv]
  | .str _ => by simp [D.py, PyData.eqv]
  | .tup ds => by simp [D.py, PyData.eqv, eqv_selfs ds]
  | .lst ds => by simp [D.py, PyData.eqv, eqv_selfs ds]
theorem eqv_selfs : ∀ ds : List D, PyData.eqvAll (pys ds) (pys ds) = true
  | [] => by simp [pys, PyData.eqvAll]
  | d :: ds => by simp [pys, PyData.eqvAll, eqv_self d, eqv_selfs ds]
end
theorem shaped_py (d : D) (hn : d.ns = true) (h : d.py.depth ≤ 64) : SeqAt.shaped d.py = true := by
  unfold SeqAt.shaped
  rw [canLay_py d hn, decide_eq_true h]
  rfl
theorem ne_self (d : D) (hn : d.ns = true) (h : d.py.depth ≤ 64) : neS (.val d) (.val d) = some (.val (.bl false)) := by
  unfold neS eqC
  simp only [Sl.dat?]
  rw [if_pos ⟨shaped_py d hn h, shaped_py d hn h⟩, eqv_self]
  rfl
theorem ne_selfB (ds : List D) (hn : nss ds = true) (h : (D.lst ds).py.depth ≤ 64) : neS (.bor ds) (.bor ds) = some (.val (.bl false)) := ne_self (.lst ds) (by simpa [D.ns] using hn) h
theorem ne_selfO (ds : List D) (hn : nss ds = true) (h : (D.lst ds).py.depth ≤ 64) : neS (.own ds) (.own ds) = some (.val (.bl false)) := ne_self (.lst ds) (by simpa [D.ns] using hn) h
theorem depth_all {ds : List D} {n : Nat} (h : ∀ d ∈ ds, d.py.depth ≤ n) : PyData.depthAll (pys ds) ≤ n := by
  induction ds with
  | nil => simp [pys, PyData.depthAll]
  | cons d ds ih =>
    have h1 := h d List.mem_cons_self
    have h2 := ih fun x hx => h x (List.mem_cons_of_mem _ hx)
    simp [pys, PyData.depthAll]
    omega
theorem depth_tup {ds : List D} {n : Nat} (h : ∀ d ∈ ds, d.py.depth ≤ n) : (D.tup ds).py.depth ≤ n + 1 := by
  have := depth_all h
  simp [D.py, PyData.depth]
  omega
theorem depth_lst {ds : List D} {n : Nat} (h : ∀ d ∈ ds, d.py.depth ≤ n) : (D.lst ds).py.depth ≤ n + 1 := by
  have := depth_all h
  simp [D.py, PyData.depth]
  omega
theorem depth_int (i : Int) : (D.int i).py.depth ≤ 0 := by simp [D.py, PyData.depth]
theorem depth_pair (i j : Int) : (D.tup [.int i, .int j]).py.depth ≤ 1 := depth_tup fun d hd => by
  simp at hd
  rcases hd with rfl | rfl <;> exact depth_int _
theorem depth_ints0 (l : List Int) : (D.tup (l.map D.int)).py.depth ≤ 1 := depth_tup fun d hd => by
  obtain ⟨i, _, rfl⟩ := List.mem_map.mp hd
  exact depth_int _
/-! bools -/
theorem all_own (bs : List Bool) : allS [.own (bs.map D.bl)] = some (.val (.bl (bs.all id))) := by
  unfold allS onBls
  simp [bls?_map]
theorem any_own (bs : List Bool) : anyS [.own (bs.map D.bl)] = some (.val (.bl (bs.any id))) := by
  unfold anyS onBls
  simp [bls?_map]
/-! pairs -/
def pD (e : Int × Int) : D := .tup [.int e.1, .int e.2]
theorem eqv_pair (e f : Int × Int) : PyData.eqv (pD e).py (pD f).py = decide (e = f) := by
  obtain ⟨a, b⟩ := e
  obtain ⟨c, d⟩ := f
  simp [pD, D.py, pys, PyData.eqv, PyData.eqvAll]
  by_cases h : a = c <;> by_cases k : b = d <;> simp [h, k]
theorem depth_pD (e : Int × Int) : (pD e).py.depth ≤ 1 := depth_pair _ _
theorem any_pair (e : Int × Int) : ∀ L : List (Int × Int), ((pys (L.map pD)).any fun z => PyData.eqv z (pD e).py) = decide (e ∈ L)
  | [] => by simp [pys]
  | f :: L => by
    rw [List.map_cons, pys, List.any_cons, eqv_pair, any_pair e L]
    by_cases h : f = e
    · simp [h]
    · have h' : ¬ e = f := fun z => h z.symm
      simp [h, h']
theorem nin_pairs (e : Int × Int) (L : List (Int × Int)) : ninS (.val (pD e)) (.bor (L.map pD)) = some (.val (.bl (!decide (e ∈ L)))) := by
  unfold ninS inC
  have h1 : SeqAt.shaped (pD e).py = true := shaped_py _ rfl (Nat.le_trans (depth_pD e) (by decide))
  have h2 : SeqAt.shaped (.list (pys (L.map pD))) = true := shaped_py (.lst (L.map pD)) (show nss _ = true from nss_of fun d hd => by
    obtain ⟨f, _, rfl⟩ := List.mem_map.mp hd
    rfl) (Nat.le_trans (depth_lst (n := 1) fun d hd => by
    obtain ⟨f, _, rfl⟩ := List.mem_map.mp hd
    exact depth_pD f) (by decide))
  simp [h1, h2, any_pair]
end MP

/-! MPz: an own exception class over ValueError whose __init__ is: super().__init__(code); self.code = code. -/
namespace MP
open PySem PySem.Spec PyProof.Rows L2 NdefX
/-- the body of __init__ -/
abbrev initB (p1 p2 p3 p4 p5 p6 p7 p8 p9 p10 : Pos) : List Stmt :=
  [.Expr (.Call (.Attribute (.Call (.Name "super" p1) [] [] p2) "__init__" p3) [.Name "code" p4] [] p5) p6, .Assign [.Attribute (.Name "self" p7) "code" p8] (.Name "code" p9) p10]
/-- super().__init__(code) is a call of a method -/
def SupE (p1 p2 p3 p4 p5 : Pos) (env : Env) : Prop := ∃ pl : Sem Bool, eval (.Call (.Attribute (.Call (.Name "super" p1) [] [] p2) "__init__" p3) [.Name "code" p4] [] p5) env = (do
      let ov ← attributeBase (.Call (.Name "super" p1) [] [] p2) "__init__" env (eval (.Call (.Name "super" p1) [] [] p2) env)
      standAt p3.atName
      let (f, first) ← holding [ov] (getMethod ov "__init__" pl)
      callWith p5 f first (backTo p5 (starEach [.Name "code" p4] env)) [])
/-- its promise -/
def spI (C : Addr) : Sp := fun vs H Q E => ∃ (a : Addr) (z : Str), vs = [.ref a, .str z] ∧ H a = some (exo a C none) ∧ ∀ dx, H dx = none → dx ≠ a → Q .non (upd (upd H dx (exd dx [(("code" : Str), V.str z)])) a (exo a C (some dx)))
/-- what the written part says of the class and its __init__ -/
structure SI (P : Program) (K : PySem.W.Frag) (C f cc cda : Addr) (fd : FuncData) : Prop where
  T : OexC K C
  fdE : ∃ qual params scope dV kV doc pm ct an p1 p2 p3 p4 p5 p6 p7 p8 p9 p10 ar, fd = PySem.W.ksFn "__init__" qual params (initB p1 p2 p3 p4 p5 p6 p7 p8 p9 p10) scope dV kV doc pm an (.ref cda) ct cc ∧
    PySem.W.codeIn K (.ref cda) qual = true ∧ NScope ["self", "code", "__class__"] ["self", "code"] ["__class__"] scope ∧ scope.names.lookup ("super" : Str) = some .globalImplicit ∧ (params.posonlyargs ++ params.args).head? = some ar ∧ ar.arg = ("self" : Str) ∧
    ∀ L : Addr, SupE p1 p2 p3 p4 p5 (callEnv fd L f)
  hlk : ∃ oc od osl, K.lookup f = some ⟨oc, od, .func fd, osl⟩
  hcode : ∃ (ccl : Value) (cdd : Option Addr) (vs : Array Value) (ccs : Array (Option Value)) (file : Str) (tf : Tok), K.lookup cda = some ⟨ccl, cdd, .fields vs, ccs⟩ ∧ vs[2]? = some (.str file tf) ∧ ((P.main.file : Str) == file) = true
  hcell : ∃ cl cld csl, K.lookup cc = some ⟨cl, cld, .cell (some (.ref C)), csl⟩
  cd : ∃ cdC, PySem.W.clsIn K C = some cdC
  sub : PySem.W.mroIn K C (.ref C) = some true
  htop : (P.main.scope.names.lookup ("super" : Str)).isSome = false
  hany : PySem.W.nsIn K cStatics "thirdparty.any" = some none
  hm : PySem.W.ks_superIn K C C "__init__" = some (some (.builtin "ValueError.__init__"))
  hB : PySem.W.subIn K (.ref C) (.type "ValueError") = some true
  hno : PySem.W.findIn K (.ref C) "code" = some none
section
variable {P : Program} {w : World} {K : PySem.W.Frag} {mg : Str → Option Value} {base : Heap} {C f cc cda : Addr} {fd : FuncData} {k : Nat}
theorem fn_sinit (B : SI P K C f cc cda fd) (hsuper : mg "super" = none) : FnOk P w K mg base (L2.CX P w) (k + 1) f fd ["self", "code"] (spI C) := by
  obtain ⟨qual, params, scope, dV, kV, doc, pm, ct, an, p1, p2, p3, p4, p5, p6, p7, p8, p9, p10, ar, rfl, hcd, S, hks, har, hse, hsup⟩ := B.fdE
  obtain ⟨oc, od, osl, hlk⟩ := B.hlk
  obtain ⟨ccl, cdd, vs0, ccs, file, tf, hcode, hvs, hfile⟩ := B.hcode
  obtain ⟨cl, cld, csl, hcell⟩ := B.hcell
  obtain ⟨cdC, hD⟩ := B.cd
  refine ⟨fun vs H Q E h => by obtain ⟨a, z, e, _⟩ := h; rw [e]; rfl, fun A outer s H args us vs Q E hr e0 hb r hsp => ?_⟩
  obtain ⟨a, z, rfl, ea, post⟩ := hsp
  have KX : K.In s.heap := e0.mod.kin.keeps fun b o e => (e0.bs b o e).1
  have lim : s.heap.NoLimit := e0.mod.nolimit.keeps fun b o e => (e0.bs b o e).1
  have hl : us.length = 2 := by have := r.length; simpa using this.symm
  refine ks_codeAny_call_defAt hr.depth (KX _ _ hlk) rfl lim (PySem.W.codeRec_of KX hcd) rfl hb S.nocell (fun x hx => S.par _ (List.of_mem_zip hx).1) (fun h₁ hns kp => ?_) S.co S.gen S.kind
  have kcc := e0.mod.kin _ _ hcell
  have C0 : CellsAt [(("__class__" : Str), cc)] ["__class__"] [some (V.ref C)] s.heap H := by
    have cellA : s.heap.IsCell cc (some (.ref C)) := ⟨_, (e0.bs _ _ kcc).1, rfl⟩
    have lk : ∀ y c, List.lookup y [(("__class__" : Str), cc)] = some c → c = cc ∧ y = "__class__" := fun y c e => by
      simp only [List.lookup] at e
      split at e
      · rename_i hy
        exact ⟨(Option.some.inj e).symm, by simpa using hy⟩
      · cases e
    refine ⟨rfl, fun y c e => ?_, fun x y c e1 e2 => (lk _ _ e1).2.trans (lk _ _ e2).2.symm, fun i y e => ?_⟩
    · rw [(lk y c e).1]
      exact ⟨(e0.bs _ _ kcc).2, _, cellA⟩
    · cases i with
      | zero =>
        obtain rfl : ("__class__" : Str) = y := Option.some.inj e
        refine ⟨cc, by simp [List.lookup], fun v ev => ?_⟩
        obtain rfl : V.ref C = v := Option.some.inj (Option.some.inj ev)
        exact ⟨.ref C, rfl, cellA⟩
      | succ i => simp at e
  have I : Inv (ncx (L2.CX P w) P w K mg base ["self", "code", "__class__"] ⟨"__init__", qual, params, initB p1 p2 p3 p4 p5 p6 p7 p8 p9 p10, scope, [("__class__", cc)], cda⟩ f A outer s H E) [] (startF ["self", "code", "__class__"] [.ref a, .str z] [some (.ref C)]) H
      { s with heap := h₁, toks := s.toks + (["self", "code"].zip us).length } := inv_startN S hr.hd e0 rfl r C0 hns kp
  have KX1 : K.In h₁ := KX.keeps kp
  obtain ⟨nm, q, N, bs, bm, sn, sub, ab, col, dd, k0, k1, k2, k3, k5, hC, hbm⟩ := B.T.cls
  obtain ⟨t1, ho⟩ := exo_at I.hok ea
  have hC1 : h₁.get? C = some _ := KX1 _ _ hC
  have hxC : a ≠ C := fun e => by
    have h1 : h₁.get? a = some _ := ho
    rw [e, hC1] at h1
    have := congrArg Obj.data (Option.some.inj h1)
    cases this
  obtain ⟨oD, hD1, hD2⟩ : ∃ oD, h₁.get? C = some oD ∧ oD.data = .cls cdC := by
    unfold PySem.W.clsIn at hD
    split at hD
    · rename_i c d cd' sl ho
      cases hD
      exact ⟨_, KX1 _ _ ho, rfl⟩
    · cases hD
  obtain ⟨mb, hb1, hb2⟩ := I.mod.blt
  have hkc : scope.names.lookup ("__class__" : Str) = some .free := S.frk _ (by simp)
  have hself : scope.names.lookup ("self" : Str) = some .local := S.par _ (by simp)
  have hcodeL : scope.names.lookup ("code" : Str) = some .local := S.par _ (by simp)
  obtain ⟨u0, u1, rfl⟩ : ∃ u0 u1, us = [u0, u1] := by
    match us, hl with
    | [u0, u1], _ => exact ⟨u0, u1, rfl⟩
  cases r with
  | @cons _ _ _ _ r0 r' =>
  cases r' with
  | @cons _ _ _ _ r1 r'' =>
  obtain rfl : u0 = Value.ref a := r0
  have hns' : h₁.Ns s.heap.objs.size (fun y => ([(("code" : Str), u1), (("self" : Str), Value.ref a)] : List (Str × Value)).lookup y) := hns
  obtain ⟨pl, he⟩ := hsup s.heap.objs.size
  refine ks_wpAt_execs_cons (ks_wpAt_Expr_any (ks_wpAt_MethodCall (pl := pl) ?_ he) I.quiet (by rfl))
  refine ks_wpAt_super_base (ar := ar) hks hkc (by decide) rfl (KX1 _ _ hlk) rfl har rfl (KX1 _ _ hcode) rfl hvs hfile B.htop ?_
  refine PySem.W.ks_loadName_global S.kind hks (Calls.loadGlobal_builtin (I.mod.glob.keeps I.bk) hsuper (hb1.keeps I.bk) ((hb2 _ (by decide)).trans (by first | rfl | kernel_rfl)) ⟨rfl, ?_⟩)
  refine wpAny_loadName_free S.kind hkc rfl ⟨_, KX1 _ _ hcell, rfl⟩ ?_
  rw [hse]
  refine wpAny_loadName_local S.kind hself hns' (v := .ref a) (by rfl) ?_
  refine ks_wpAny_isType_cls hD1 hD2 ⟨rfl, ?_⟩
  refine ks_wpAny_call_super hD1 hD2 ho rfl (fun c e => by cases e) (PySem.W.looks_mroIn KX1 B.sub) (fun h2 e2 k2' => ?_)
  have KX2 : K.In h2 := KX1.keeps k2'
  have ho2 := k2' _ _ ho
  have hso : h2.get? h₁.objs.size = some (PySem.W.ks_superObj C a C) := e2
  have Cl : PySem.W.Looks (model P w) h2 (typeOf (.ref a)) (.ref C) := fun A Q E s k q => wpAny_typeOf_ref (k _ _ ho2) q
  have hI : PySem.W.Looks (model P w) h2 (isInstance (.ref a) (.type "ValueError")) true := Cl.andThen (PySem.W.looks_subIn KX2 B.hB)
  have hm := B.hm
  unfold PySem.W.ks_superIn at hm
  rw [hD] at hm
  refine PySem.W.kxs_getMethod PySem.W.kxs_ValueError hso (PySem.W.looks_opaque KX2 B.hany) (l₀ := cdC.mro) (fun A Q E s k q => wpAny_bind ((PySem.W.looks_clsIn KX2 hD) A _ E s k (wpAny_pure q))) rfl KX2 hm hI hxC (by decide) ?_
  generalize hh3 : h2.push (PySem.W.kxs_mw "ValueError.__init__" a) = h3
  have k3' : ∀ b o, h2.get? b = some o → h3.get? b = some o := fun b o e => by rw [← hh3]; exact Heap.get?_push_of_some _ e
  have hu : h3.get? h2.objs.size = some (PySem.W.kxs_mw "ValueError.__init__" a) := by rw [← hh3]; exact Heap.get?_push_size _ rfl
  have k13 : ∀ b o, h₁.get? b = some o → h3.get? b = some o := fun b o e => k3' _ _ (k2' _ _ e)
  have I3 := I.kept (t' := s.toks + (["self", "code"].zip [Value.ref a, u1]).length + 1) k13
  refine PySem.W.kxs_callWith (i := "ValueError.__init__") (x := a) (by rfl) (Calls.evalArgs_plain ?_)
  refine Calls.spliced_cons ?_
  refine wpAny_Name (wpAny_loadName_local S.kind hcodeL (hns'.keeps k13) (v := u1) (by rfl) ?_) (by decide)
  refine Calls.spliced_nil ⟨hu, ?_⟩
  -- the built-in __init__
  have ho3 : h3.get? a = some (PySem.W.excObj C t1 none .none) := k13 _ _ ho
  have hC3 := k13 _ _ hC1
  refine wpAny_call (codeAny_of_tree ?_)
  show wpAny _ _ (callAny (.ref h2.objs.size) ⟨[u1], []⟩) _ _ _
  simp only [callAny]
  refine wpAny_bind (wpAny_load hu ?_)
  simp only [PySem.W.kxs_mw, show (Value.type "method-wrapper" == Value.type "method" || Value.type "method-wrapper" == Value.type "builtin_function_or_method" || Value.type "method-wrapper" == Value.type "method-wrapper") = true by decide, if_true]
  refine PySem.W.KFB.if_so (by decide) ?_
  refine wpAny_bind (PySem.W.check_bound_init F.excBase_ValueError.toExcCallFacts hC3 ho3 rfl ?_)
  refine wpAny_bind (wpAny_pure (wpAny_pure ?_))
  refine ⟨plainId_quiet F.excBase_ValueError.init.plain _, codeAny_builtin F.excBase_ValueError.initEntry ?_⟩
  refine PySem.W.exc_init_tree (cls := .ref C) (t0 := t1) (dv := none) (c2 := .none) (c3 := .none) (b4 := .bool false) ho3 (by show 1 ≤ sizeLine; rw [sizeLine_eq]; omega) fun h5 k5' e5 e6 => ?_
  have J := I3.write (t' := s.toks + (["self", "code"].zip [Value.ref a, u1]).length + 1) (h' := h5) (x := a) (e := a) (o := exo a C none) (by rw [ea]; exact True.intro) (.inl rfl) k5' ⟨_, e5⟩ (exo_ok e5)
  have eu : upd H a (exo a C none) = H := by
    funext b
    by_cases hb : b = a
    · rw [hb, upd_same, ea]
    · rw [upd_ne hb]
  rw [eu] at J
  have rest := (pss_one (ps_ost (p' := p8) (pos := p10) (f := ("code" : Str)) (X := ncx (L2.CX P w) P w K mg base ["self", "code", "__class__"] ⟨"__init__", qual, params, initB p1 p2 p3 p4 p5 p6 p7 p8 p9 p10, scope, [("__class__", cc)], cda⟩ f A outer s H E)
    (pe_var (i := 0) (x := ("self" : Str)) (pos := p7) rfl (.inl hself) (by decide) (by decide)) (pe_var (i := 1) (x := ("code" : Str)) (pos := p9) rfl (.inl hcodeL) (by decide) (by decide)) (by rfl))).run [] _ _ H { nx := fun _ H' => Q .non H', rt := Q } J
    ⟨V.str z, rfl, V.ref a, rfl, a, C, rfl, B.T, B.hno, .inl ⟨ea, fun dx n ne => post dx n ne⟩⟩
  refine wpAt_of_wpAny (wpAny_mono rest (fun fl s' hs => ?_) fun e s' hs => hs)
  have fin : ∀ {σ' : L2.St} {H' : Hp} {v : V} {u : Value}, Inv (ncx (L2.CX P w) P w K mg base ["self", "code", "__class__"] ⟨"__init__", qual, params, initB p1 p2 p3 p4 p5 p6 p7 p8 p9 p10, scope, [("__class__", cc)], cda⟩ f A outer s H E) [] σ' H' s' → L2.RelV v u → Q v H' → CE outer P w H s Q u s' :=
    fun {σ' H' v u} J rv q => ⟨v, H', J.os, J.bare, J.base, J.hok, rv, q⟩
  cases fl with
  | ret u =>
    obtain ⟨v, σ', H', J, rv, q⟩ := hs
    exact fin J rv q
  | next =>
    obtain ⟨σ', H', J, q⟩ := hs
    exact fin (v := V.non) (u := Value.none) J rfl q
  | brk =>
    obtain ⟨_, _, _, q⟩ := hs
    exact False.elim q
  | cont =>
    obtain ⟨_, _, _, q⟩ := hs
    exact False.elim q
end
end MP

/-! MQa: raise X('code'), X an own class over ValueError whose __init__ is super().__init__(code); self.code = code. -/
namespace MP
open PySem PySem.Spec PyProof.Rows L2
def raiseC (z : Str) : Cs := fun env ta => some (.ex z, env, ta)
/-- what a raise asks of the class -/
structure RaiseC (P : Program) (w : World) (K : PySem.W.Frag) (mg : Str → Option Value) (base : Heap) (x : Str) (C fI : Addr) (fd : FuncData) : Prop where
  T : OexC K C
  iC : PySem.W.findIn K (.ref C) "__init__" = some (some (.ref fI))
  tI : PySem.W.typeIn K (.ref fI) = some (.type "function")
  ok : FnOk P w K mg base (L2.CX P w) 1 fI fd ["self", "code"] (spI C)
  hb : Binds K fd ["self", "code"] []
  hm : mg x = some (.ref C)
section
variable {X : Cx} {c : Ct} {W : WX} {x z : Str} {fI : Addr} {fd : FuncData} {j k : Nat} {p p2 p3 pos : Pos}
theorem s_raise (B : RaiseC X.prog X.w X.K X.mg X.base x c.C fI fd) (hr : Room k X.A) (hk : 2 ≤ k) (tk : Takes X W) (hc : X.calm = true := by rfl) (hg : Gl X x := by rfl) (hd : (x == ("__debug__" : Str)) = false := by decide) :
    PSv X c W (.Raise (some (.Call (.Name x p) [.Constant (.str z) j p2] [] p3)) none pos) (raiseC z) := by
  have pm := pmk_oex (p := p) (pos := p3) (es := []) (dvs := []) B.T B.iC B.tI B.ok (hr.mono hk) B.hb .nil (fun _ _ _ _ _ _ _ h => by
    obtain ⟨_, _, _, _, _, _, _, _, _, _, _, _, q⟩ := h
    exact q.elim) hg B.hm (pa_cons (pe_str (x := z) (j := j) (pos := p2)) pa_nil) hd (by rfl) (by rfl)
  refine ⟨ps_mono (ps_raise hc tk pm) ?_⟩
  rintro D σ H ⟨B0, tp, env, ta, RS, h⟩
  refine ⟨by show 1 ≤ 1000; omega, fun a ha => ⟨a, z, rfl, upd_same, fun dx hdx hne => ⟨rfl, dx, _, upd_same, by rw [upd_ne hne, upd_same], ?_, ?_⟩⟩⟩
  · rw [upd_ne hne] at hdx; exact hdx
  · have hdH : H dx = none := by rw [upd_ne hne] at hdx; exact hdx
    have e : upd (del (upd (upd (upd H a (exo a c.C none)) dx (exd dx [(("code" : Str), V.str z)])) a (exo a c.C (some dx))) a) dx (.xd [(("code" : Str), V.str z)]) = upd H dx (.xd [(("code" : Str), V.str z)]) := by
      funext b
      by_cases hb : b = dx
      · rw [hb, upd_same, upd_same]
      · rw [upd_ne hb, upd_ne hb]
        by_cases hba : b = a
        · rw [hba, del_same]; exact ha.symm
        · rw [del_ne hba, upd_ne hba, upd_ne hb, upd_ne hba]
    show W (.ref c.C) (some dx) σ _
    rw [e]
    have sm : Same H (upd H dx (.xd [(("code" : Str), V.str z)])) := Same.new hdH
    exact h tp σ _ _ _ (.refl _) (.of_same sm) (RS.grow sm) ⟨rfl, dx, _, rfl, upd_same, by simp [List.lookup]⟩
end
end MP

/-! MQb: _law_code(lambda: e): what e comes to, or the code of the exception that it raises. -/
namespace MP
open PySem PySem.Spec PyProof.Rows L2 LamX
section
variable {X : Cx} {pins : List (Addr × Obj)} {σ : L2.St} {H : Hp} {s : Shared}
/-- a lambda is made: of what was tracked only the table of its maker's code object is another, and nothing is gone -/
theorem lam_new {T : List (Addr × Str)} {c P : Addr} {params : Arguments} {body : Expr} {scope : Scope} {pos : Pos} {E Q : Value → Shared → Prop} (I : Inv X pins σ H s) (TB : TabB X.base X.mg c P) (hcode : X.env.code = .ref c)
    (hm : (P, X.env.qual ++ "<lambda>") ∈ T) (hu : ∀ p ∈ T, p.1 = P → p.2 = X.env.qual ++ "<lambda>") (hT : Tabs T H) (hdef : defaultsOf params X.env = ([], [])) (hfree : ∀ y ∈ scope.names, y.2 = .free → ∃ c, X.env.cells.lookup y.1 = some c)
    (h : ∀ (f c' : Addr) (pm ctv : Value) (H1 : Hp) (s' : Shared), Inv X pins σ H1 s' → (∀ b o, b ≠ P → H b = some o → H1 b = some o) → (∀ b, H1 b = none → H b = none) → Tabs T H1 →
      s'.heap.get? f = some (PySem.W.kla_obj "<lambda>" (X.env.qual ++ "<lambda>") params body scope (cloFrom X.env.cells scope.names []) pm c' ctv) → H1 f = none → f ∉ frs X.stack → H1 c' = some (CodeO c' (X.env.qual ++ "<lambda>")) → Q (.ref f) s') :
    wpAny (model X.prog X.w) X.A (eval (.Lambda params body scope pos) X.env) Q E s := by
  obtain ⟨ps, hP, ht, ha⟩ := hT _ hm
  have hP' : s.heap.get? P = some { cls := .none, data := .fields ps } := I.hok P _ hP
  have nofr : ∀ f, s.heap.objs.size ≤ f → f ∉ frs X.stack := fun f hf z => (List.mem_cons.mp (I.stkSub _ z)).elim
    (fun e => absurd (e ▸ hf) (Nat.not_le_of_gt I.lt)) fun e => I.nofs hf e
  refine PySem.W.kla_eval hdef ?_
  rcases hc : codeAmong pos ps.toList with _ | cv
  · refine PySem.W.kla_makeFunction (mg := X.mg) (c := c) (P := P) (ps := ps) (closure_ok hfree) I.ok.glob (I.mod.glob.keeps I.bk) hcode (TB.code.keeps I.bk) hP' ht hc TB.gP (TB.bm.keeps I.bk) fun c' ctv h' tk hx hge hlt hrec htb => ?_
    obtain ⟨c2, oc, vs, t, e2, hoc, hd, hv⟩ := hrec
    cases e2
    have nC : H c' = none := I.hok.fresh hge
    have hPc : P ≠ c' := ne_of_none hP nC
    have J := inv_table (q := X.env.qual ++ "<lambda>") (t' := tk) (more := #[rawInt pos.line, rawInt pos.col, .ref c']) (h' := h'.push (PySem.W.kla_obj "<lambda>" (X.env.qual ++ "<lambda>") params body scope (cloFrom X.env.cells scope.names []) ((X.mg "__name__").getD .none) c' ctv)) I hP
      (fun b o hb e => Heap.get?_push_of_some _ (hx b o hb e)) (Heap.get?_push_of_some _ htb) hge ⟨oc, vs, t, Heap.get?_push_of_some _ hoc, hd, hv⟩
    have kp : ∀ b o, b ≠ P → H b = some o → (upd (upd H P (.tbl (ps ++ #[rawInt pos.line, rawInt pos.col, .ref c']))) c' (CodeO c' (X.env.qual ++ "<lambda>"))) b = some o := fun b o hb e => by
      rw [upd_ne (ne_of_none e nC), upd_ne hb]; exact e
    have gone : ∀ b, (upd (upd H P (.tbl (ps ++ #[rawInt pos.line, rawInt pos.col, .ref c']))) c' (CodeO c' (X.env.qual ++ "<lambda>"))) b = none → H b = none := fun b e => by
      by_cases h1 : b = c'
      · rw [h1, upd_same] at e; cases e
      · rw [upd_ne h1] at e
        by_cases h2 : b = P
        · rw [h2, upd_same] at e; cases e
        · rw [upd_ne h2] at e; exact e
    have hsz : s.heap.objs.size ≤ h'.objs.size := Nat.le_trans hge (Nat.le_of_lt hlt)
    have notC : ∀ {c0 : Addr}, H c0 = some (CodeO c0 (X.env.qual ++ "<lambda>")) → c0 ≠ P := fun {c0} e z => by
      rw [z, hP] at e
      exact codeO_ne ps (Option.some.inj e).symm
    refine h h'.objs.size c' ((X.mg "__name__").getD .none) ctv _ _ J kp gone (fun p hp => ?_) (Heap.get?_push_size _ rfl) ?_ (nofr _ hsz) upd_same
    · by_cases hb : p.1 = P
      · rw [hu p hp hb, hb]
        have eL : (ps ++ #[rawInt pos.line, rawInt pos.col, .ref c']).toList = ps.toList ++ [rawInt pos.line, rawInt pos.col, .ref c'] := by simp
        refine ⟨_, by rw [upd_ne hPc, upd_same], by rw [eL]; exact PySem.TriplesOk_snoc _ _ _ _ ht, fun p' cv hcv => ?_⟩
        rw [eL] at hcv
        rcases among_app _ ht hcv with z | z
        · obtain ⟨c0, e1, e2⟩ := ha p' cv z
          exact ⟨c0, e1, kp _ _ (notC e2) e2⟩
        · exact ⟨c', z, upd_same⟩
      · obtain ⟨ps', a1, a2, a3⟩ := hT p hp
        refine ⟨ps', kp _ _ hb a1, a2, fun p' cv hcv => ?_⟩
        obtain ⟨c0, e1, e2⟩ := a3 p' cv hcv
        refine ⟨c0, e1, kp _ _ (fun z => ?_) e2⟩
        rw [z, hP] at e2
        exact codeO_ne ps (Option.some.inj e2).symm
    · rw [upd_ne (Nat.ne_of_gt hlt), upd_ne (Nat.ne_of_gt (Nat.lt_of_lt_of_le (Heap.lt_size hP') hsz))]
      exact I.hok.fresh hsz
  · obtain ⟨c', e, hco⟩ := ha pos cv hc
    subst e
    refine PySem.W.kla_makeFunctionHit (mg := X.mg) (c := c) (P := P) (ps := ps) (closure_ok hfree) I.ok.glob (I.mod.glob.keeps I.bk) hcode (TB.code.keeps I.bk) hP' ht hc (TB.bm.keeps I.bk) fun ctv h' tk hx hsz => ?_
    have J : Inv X pins σ H { s with heap := h'.push (PySem.W.kla_obj "<lambda>" (X.env.qual ++ "<lambda>") params body scope (cloFrom X.env.cells scope.names []) ((X.mg "__name__").getD .none) c' ctv), toks := tk } := I.kept fun b o e => Heap.get?_push_of_some _ (hx b o e)
    exact h h'.objs.size c' ((X.mg "__name__").getD .none) ctv H _ J (fun _ _ _ e => e) (fun _ e => e) hT (Heap.get?_push_size _ rfl) (I.hok.fresh hsz) (nofr _ hsz) hco
end
/-! ### try: return a() / except x as n: return n.code -/
def TTcode (K : PySem.W.Frag) (CS : Addr) : (XK → Hp → VK → Prop) → Hp → VK → Prop := fun tl H Q =>
  tl (fun cls d H' => cls = .ref CS ∧ ∃ (dd : Addr) (fs : List (Str × V)) (v : V), d = some dd ∧ H' dd = some (.xd fs) ∧ fs.lookup ("code" : Str) = some v ∧ Q v H') H Q
theorem code_gives {X : Cx} {Ng : List Str} {x a e q n : Str} {sg : Scope} {g CS : Addr} {cdg : Value} {p1 p2 p3 p4 p5 p6 p7 p8 p9 : Pos} (hge : sg.names.lookup e = some .globalImplicit) (hme : X.mg e = some (.ref CS)) (hde : (e == ("__debug__" : Str)) = false) (h0 : ∀ f : Addr, (L2.start Ng [V.ref f])[0]? = some (some (V.ref f)))
    (hN : Ng.Nodup) (hi : Ng[1]? = some n) (hln : sg.names.lookup n = some .local) (hnd : (n == ("__debug__" : Str)) = false) (hncd : (n == ("__classdict__" : Str)) = false)
    (hex : PySem.W.exmOne X.K (.ref CS) (.ref CS) = some true) (Tx : XfC X.K CS) (hno : PySem.W.findIn X.K (.ref CS) "code" = some none)
    (hab : ∀ L : Addr, attributeBase (.Name n p6) "code" (envOfC x sg L g cdg) (eval (.Name n p6) (envOfC x sg L g cdg)) = eval (.Name n p6) (envOfC x sg L g cdg)) :
    GivesTo X Ng x sg g cdg [.Try [.Return (some (.Call (.Name a p1) [] [] p2)) p3] [.ExceptHandler (some (.Name e p4)) (some n) [.Return (some (.Attribute (.Name n p6) "code" p7)) p8] p9] [] [] p5] a q (TTcode X.K CS) := by
  intro f c' s H Q tl act hc h
  have hgl : Gl (cxOf C8.CX0 X.prog X.w X.K X.mg X.base Ng x sg g cdg X.A X.stack s H C8.E0).nox e := hge
  refine ⟨_, pss_one (ps_try_as (X := (cxOf C8.CX0 X.prog X.w X.K X.mg X.base Ng x sg g cdg X.A X.stack s H C8.E0).nox) (c := .ref CS) (i := 1) (n := n)
      (tb := fun W D σ H => ∃ Ech : XK, (∀ cls d σ' H', Ech cls d H' → σ'.length = Ng.length → W cls d σ' H') ∧ σ[0]? = some (some (.ref f)) ∧ H c' = some (CodeO c' q) ∧ tl Ech H D.rt)
      (ts := fun a cls d => tRet (tXf a cls d CS "code" (tVar 1)))
      rfl rfl hN hi hln ⟨hgl, hde, .inl hme⟩ L2.takes0 (fun W pn xe tk _ => ?_) (fun a oe cls d pn hz hf => pss_one (ps_ret (pe_xf Tx hno hz hf (pe_var hi (.inl hln) hnd hncd) (hab _))))), ?_⟩
  · refine ⟨fun pins s' σ H' D I h' => ?_⟩
    obtain ⟨Ech, hW, h1, h2, h3⟩ := h'
    have tk2 : Takes ((cxOf C8.CX0 X.prog X.w X.K X.mg X.base Ng x sg g cdg X.A X.stack s H C8.E0).tr pn xe) (fun cls d σ H => σ.length = Ng.length → W cls d σ H) :=
      fun u s' ⟨a, B, sI, pins, σ, H, cls, d, e, I, nb, up, sky, na, os, ag, w⟩ => tk u s' ⟨a, B, sI, pins, σ, H, cls, d, e, I, nb, up, sky, na, os, ag, w I.len⟩
    have hp := act _ pn xe Ech p1 p2 tk2 hW
    have hq := pss_one (ps_ret (pos := p3) hp)
    exact hq.run pins s' σ H' D I ⟨h1, h2, h3⟩
  · refine ⟨_, fun cls d σ' H' hE hl => ?_, h0 f, hc, h⟩
    obtain ⟨rfl, dd, fs, v, ed, eH, el, q⟩ := hE
    refine ⟨true, hex, fun _ a na => ?_, fun z => by cases z⟩
    have hl1 : 1 < Ng.length := by
      have := List.getElem?_eq_some_iff.mp hi
      exact this.1
    exact ⟨.ref a, List.getElem?_set_self (by omega), rfl, rfl, dd, fs, v, ed, eH, el, q⟩
/-! ### the rule -/
/-- what e comes to, or the code -/
def codeE (f : Ev) : Ev := fun env ta => match f env ta with
  | some (.ok (.val d), t) => some (.ok (.val d), t)
  | some (.error z, t) => some (.ok (.val (.str z)), t)
  | _ => none
/-- what a call of _law_code asks of it -/
structure CodeC (P : Program) (K : PySem.W.Frag) (mg : Str → Option Value) (x : Str) (C g : Addr) (fd : FuncData) : Prop where
  hm : mg x = some (.ref g)
  hk : PySem.W.keepIn K (.ref g) = true
  hex : PySem.W.exmOne K (.ref C) (.ref C) = some true
  Tx : XfC K C
  hno : PySem.W.findIn K (.ref C) "code" = some none
  fdE : ∃ (a e n : Str) (oc : Value) (od : Option Addr) (osl : Array (Option Value)) (pg : Arguments) (sg : Scope) (dV kV doc pm cdv ct : Value) (an : Option Addr) (p1 p2 p3 p4 p5 p6 p7 p8 p9 : Pos),
    fd = PySem.W.fnOf x x pg [.Try [.Return (some (.Call (.Name a p1) [] [] p2)) p3] [.ExceptHandler (some (.Name e p4)) (some n) [.Return (some (.Attribute (.Name n p6) "code" p7)) p8] p9] [] [] p5] sg dV kV doc pm an cdv ct ∧
    K.lookup g = some ⟨oc, od, .func fd, osl⟩ ∧ PySem.W.codeIn K cdv x = true ∧ L2.Binds K fd [a] [] ∧ FnScope [a, n] [a] sg ∧ Vis sg a ∧ sg.names.lookup e = some .globalImplicit ∧ mg e = some (.ref C) ∧ (e == ("__debug__" : Str)) = false ∧ sg.names.lookup n = some .local ∧
    (n == ("__debug__" : Str)) = false ∧ (n == ("__classdict__" : Str)) = false ∧ (a == ("__debug__" : Str)) = false ∧ (a == ("__classdict__" : Str)) = false ∧
    ∀ L : Addr, attributeBase (.Name n p6) "code" (envOfC x sg L g cdv) (eval (.Name n p6) (envOfC x sg L g cdv)) = eval (.Name n p6) (envOfC x sg L g cdv)
section
variable {X : Cx} {ct : Ct} {W : WX} {x : Str} {g c P : Addr} {fd : FuncData} {j k : Nat} {params : Arguments} {body : Expr} {scope : Scope} {f : Ev} {p lpos pos : Pos}
theorem RepS.kept {K : PySem.W.Frag} {B H H1 : Hp} {tp : Option Addr} {σ : L2.St} {env : SE} {ta : TapeO} (R : RepS K ct B tp σ H env ta) (hP : P ∈ ct.T.map (·.1)) (kp : ∀ b o, b ≠ P → H b = some o → H1 b = some o) (gone : ∀ b, H1 b = none → H b = none) : Kp ct tp H H1 := by
  have hT : ∃ ps, H P = some (.tbl ps) := by
    obtain ⟨q, hq, e⟩ := List.mem_map.mp hP
    obtain ⟨ps, e1, _⟩ := R.tabs q hq
    exact ⟨ps, by rw [← e]; exact e1⟩
  obtain ⟨ps, hps⟩ := hT
  refine ⟨fun a o e n => kp a o (fun z => n (.inr (by rw [z]; exact hP))) e, ⟨fun a xs e => kp a _ (fun z => ?_) e, fun a o u e => kp a _ (fun z => ?_) e⟩, gone⟩
  · rw [z, hps] at e; cases e
  · rw [z, hps] at e; cases e
theorem v_code (B : CodeC X.prog X.K X.mg x ct.C g fd) (TB : TabB X.base X.mg c P) (hcode : X.env.code = .ref c) (hmT : (P, X.env.qual ++ "<lambda>") ∈ ct.T) (hu : ∀ p ∈ ct.T, p.1 = P → p.2 = X.env.qual ++ "<lambda>") (hr : Room j X.A) (hj : k + 2 ≤ j)
    (L : LamS X.env.scope scope) (hbind : ∀ (q : Str) (cl : List (Str × Addr)) (pm cv ctv : Value), bindArgs (PySem.W.kla_fn "<lambda>" q params body scope cl pm cv ctv) ⟨[], []⟩ = pure [])
    (hbody : ∀ (A : Around) (outer : List Env) (s : Shared) (H : Hp) (E : XK) (f0 c' : Addr), Room k (A.deeper (lamEnv X scope s.heap.objs.size f0 c')) → PEv (lamCx X A outer s H E scope f0 c') ct (fun cls d _ H' => E cls d H') body f)
    (hg : Gl X x := by rfl) (hdef : defaultsOf params X.env = ([], []) := by rfl) (hdb : (x == ("__debug__" : Str)) = false := by decide) :
    PEv X ct W (.Call (.Name x p) [.Lambda params body scope lpos] [] pos) (codeE f) := by
  obtain ⟨a, e, n, oc, od, osl, pg, sg, dV, kV, doc, pm, cdv, ctv0, an, p1, p2, p3, p4, p5, p6, p7, p8, p9, rfl, lk, hcg, hb, Sg, hva, hge, hme, hde, hln, hnd, hncd, had, hacd, hab⟩ := B.fdE
  have hG := code_gives (X := X) (Ng := [a, n]) (q := X.env.qual ++ "<lambda>") (a := a) (p1 := p1) (p2 := p2) (p3 := p3) (p4 := p4) (p5 := p5) (p7 := p7) (p8 := p8) (p9 := p9) hge hme hde (fun _ => rfl) Sg.nd rfl hln hnd hncd B.hex B.Tx B.hno hab
  refine ⟨⟨fun pins s σ H Q I h => ?_⟩⟩
  obtain ⟨B0, tp, env, ta, RS, h⟩ := h
  have hPT : P ∈ ct.T.map (·.1) := List.mem_map.mpr ⟨_, hmT, rfl⟩
  refine wpAny_Call_Name_kw (ld_glob I hg B.hm ?_ hdb)
  refine PySem.W.callWith_K (h₀ := X.base) I.ok.mod.kin B.hk ?_ (by rfl) (by rfl)
  show wpAny _ _ (spliced ((false, eval (.Lambda params body scope lpos) X.env) :: backTo pos (starEach [] X.env))) _ _ s
  refine Calls.spliced_cons (lam_new I TB hcode hmT hu RS.tabs hdef (L.has I.ok) fun f0 c' pm' ctv H1 s' I1 kp gone T1 hf hfn hfr hco => ?_)
  refine Calls.spliced_nil ⟨I1.kIn, ?_⟩
  have K1 : Kp ct tp H H1 := RS.kept hPT kp gone
  have tape1 : TapeR X.K H1 tp ta := by
    have t := RS.tape
    cases tp with
    | none => cases ta with
      | none => exact t
      | some _ => exact t.elim
    | some b => cases ta with
      | none => exact t.elim
      | some tt =>
        obtain ⟨sc, e1, e2⟩ := t
        refine ⟨sc, kp _ _ (fun z => ?_) e1, K1.st.fz e2⟩
        obtain ⟨q, hq, eq⟩ := List.mem_map.mp hPT
        obtain ⟨ps, e3, _⟩ := RS.tabs q hq
        rw [eq, ← z, e1] at e3
        cases e3
  have R1 : RepS X.K ct B0 tp σ H1 env ta := RS.kp K1 tape1 T1
  have rc : codeAny (model X.prog X.w) X.A (.call (.ref g) ⟨[.ref f0], []⟩) (CR C8.CX0 X.stack X.prog X.w H1 s' Q C8.E0) s' := by
    refine run_ofS (N := [a, n]) (ps := [a]) (us := [.ref f0]) (vs := [.ref f0]) lk hcg Sg (hr.mono (show (k + 1) + 1 ≤ j by omega)) I1.env0 (hb s' [.ref f0] I1.kIn rfl) (.cons rfl .nil) rfl fun hr' => ?_
    have hTT : TTcode X.K ct.C (fun E H' Q' => tE X.K ct (fun cls d _ H' => E cls d H') f σ H' Q') H1 Q := by
      refine ⟨B0, tp, env, ta, R1, ?_⟩
      unfold codeE at h
      cases e0 : f env ta with
      | none => rw [e0] at h; exact h
      | some q =>
        obtain ⟨r, t⟩ := q
        rw [e0] at h
        cases r with
        | error z => exact fun cls d H' R' K' ⟨ec, dd, fs, ed, eH, el⟩ => ⟨ec, dd, fs, .str z, ed, eH, el, h _ H' R' (K1.trans K') (Rep.str z)⟩
        | ok r =>
          cases r with
          | val d => exact fun v H' R' K' V' => h v H' R' (K1.trans K') V'
          | _ => exact h.elim
    obtain ⟨t', ht', hq'⟩ := hG f0 c' s' H1 Q (fun E H' Q' => tE X.K ct (fun cls d _ H' => E cls d H') f σ H' Q') (fun W pn xe E q1 q2 tk hW => pe_act (i := 0) I1 L hf hfn hfr (hbind _ _ _ _ _) tk hW hr' (fun A outer s H hr2 => (hbody A outer s H E f0 c' hr2).pe) rfl hva had hacd) hco hTT
    exact ⟨t', ht'.nox, hq'⟩
  refine wpAny_call (codeAny_mono rc fun r s2 hq => ?_)
  cases r with
  | error e => exact (show False from hq).elim
  | ok fl =>
    cases fl with
    | ret u => exact I1.after hq
    | next => exact False.elim hq
    | brk => exact False.elim hq
    | cont => exact False.elim hq
end
end MP

/-! MQc: a law whose text makes lambdas: its promise, its end. -/
namespace MP
open PySem PySem.Spec PyProof.Rows L2
/-- the promise of such a law: True comes out -/
def LSpL (K : PySem.W.Frag) (c : Ct) (n : Nat) (cs : Cs) : Sp := fun vs H Q E => ∃ (a : Addr) (ns : List Int), vs = [.ref a] ∧ SqL K H a (ns.map V.int) ∧ LamX.Tabs c.T H ∧
  (∃ env t, cs ([.val (.lst (ns.map D.int))] ++ List.replicate (n - 1) .un) none = some (.rt (.val (.bl true)), env, t)) ∧ ∀ H', Q (.bl true) H'
section
variable {P : Program} {w : World} {K : PySem.W.Frag} {mg : Str → Option Value} {base : Heap} {c : Ct}
/-- a law, its code object known -/
theorem fn_lawL {x : Str} {st : Stmt} {f : Addr} {oc : Value} {od an : Option Addr} {osl : Array (Option Value)} {kV doc pm cdv ct : Value} {N ps : List Str} {k : Nat} {cs : Cs}
    (lk : K.lookup f = some ⟨oc, od, .func (PySem.W.fnOf x x (defArgs st) (defBody st) (defScope st) .none kV doc pm an cdv ct), osl⟩) (hcd : PySem.W.codeIn K cdv x = true) (S : FnScope N ps (defScope st)) (hNl : ps.length ≤ N.length) (hps : ps.length = 1)
    (hbody : ∀ (A : Around) (outer : List Env) (s : Shared) (H : Hp) (E : XK), Room k (A.deeper (envOfC x (defScope st) s.heap.objs.size f cdv)) →
      PSsv (cxOf (L2.CX P w) P w K mg base N x (defScope st) f cdv A outer s H E) c (fun cls d _ H' => E cls d H') (defBody st) cs) :
    FnOk P w K mg base (L2.CX P w) (k + 1) f (PySem.W.fnOf x x (defArgs st) (defBody st) (defScope st) .none kV doc pm an cdv ct) ps (LSpL K c N.length cs) := by
  refine fn_of lk hcd S (fun vs H Q E h => by obtain ⟨_, _, h, _⟩ := h; rw [h, hps]; rfl) fun A outer s H vs Q E hr h => ?_
  obtain ⟨a, ns, rfl, hS, tb, ⟨env, t, e⟩, post⟩ := h
  have hb := hbody A outer s H E hr
  have fin : ∀ H0 : Hp, LamX.Tabs c.T H0 → FzL K H0 a (ns.map V.int) → tSs K c (fun cls d _ H' => E cls d H') cs { nx := fun _ H' => Q .non H', rt := Q } (L2.start N [.ref a]) H0 := fun H0 tb0 fz => by
    refine ⟨H0, none, _, none, rep_start (args := [.val (.lst (ns.map D.int))]) (by show 1 ≤ N.length; omega) (.cons (Rep.lst fz (Reps.ints ns)) .nil) rfl trivial tb0, ?_⟩
    show SPost K c _ H0 none H0 _ (cs ([.val (.lst (ns.map D.int))] ++ List.replicate (N.length - 1) .un) none)
    rw [e]
    intro tp' σ' H' v l st R V
    rw [RepV.bl V]
    exact post H'
  rcases hS with (hl | ⟨o, hf⟩) | hk
  · refine ⟨fun D σ H0 => ∀ o : Obj, tSs K c (fun cls d _ H' => E cls d H') cs D σ (upd H0 a (.frz o (.lst (ns.map V.int)))) ∧ H0 a = some (.lst (ns.map V.int)), ⟨fun pins s1 σ H0 D I h => ?_⟩, fun o => ⟨fin _ ?_ (.inl ⟨o, upd_same⟩), hl⟩⟩
    · obtain ⟨od, I2⟩ := I.lock (h default).2 trivial
      exact hb.ps.run pins s1 σ _ D I2 (h od).1
    · intro q hq
      obtain ⟨pz, e1, e2, e3⟩ := tb q hq
      have ne : ∀ {b : Addr} {u : HO}, H b = some u → u ≠ .lst (ns.map V.int) → b ≠ a := fun {b u} hb hu z => by
        rw [z, hl] at hb
        exact hu (Option.some.inj hb).symm
      refine ⟨pz, by rw [upd_ne (ne e1 (fun z => by cases z))]; exact e1, e2, fun pos cv hc => ?_⟩
      obtain ⟨c0, h1, h2⟩ := e3 pos cv hc
      exact ⟨c0, h1, by rw [upd_ne (ne h2 (fun z => by unfold LamX.CodeO at z; cases z))]; exact h2⟩
  · exact ⟨_, hb.ps, fin H tb (.inl ⟨o, hf⟩)⟩
  · exact ⟨_, hb.ps, fin H tb (.inr hk)⟩
end
/-- the promise, of all scripts -/
theorem lspL_law {K : PySem.W.Frag} {c : Ct} {n : Nat} {cs : Cs} {H : Hp} {a : Addr} {ns : List Int} (hT : ∀ p ∈ c.T, H p.1 = some (.tbl #[])) (hS : SqL K H a (ns.map V.int)) (hΦ : ∃ env t, cs ([.val (.lst (ns.map D.int))] ++ List.replicate (n - 1) .un) none = some (.rt (.val (.bl true)), env, t)) :
    LSpL K c n cs [.ref a] H (fun v _ => v = .bl true) fun _ _ _ => False :=
  ⟨a, ns, rfl, hS, fun p hp => LamX.TabS.nil (hT p hp), hΦ, fun _ => rfl⟩
/-! reckoning -/
@[simp] theorem raiseC_ap {z : Str} {env : SE} {ta : TapeO} : raiseC z env ta = some (.ex z, env, ta) := Eq.trans rfl rfl
def codeK (r : Option (Except Str Sl × TapeO)) : Option (Except Str Sl × TapeO) := match r with
  | some (.ok (.val d), t) => some (.ok (.val d), t)
  | some (.error z, t) => some (.ok (.val (.str z)), t)
  | _ => none
@[simp] theorem codeE_ap {f : Ev} {env : SE} {ta : TapeO} : codeE f env ta = codeK (f env ta) := Eq.trans rfl rfl
@[simp] theorem codeK_ok {d : D} {t : TapeO} : codeK (some (.ok (.val d), t)) = some (.ok (.val d), t) := Eq.trans rfl rfl
@[simp] theorem codeK_err {z : Str} {t : TapeO} : codeK (some (.error z, t)) = some (.ok (.val (.str z)), t) := Eq.trans rfl rfl
end MP

namespace MP
open PySem PySem.Spec PyProof.Rows L2
namespace K41
def top (i : Nat) : Stmt := PySem.Challenge.pw_secrethall_k41_whole_rows_of_any_length.main.body.getD i (.Pass ⟨0, 0, 0, 0⟩)
def FUEL : Nat := 100000
/-! _law_begin(script): 0 script, 1 seed, 2 cell -/
def N__law_begin : List Str := ["script", "seed", "cell"]
def C__law_begin : Cs :=
  (seqC (asgC 1 (cstE (.int 1)))
  (seqC (forC (seqF (varE 0)) (.one 2) (asgC 1 (binE modS (binE addS (binE addS (binE mulS (varE 1) (cstE (.int 69621))) (binE modS (callE intS [(varE 2)]) (cstE (.int 2147483629)))) (cstE (.int 7))) (cstE (.int 2147483647)))))
  (retC (lstE [(escE (callE listS [(varE 0)])), (cstE (.int 0)), (cstE (.int 0)), (varE 1)]))))
def F__law_begin : Fn := defF 3 C__law_begin
/-! _law_take(d, many): 0 d, 1 many, 2 small, 3 digit -/
def N__law_take : List Str := ["d", "many", "small", "digit"]
def C__law_take : Cs :=
  (seqC (ifC (andT (ofE (binE eqS (tgetE 0 2) (cstE (.int 0)))) (ofE (binE ltS (tgetE 0 1) (callE lenS [(tgetE 0 0)])))) (seqC (tsetC 0 2 (callE absS [(callE intS [(binE ixS (tgetE 0 0) (tgetE 0 1))])]))
  (seqC (tsetC 0 1 (binE addS (tgetE 0 1) (cstE (.int 1))))
  (ifC (ofE (binE ltS (tgetE 0 2) (binE powS (cstE (.int 10)) (cstE (.int 18))))) (seqC (asgC 2 (callE intS [(tgetE 0 2)]))
  (seqC (tsetC 0 2 (cstE (.int 0)))
  (retC (binE modS (varE 2) (varE 1))))) skipC))) skipC)
  (seqC (ifC (ofE (binE gtS (tgetE 0 2) (cstE (.int 0)))) (seqC (asgC 3 (binE modS (callE intS [(tgetE 0 2)]) (varE 1)))
  (seqC (tsetC 0 2 (binE fdivS (callE intS [(tgetE 0 2)]) (varE 1)))
  (retVC 3))) skipC)
  (seqC (tsetC 0 3 (binE modS (callE intS [(binE addS (binE mulS (tgetE 0 3) (cstE (.int 48271))) (cstE (.int 11)))]) (cstE (.int 2147483647))))
  (retC (binE modS (callE intS [(binE fdivS (tgetE 0 3) (cstE (.int 3)))]) (varE 1))))))
def F__law_take : Fn := defF 4 C__law_take
/-! _law_pick(d, menu): 0 d, 1 menu -/
def N__law_pick : List Str := ["d", "menu"]
def C__law_pick : Cs :=
  (retC (binE ixS (varE 1) (callF F__law_take [(varE 0), (callE lenS [(varE 1)])])))
def F__law_pick : Fn := defF 2 C__law_pick
/-! check_table(table): 0 table, 1 one -/
def N_check_table : List Str := ["table", "one"]
def C_check_table : Cs :=
  (seqC (ifC (notT (ofE (chainE leS leS (cstE (.int 2)) (callE lenS [(varE 0)]) (cstE (.int 64))))) (raiseC "table") skipC)
  (ifC (notT (ofE (callE allS [(compE (seqI (varE 0)) [1] (.one 1) yesT (chainE leS ltS (cstE (.int 0)) (varE 1) (callE lenS [(varE 0)])))]))) (raiseC "crushed") skipC))
def F_check_table : Fn := defF 2 C_check_table
/-! is_earlier(table, last, one, most): 0 table, 1 last, 2 one, 3 most, 4 times -/
def N_is_earlier : List Str := ["table", "last", "one", "most", "times"]
def C_is_earlier : Cs :=
  (seqC (dropC (callF F_check_table [(varE 0)]))
  (seqC (ifC (notT (ofE (chainE leS ltS (cstE (.int 0)) (varE 2) (callE lenS [(varE 0)])))) (raiseC "number") skipC)
  (seqC (forC (argI rg1S [(binE addS (callE min2S [(varE 3), (callE lenS [(varE 0)])]) (cstE (.int 1)))]) (.one 4) (seqC (ifC (ofE (binE eqS (varE 2) (varE 1))) (retVC 4) skipC)
  (asgC 2 (binE ixS (varE 0) (varE 2)))))
  (retC (cstE .non)))))
def F_is_earlier : Fn := defF 5 C_is_earlier
/-! _law_earlier(table, last, one, most): 0 table, 1 last, 2 one, 3 most, 4 seen, 5 times -/
def N__law_earlier : List Str := ["table", "last", "one", "most", "seen", "times"]
def C__law_earlier : Cs :=
  (seqC (par2C 4 5 [(lstE []), (cstE (.int 0))])
  (seqC (whileC (andT (ofE (binE leS (varE 5) (varE 3))) (ofE (binE ninS (varE 2) (varE 4)))) (seqC (ifC (ofE (binE eqS (varE 2) (varE 1))) (retVC 5) skipC)
  (seqC (appC 4 (varE 2))
  (seqC (asgC 2 (binE ixS (varE 0) (varE 2)))
  (asgC 5 (binE addS (varE 5) (cstE (.int 1))))))) FUEL)
  (retC (cstE .non))))
def F__law_earlier : Fn := defF 6 C__law_earlier
/-! chain(table, start, many): 0 table, 1 start, 2 many, 3 found, 4 _ -/
def N_chain : List Str := ["table", "start", "many", "found", "_"]
def C_chain : Cs :=
  (seqC (dropC (callF F_check_table [(varE 0)]))
  (seqC (ifC (notT (ofE (chainE leS ltS (cstE (.int 0)) (varE 1) (callE lenS [(varE 0)])))) (raiseC "number") skipC)
  (seqC (ifC (notT (ofE (chainE leS leS (cstE (.int 0)) (varE 2) (cstE (.int 64))))) (raiseC "many") skipC)
  (seqC (asgC 3 (lstE [(varE 1)]))
  (seqC (forC (argI rg1S [(varE 2)]) (.one 4) (appC 3 (binE ixS (varE 0) (binE ixS (varE 3) (unE negS (cstE (.int 1)))))))
  (retC (callE tupleS [(varE 3)])))))))
def F_chain : Fn := defF 5 C_chain
/-! back(table, goal): 0 table, 1 goal, 2 one, 3 told -/
def N_back : List Str := ["table", "goal", "one", "told"]
def C_back : Cs :=
  (seqC (dropC (callF F_check_table [(varE 0)]))
  (retC (callE tupleS [(compE (argI (enumS false) [(varE 0)]) [2, 3] (.tup [2, 3]) (ofE (binE eqS (varE 3) (varE 1))) (varE 2))])))
def F_back : Fn := defF 4 C_back
/-! law(script): 0 script, 1 d, 2 many, 3 shift, 4 table, 5 one, 6 last, 7 most, 8 told, 9 k -/
def N_law : List Str := ["script", "d", "many", "shift", "table", "one", "last", "most", "told", "k"]
def C_law : Cs :=
  (seqC (asgC 1 (callF F__law_begin [(varE 0)]))
  (seqC (seqC (tapeC 1) (asgC 2 (callF F__law_pick [(varE 1), (escE (lstE [(cstE (.int 2)), (cstE (.int 3)), (cstE (.int 7)), (cstE (.int 20)), (cstE (.int 63)), (cstE (.int 64))]))])))
  (seqC (asgC 3 (binE addS (cstE (.int 1)) (callF F__law_take [(varE 1), (varE 2)])))
  (seqC (asgC 4 (callE tupleS [(compE (argI rg1S [(varE 2)]) [9] (.one 9) yesT (ifE (ofE (binE gtS (callF F__law_take [(varE 1), (cstE (.int 9))]) (cstE (.int 0)))) (binE modS (callE intS [(binE addS (varE 9) (varE 3))]) (varE 2)) (callF F__law_take [(varE 1), (varE 2)])))]))
  (seqC (ifC (ofE (binE eqS (callF F__law_take [(varE 1), (cstE (.int 2))]) (cstE (.int 0)))) (asgC 4 (callE tupleS [(compE (argI rg1S [(varE 2)]) [9] (.one 9) yesT (binE modS (callE intS [(binE addS (varE 9) (cstE (.int 1)))]) (varE 2)))])) skipC)
  (seqC (asgC 5 (callF F__law_take [(varE 1), (varE 2)]))
  (seqC (forC (seqF (escE (lstE [(callF F__law_take [(varE 1), (varE 2)]), (binE modS (callE intS [(binE subS (binE addS (varE 5) (varE 2)) (cstE (.int 1)))]) (varE 2)), (binE ixS (varE 4) (varE 5)), (varE 5), (varE 2), (binE subS (cstE (.int 0)) (cstE (.int 1)))]))) (.one 6) (seqC (forC (seqF (escE (lstE [(binE subS (cstE (.int 0)) (cstE (.int 1))), (cstE (.int 0)), (cstE (.int 1)), (callF F__law_take [(varE 1), (cstE (.int 64))]), (binE subS (varE 2) (cstE (.int 2))), (binE subS (varE 2) (cstE (.int 1))), (varE 2), (binE powS (cstE (.int 10)) (cstE (.int 12))), (binE powS (cstE (.int 10)) (cstE (.int 30)))]))) (.one 7) (ifC (ofE (binE neS (callF F_is_earlier [(varE 4), (varE 6), (varE 5), (varE 7)]) (callF F__law_earlier [(varE 4), (varE 6), (varE 5), (varE 7)]))) (retC (cstE (.bl false))) skipC))
  (seqC (asgC 8 (callF F_is_earlier [(varE 4), (varE 6), (varE 5), (binE powS (cstE (.int 10)) (cstE (.int 30)))]))
  (ifC (andT (ofE (binE isntS (varE 8) (cstE .non))) (orT (ofE (binE neS (binE ixS (callF F_chain [(varE 4), (varE 5), (varE 8)]) (unE negS (cstE (.int 1)))) (varE 6))) (andT (ofE (binE gtS (varE 8) (cstE (.int 0)))) (ofE (binE ninS (binE ixS (callF F_chain [(varE 4), (varE 5), (varE 8)]) (unE negS (cstE (.int 2)))) (callF F_back [(varE 4), (varE 6)])))))) (retC (cstE (.bl false))) skipC))))
  (seqC (ifC (ofE (binE neS (codeE (callF F_is_earlier [(varE 4), (varE 5), (varE 2), (binE powS (cstE (.int 10)) (cstE (.int 30)))])) (cstE (.str "number")))) (retC (cstE (.bl false))) skipC)
  (retC (binE eqS (codeE (callF F_is_earlier [(tupE [(cstE (.int 0))]), (cstE (.int 0)), (cstE (.int 0)), (cstE (.int 1))])) (cstE (.str "table"))))))))))))
def F_law : Fn := defF 10 C_law
structure Env (P : Program) (K : PySem.W.Frag) (mg : Str → Option Value) where
  a__law_begin : Addr
  fd__law_begin : FuncData
  F__law_begin : Fun K "_law_begin" "_law_begin" (top 8) a__law_begin fd__law_begin
  m__law_begin : mg "_law_begin" = some (.ref a__law_begin)
  k__law_begin : PySem.W.keepIn K (.ref a__law_begin) = true
  b__law_begin : Binds K fd__law_begin ["script"] []
  a__law_take : Addr
  fd__law_take : FuncData
  F__law_take : Fun K "_law_take" "_law_take" (top 9) a__law_take fd__law_take
  m__law_take : mg "_law_take" = some (.ref a__law_take)
  k__law_take : PySem.W.keepIn K (.ref a__law_take) = true
  b__law_take : Binds K fd__law_take ["d", "many"] []
  a__law_pick : Addr
  fd__law_pick : FuncData
  F__law_pick : Fun K "_law_pick" "_law_pick" (top 10) a__law_pick fd__law_pick
  m__law_pick : mg "_law_pick" = some (.ref a__law_pick)
  k__law_pick : PySem.W.keepIn K (.ref a__law_pick) = true
  b__law_pick : Binds K fd__law_pick ["d", "menu"] []
  a_check_table : Addr
  fd_check_table : FuncData
  F_check_table : Fun K "check_table" "check_table" (top 3) a_check_table fd_check_table
  m_check_table : mg "check_table" = some (.ref a_check_table)
  k_check_table : PySem.W.keepIn K (.ref a_check_table) = true
  b_check_table : Binds K fd_check_table ["table"] []
  a_is_earlier : Addr
  fd_is_earlier : FuncData
  F_is_earlier : Fun K "is_earlier" "is_earlier" (top 6) a_is_earlier fd_is_earlier
  m_is_earlier : mg "is_earlier" = some (.ref a_is_earlier)
  k_is_earlier : PySem.W.keepIn K (.ref a_is_earlier) = true
  b_is_earlier : Binds K fd_is_earlier ["table", "last", "one", "most"] []
  a__law_earlier : Addr
  fd__law_earlier : FuncData
  F__law_earlier : Fun K "_law_earlier" "_law_earlier" (top 12) a__law_earlier fd__law_earlier
  m__law_earlier : mg "_law_earlier" = some (.ref a__law_earlier)
  k__law_earlier : PySem.W.keepIn K (.ref a__law_earlier) = true
  b__law_earlier : Binds K fd__law_earlier ["table", "last", "one", "most"] []
  a_chain : Addr
  fd_chain : FuncData
  F_chain : Fun K "chain" "chain" (top 5) a_chain fd_chain
  m_chain : mg "chain" = some (.ref a_chain)
  k_chain : PySem.W.keepIn K (.ref a_chain) = true
  b_chain : Binds K fd_chain ["table", "start", "many"] []
  a_back : Addr
  fd_back : FuncData
  F_back : Fun K "back" "back" (top 4) a_back fd_back
  m_back : mg "back" = some (.ref a_back)
  k_back : PySem.W.keepIn K (.ref a_back) = true
  b_back : Binds K fd_back ["table", "goal"] []
  a_law : Addr
  fd_law : FuncData
  F_law : Fun K "law" "law" (top 13) a_law fd_law
  m_law : mg "law" = some (.ref a_law)
  k_law : PySem.W.keepIn K (.ref a_law) = true
  b_law : Binds K fd_law ["script"] []
  n_abs : mg "abs" = none
  n_all : mg "all" = none
  n_enumerate : mg "enumerate" = none
  n_int : mg "int" = none
  n_len : mg "len" = none
  n_list : mg "list" = none
  n_min : mg "min" = none
  n_range : mg "range" = none
  n_tuple : mg "tuple" = none
  C : Addr
  fI : Addr
  ccI : Addr
  cdI : Addr
  fdI : FuncData
  si : SI P K C fI ccI cdI fdI
  iC : PySem.W.findIn K (.ref C) "__init__" = some (some (.ref fI))
  tI : PySem.W.typeIn K (.ref fI) = some (.type "function")
  bI : Binds K fdI ["self", "code"] []
  mC : mg "SecretError" = some (.ref C)
  n_super : mg "super" = none
  a_code : Addr
  fd_code : FuncData
  codeC : CodeC P K mg "_law_code" C a_code fd_code
  clL : Addr
  tabL : Addr
abbrev Env.ct {P : Program} {K : PySem.W.Frag} {mg : Str → Option Value} (E : Env P K mg) : Ct := ⟨[(E.tabL, ("law" : Str) ++ (".<locals>." : Str) ++ ("<lambda>" : Str))], E.C⟩
theorem Env.raise {P : Program} {w : World} {K : PySem.W.Frag} {mg : Str → Option Value} {base : Heap} (E : Env P K mg) : RaiseC P w K mg base "SecretError" E.ct.C E.fI E.fdI := ⟨E.si.T, E.iC, E.tI, fn_sinit (k := 0) E.si E.n_super, E.bI, E.mC⟩
section
variable {P : Program} {w : World} {K : PySem.W.Frag} {mg : Str → Option Value} {base : Heap}
theorem ok__law_begin (E : Env P K mg) : FnOk P w K mg base (L2.CX P w) 1 E.a__law_begin E.fd__law_begin ["script"] (FSp K E.ct 1 F__law_begin) := by
  have S : FnScope N__law_begin ["script"] (defScope (top 8)) := ⟨rfl, rfl, rfl, by decide +kernel, rfl, by decide +kernel, by decide +kernel⟩
  refine fn_def (N := N__law_begin) (cs := C__law_begin) E.F__law_begin S (by decide) fun cdv A outer s H Ex hr => ?_
  refine ss_cons ?_ ?_
  · skip
    exact s_asg (i := 1) S.nd v_int
  refine ss_cons ?_ ?_
  · skip
    refine s_for (passes_of rfl) (i_seqF (v_var (i := 0))) (pg_name (i := 2) S.nd rfl (by first | exact Or.inl rfl | exact Or.inr rfl)) ?_
    refine ss_one ?_
    · skip
      exact s_asg (i := 1) S.nd (v_op op_mod ok_mod (v_op op_addAll ok_add (v_op op_addAll ok_add (v_op op_mulW ok_mul (v_var (i := 1)) v_int) (v_op op_mod ok_mod (v_callTy call_int1 co_int E.n_int (a_cons (v_var (i := 2)) a_nil)) v_int)) v_int) v_int)
  refine ss_one ?_
  · skip
    exact s_ret (v_lst (a_cons (v_esc (v_callTy call_list_of co_list E.n_list (a_cons (v_var (i := 0)) a_nil))) (a_cons v_int (a_cons v_int (a_cons (v_var (i := 1)) a_nil)))))
theorem ok__law_take (E : Env P K mg) : FnOk P w K mg base (L2.CX P w) 1 E.a__law_take E.fd__law_take ["d", "many"] (FSp K E.ct 2 F__law_take) := by
  have S : FnScope N__law_take ["d", "many"] (defScope (top 9)) := ⟨rfl, rfl, rfl, by decide +kernel, rfl, by decide +kernel, by decide +kernel⟩
  refine fn_def (N := N__law_take) (cs := C__law_take) E.F__law_take S (by decide) fun cdv A outer s H Ex hr => ?_
  refine ss_cons ?_ ?_
  · skip
    refine s_if (t_w (w_and (t_cmp (op_eqD hr.units) ok_eq bl_eq (v_tget (i := 0) (k := 2)) v_int) (w_and1 (t_cmp op_lt ok_lt bl_lt (v_tget (i := 0) (k := 1)) (v_callB call_len_seq co_len E.n_len (a_cons (v_tget (i := 0) (k := 0)) a_nil)))))) ?_ ?_
    · skip
      refine ss_cons ?_ ?_
      · skip
        exact s_tset (i := 0) (k := 2) (v_callB call_abs co_abs E.n_abs (a_cons (v_callTy call_int1 co_int E.n_int (a_cons (v_ix (v_tget (i := 0) (k := 0)) (v_tget (i := 0) (k := 1))) a_nil)) a_nil))
      refine ss_cons ?_ ?_
      · skip
        exact s_tset (i := 0) (k := 1) (v_op op_addAll ok_add (v_tget (i := 0) (k := 1)) v_int)
      refine ss_one ?_
      · skip
        refine s_if (t_cmp op_lt ok_lt bl_lt (v_tget (i := 0) (k := 2)) (v_op op_pow ok_pow v_int v_int)) ?_ ?_
        · skip
          refine ss_cons ?_ ?_
          · skip
            exact s_asg (i := 2) S.nd (v_callTy call_int1 co_int E.n_int (a_cons (v_tget (i := 0) (k := 2)) a_nil))
          refine ss_cons ?_ ?_
          · skip
            exact s_tset (i := 0) (k := 2) v_int
          refine ss_one ?_
          · skip
            exact s_ret (v_op op_mod ok_mod (v_var (i := 2)) (v_var (i := 1)))
        · skip
          exact ss_nil
    · skip
      exact ss_nil
  refine ss_cons ?_ ?_
  · skip
    refine s_if (t_cmp op_gt ok_gt bl_gt (v_tget (i := 0) (k := 2)) v_int) ?_ ?_
    · skip
      refine ss_cons ?_ ?_
      · skip
        exact s_asg (i := 3) S.nd (v_op op_mod ok_mod (v_callTy call_int1 co_int E.n_int (a_cons (v_tget (i := 0) (k := 2)) a_nil)) (v_var (i := 1)))
      refine ss_cons ?_ ?_
      · skip
        exact s_tset (i := 0) (k := 2) (v_op op_fdivW ok_fdiv (v_callTy call_int1 co_int E.n_int (a_cons (v_tget (i := 0) (k := 2)) a_nil)) (v_var (i := 1)))
      refine ss_one ?_
      · skip
        exact s_retV (i := 3)
    · skip
      exact ss_nil
  refine ss_cons ?_ ?_
  · skip
    exact s_tset (i := 0) (k := 3) (v_op op_mod ok_mod (v_callTy call_int1 co_int E.n_int (a_cons (v_op op_addAll ok_add (v_op op_mulW ok_mul (v_tget (i := 0) (k := 3)) v_int) v_int) a_nil)) v_int)
  refine ss_one ?_
  · skip
    exact s_ret (v_op op_mod ok_mod (v_callTy call_int1 co_int E.n_int (a_cons (v_op op_fdivW ok_fdiv (v_tget (i := 0) (k := 3)) v_int) a_nil)) (v_var (i := 1)))
theorem ok__law_pick (E : Env P K mg) : FnOk P w K mg base (L2.CX P w) 2 E.a__law_pick E.fd__law_pick ["d", "menu"] (FSp K E.ct 2 F__law_pick) := by
  have S : FnScope N__law_pick ["d", "menu"] (defScope (top 10)) := ⟨rfl, rfl, rfl, by decide +kernel, rfl, by decide +kernel, by decide +kernel⟩
  refine fn_def (N := N__law_pick) (cs := C__law_pick) E.F__law_pick S (by decide) fun cdv A outer s H Ex hr => ?_
  refine ss_one ?_
  · skip
    exact s_ret (v_ix (v_var (i := 1)) (v_call (ok__law_take E) (takes_of rfl rfl rfl rfl) (hr.mono (by decide)) E.m__law_take E.k__law_take E.b__law_take (a_cons (v_var (i := 0)) (a_cons (v_callB call_len_seq co_len E.n_len (a_cons (v_var (i := 1)) a_nil)) a_nil))))
theorem ok_check_table (E : Env P K mg) : FnOk P w K mg base (L2.CX P w) 3 E.a_check_table E.fd_check_table ["table"] (FSp K E.ct 1 F_check_table) := by
  have S : FnScope N_check_table ["table"] (defScope (top 3)) := ⟨rfl, rfl, rfl, by decide +kernel, rfl, by decide +kernel, by decide +kernel⟩
  refine fn_def (N := N_check_table) (cs := C_check_table) E.F_check_table S (by decide) fun cdv A outer s H Ex hr => ?_
  refine ss_cons ?_ ?_
  · skip
    refine s_if (t_not (t_chain op_le op_le ok_le ok_le bl_le v_int (v_callB call_len_seq co_len E.n_len (a_cons (v_var (i := 0)) a_nil)) v_int)) ?_ ?_
    · skip
      refine ss_one ?_
      exact s_raise E.raise hr (by decide) (takes_of rfl rfl rfl rfl)
    · skip
      exact ss_nil
  refine ss_one ?_
  · skip
    refine s_if (t_not (t_val (v_callB (cr_all rfl) co_all E.n_all (a_cons (v_comp S.nd (i_seq (v_var (i := 0))) [("one", 1)] (by show blkC N_check_table (defScope (top 3)) _ _ = true; decide +kernel) (fun _ _ _ _ _ => (pg_name (i := 1) S.nd rfl (by first | exact Or.inl rfl | exact Or.inr rfl))) (fun _ _ _ _ _ => c_nil) (fun _ _ _ _ _ => (v_chain op_le op_lt ok_le ok_lt v_int (v_var (i := 1)) (v_callB call_len_seq co_len E.n_len (a_cons (v_var (i := 0)) a_nil))))) a_nil)))) ?_ ?_
    · skip
      refine ss_one ?_
      exact s_raise E.raise hr (by decide) (takes_of rfl rfl rfl rfl)
    · skip
      exact ss_nil
theorem ok_is_earlier (E : Env P K mg) : FnOk P w K mg base (L2.CX P w) 4 E.a_is_earlier E.fd_is_earlier ["table", "last", "one", "most"] (FSp K E.ct 4 F_is_earlier) := by
  have S : FnScope N_is_earlier ["table", "last", "one", "most"] (defScope (top 6)) := ⟨rfl, rfl, rfl, by decide +kernel, rfl, by decide +kernel, by decide +kernel⟩
  refine fn_def (N := N_is_earlier) (cs := C_is_earlier) E.F_is_earlier S (by decide) fun cdv A outer s H Ex hr => ?_
  refine ss_cons ?_ ?_
  · skip
    exact s_drop (v_call (ok_check_table E) (takes_of rfl rfl rfl rfl) (hr.mono (by decide)) E.m_check_table E.k_check_table E.b_check_table (a_cons (v_var (i := 0)) a_nil))
  refine ss_cons ?_ ?_
  · skip
    refine s_if (t_not (t_chain op_le op_lt ok_le ok_lt bl_lt v_int (v_var (i := 2)) (v_callB call_len_seq co_len E.n_len (a_cons (v_var (i := 0)) a_nil)))) ?_ ?_
    · skip
      refine ss_one ?_
      exact s_raise E.raise hr (by decide) (takes_of rfl rfl rfl rfl)
    · skip
      exact ss_nil
  refine ss_cons ?_ ?_
  · skip
    refine s_for (passes_of rfl) (i_range1 E.n_range (a_cons (v_op op_addAll ok_add (v_callB (call_min2 rfl) co_min2 E.n_min (a_cons (v_var (i := 3)) (a_cons (v_callB call_len_seq co_len E.n_len (a_cons (v_var (i := 0)) a_nil)) a_nil))) v_int) a_nil)) (pg_name (i := 4) S.nd rfl (by first | exact Or.inl rfl | exact Or.inr rfl)) ?_
    refine ss_cons ?_ ?_
    · skip
      refine s_if (t_cmp (op_eqD hr.units) ok_eq bl_eq (v_var (i := 2)) (v_var (i := 1))) ?_ ?_
      · skip
        refine ss_one ?_
        · skip
          exact s_retV (i := 4)
      · skip
        exact ss_nil
    refine ss_one ?_
    · skip
      exact s_asg (i := 2) S.nd (v_ix (v_var (i := 0)) (v_var (i := 2)))
  refine ss_one ?_
  · skip
    exact s_ret v_non
theorem ok__law_earlier (E : Env P K mg) : FnOk P w K mg base (L2.CX P w) 1 E.a__law_earlier E.fd__law_earlier ["table", "last", "one", "most"] (FSp K E.ct 4 F__law_earlier) := by
  have S : FnScope N__law_earlier ["table", "last", "one", "most"] (defScope (top 12)) := ⟨rfl, rfl, rfl, by decide +kernel, rfl, by decide +kernel, by decide +kernel⟩
  refine fn_def (N := N__law_earlier) (cs := C__law_earlier) E.F__law_earlier S (by decide) fun cdv A outer s H Ex hr => ?_
  refine ss_cons ?_ ?_
  · skip
    exact s_par2 (i := 4) (j := 5) S.nd (a_cons (v_lst a_nil) (a_cons v_int a_nil)) (hw := by rfl)
  refine ss_cons ?_ ?_
  · skip
    refine s_while FUEL (passes_of rfl) (t_w (w_and (t_cmp op_le ok_le bl_le (v_var (i := 5)) (v_var (i := 3))) (w_and1 (t_cmp (op_ninA (hu65 hr)) ok_nin bl_nin (v_var (i := 2)) (v_var (i := 4)))))) ?_
    refine ss_cons ?_ ?_
    · skip
      refine s_if (t_cmp (op_eqD hr.units) ok_eq bl_eq (v_var (i := 2)) (v_var (i := 1))) ?_ ?_
      · skip
        refine ss_one ?_
        · skip
          exact s_retV (i := 5)
      · skip
        exact ss_nil
    refine ss_cons ?_ ?_
    · skip
      exact s_app (i := 4) (v_var (i := 2))
    refine ss_cons ?_ ?_
    · skip
      exact s_asg (i := 2) S.nd (v_ix (v_var (i := 0)) (v_var (i := 2)))
    refine ss_one ?_
    · skip
      exact s_asg (i := 5) S.nd (v_op op_addAll ok_add (v_var (i := 5)) v_int)
  refine ss_one ?_
  · skip
    exact s_ret v_non
theorem ok_chain (E : Env P K mg) : FnOk P w K mg base (L2.CX P w) 4 E.a_chain E.fd_chain ["table", "start", "many"] (FSp K E.ct 3 F_chain) := by
  have S : FnScope N_chain ["table", "start", "many"] (defScope (top 5)) := ⟨rfl, rfl, rfl, by decide +kernel, rfl, by decide +kernel, by decide +kernel⟩
  refine fn_def (N := N_chain) (cs := C_chain) E.F_chain S (by decide) fun cdv A outer s H Ex hr => ?_
  refine ss_cons ?_ ?_
  · skip
    exact s_drop (v_call (ok_check_table E) (takes_of rfl rfl rfl rfl) (hr.mono (by decide)) E.m_check_table E.k_check_table E.b_check_table (a_cons (v_var (i := 0)) a_nil))
  refine ss_cons ?_ ?_
  · skip
    refine s_if (t_not (t_chain op_le op_lt ok_le ok_lt bl_lt v_int (v_var (i := 1)) (v_callB call_len_seq co_len E.n_len (a_cons (v_var (i := 0)) a_nil)))) ?_ ?_
    · skip
      refine ss_one ?_
      exact s_raise E.raise hr (by decide) (takes_of rfl rfl rfl rfl)
    · skip
      exact ss_nil
  refine ss_cons ?_ ?_
  · skip
    refine s_if (t_not (t_chain op_le op_le ok_le ok_le bl_le v_int (v_var (i := 2)) v_int)) ?_ ?_
    · skip
      refine ss_one ?_
      exact s_raise E.raise hr (by decide) (takes_of rfl rfl rfl rfl)
    · skip
      exact ss_nil
  refine ss_cons ?_ ?_
  · skip
    exact s_asg (i := 3) S.nd (v_lst (a_cons (v_var (i := 1)) a_nil))
  refine ss_cons ?_ ?_
  · skip
    refine s_for (passes_of rfl) (i_range1 E.n_range (a_cons (v_var (i := 2)) a_nil)) (pg_name (i := 4) S.nd rfl (by first | exact Or.inl rfl | exact Or.inr rfl)) ?_
    refine ss_one ?_
    · skip
      exact s_app (i := 3) (v_ix (v_var (i := 0)) (v_ix (v_var (i := 3)) (v_neg v_int)))
  refine ss_one ?_
  · skip
    exact s_ret (v_callTy call_tuple_of co_tuple E.n_tuple (a_cons (v_var (i := 3)) a_nil))
theorem ok_back (E : Env P K mg) : FnOk P w K mg base (L2.CX P w) 4 E.a_back E.fd_back ["table", "goal"] (FSp K E.ct 2 F_back) := by
  have S : FnScope N_back ["table", "goal"] (defScope (top 4)) := ⟨rfl, rfl, rfl, by decide +kernel, rfl, by decide +kernel, by decide +kernel⟩
  refine fn_def (N := N_back) (cs := C_back) E.F_back S (by decide) fun cdv A outer s H Ex hr => ?_
  refine ss_cons ?_ ?_
  · skip
    exact s_drop (v_call (ok_check_table E) (takes_of rfl rfl rfl rfl) (hr.mono (by decide)) E.m_check_table E.k_check_table E.b_check_table (a_cons (v_var (i := 0)) a_nil))
  refine ss_one ?_
  · skip
    exact s_ret (v_callTy call_tuple_of co_tuple E.n_tuple (a_cons (v_comp S.nd (i_enum E.n_enumerate (a_cons (v_var (i := 0)) a_nil)) [("one", 2), ("told", 3)] (by show blkC N_back (defScope (top 4)) _ _ = true; decide +kernel) (fun _ _ _ _ _ => (pg_tup rfl (pgs_cons (pg_name (i := 2) S.nd rfl (by first | exact Or.inl rfl | exact Or.inr rfl)) (pgs_cons (pg_name (i := 3) S.nd rfl (by first | exact Or.inl rfl | exact Or.inr rfl)) pgs_nil)))) (fun _ _ _ _ _ => (c_one (t_cmp (op_eqD hr.units) ok_eq bl_eq (v_var (i := 3)) (v_var (i := 1))))) (fun _ _ _ _ _ => (v_var (i := 2)))) a_nil))
theorem ok_law (E : Env P K mg) (TB : LamX.TabB base mg E.clL E.tabL) {oc : Value} {od an : Option Addr} {osl : Array (Option Value)} {kV doc pm ct : Value} (lk : K.lookup E.a_law = some ⟨oc, od, .func (PySem.W.fnOf "law" "law" (defArgs (top 13)) (defBody (top 13)) (defScope (top 13)) .none kV doc pm an (.ref E.clL) ct), osl⟩) (hcd : PySem.W.codeIn K (.ref E.clL) "law" = true) :
    FnOk P w K mg base (L2.CX P w) 7 E.a_law (PySem.W.fnOf "law" "law" (defArgs (top 13)) (defBody (top 13)) (defScope (top 13)) .none kV doc pm an (.ref E.clL) ct) ["script"] (LSpL K E.ct 10 C_law) := by
  have S : FnScope N_law ["script"] (defScope (top 13)) := ⟨rfl, rfl, rfl, by decide +kernel, rfl, by decide +kernel, by decide +kernel⟩
  refine fn_lawL (N := N_law) (cs := C_law) lk hcd S (by decide) rfl fun A outer s H Ex hr => ?_
  refine ss_cons ?_ ?_
  · skip
    exact s_asg (i := 1) S.nd (v_call (ok__law_begin E) (takes_of rfl rfl rfl rfl) (hr.mono (by decide)) E.m__law_begin E.k__law_begin E.b__law_begin (a_cons (v_var (i := 0)) a_nil))
  refine ss_cons ?_ ?_
  · skip
    refine s_tape ?_
    exact s_asg (i := 2) S.nd (v_call (ok__law_pick E) (takes_of rfl rfl rfl rfl) (hr.mono (by decide)) E.m__law_pick E.k__law_pick E.b__law_pick (a_cons (v_var (i := 1)) (a_cons (v_esc (v_lst (a_cons v_int (a_cons v_int (a_cons v_int (a_cons v_int (a_cons v_int (a_cons v_int a_nil)))))))) a_nil)))
  refine ss_cons ?_ ?_
  · skip
    exact s_asg (i := 3) S.nd (v_op op_addAll ok_add v_int (v_call (ok__law_take E) (takes_of rfl rfl rfl rfl) (hr.mono (by decide)) E.m__law_take E.k__law_take E.b__law_take (a_cons (v_var (i := 1)) (a_cons (v_var (i := 2)) a_nil))))
  refine ss_cons ?_ ?_
  · skip
    exact s_asg (i := 4) S.nd (v_callTy call_tuple_of co_tuple E.n_tuple (a_cons (v_comp S.nd (i_range1 E.n_range (a_cons (v_var (i := 2)) a_nil)) [("k", 9)] (by show blkC N_law (defScope (top 13)) _ _ = true; decide +kernel) (fun _ _ _ _ _ => (pg_name (i := 9) S.nd rfl (by first | exact Or.inl rfl | exact Or.inr rfl))) (fun _ _ _ _ _ => c_nil) (fun _ _ _ _ _ => (v_ifE (t_cmp op_gt ok_gt bl_gt (v_call (ok__law_take E) takes0 (hr.mono (by decide)) E.m__law_take E.k__law_take E.b__law_take (a_cons (v_var (i := 1)) (a_cons v_int a_nil))) v_int) (v_op op_mod ok_mod (v_callTy call_int1 co_int E.n_int (a_cons (v_op op_addAll ok_add (v_var (i := 9)) (v_var (i := 3))) a_nil)) (v_var (i := 2))) (v_call (ok__law_take E) takes0 (hr.mono (by decide)) E.m__law_take E.k__law_take E.b__law_take (a_cons (v_var (i := 1)) (a_cons (v_var (i := 2)) a_nil)))))) a_nil))
  refine ss_cons ?_ ?_
  · skip
    refine s_if (t_cmp (op_eqD hr.units) ok_eq bl_eq (v_call (ok__law_take E) (takes_of rfl rfl rfl rfl) (hr.mono (by decide)) E.m__law_take E.k__law_take E.b__law_take (a_cons (v_var (i := 1)) (a_cons v_int a_nil))) v_int) ?_ ?_
    · skip
      refine ss_one ?_
      · skip
        exact s_asg (i := 4) S.nd (v_callTy call_tuple_of co_tuple E.n_tuple (a_cons (v_comp S.nd (i_range1 E.n_range (a_cons (v_var (i := 2)) a_nil)) [("k", 9)] (by show blkC N_law (defScope (top 13)) _ _ = true; decide +kernel) (fun _ _ _ _ _ => (pg_name (i := 9) S.nd rfl (by first | exact Or.inl rfl | exact Or.inr rfl))) (fun _ _ _ _ _ => c_nil) (fun _ _ _ _ _ => (v_op op_mod ok_mod (v_callTy call_int1 co_int E.n_int (a_cons (v_op op_addAll ok_add (v_var (i := 9)) v_int) a_nil)) (v_var (i := 2))))) a_nil))
    · skip
      exact ss_nil
  refine ss_cons ?_ ?_
  · skip
    exact s_asg (i := 5) S.nd (v_call (ok__law_take E) (takes_of rfl rfl rfl rfl) (hr.mono (by decide)) E.m__law_take E.k__law_take E.b__law_take (a_cons (v_var (i := 1)) (a_cons (v_var (i := 2)) a_nil)))
  refine ss_cons ?_ ?_
  · skip
    refine s_for (passes_of rfl) (i_seqF (v_esc (v_lst (a_cons (v_call (ok__law_take E) (takes_of rfl rfl rfl rfl) (hr.mono (by decide)) E.m__law_take E.k__law_take E.b__law_take (a_cons (v_var (i := 1)) (a_cons (v_var (i := 2)) a_nil))) (a_cons (v_op op_mod ok_mod (v_callTy call_int1 co_int E.n_int (a_cons (v_op op_sub ok_sub (v_op op_addAll ok_add (v_var (i := 5)) (v_var (i := 2))) v_int) a_nil)) (v_var (i := 2))) (a_cons (v_ix (v_var (i := 4)) (v_var (i := 5))) (a_cons (v_var (i := 5)) (a_cons (v_var (i := 2)) (a_cons (v_op op_sub ok_sub v_int v_int) a_nil))))))))) (pg_name (i := 6) S.nd rfl (by first | exact Or.inl rfl | exact Or.inr rfl)) ?_
    refine ss_cons ?_ ?_
    · skip
      refine s_for (passes_of rfl) (i_seqF (v_esc (v_lst (a_cons (v_op op_sub ok_sub v_int v_int) (a_cons v_int (a_cons v_int (a_cons (v_call (ok__law_take E) (takes_of rfl rfl rfl rfl) (hr.mono (by decide)) E.m__law_take E.k__law_take E.b__law_take (a_cons (v_var (i := 1)) (a_cons v_int a_nil))) (a_cons (v_op op_sub ok_sub (v_var (i := 2)) v_int) (a_cons (v_op op_sub ok_sub (v_var (i := 2)) v_int) (a_cons (v_var (i := 2)) (a_cons (v_op op_pow ok_pow v_int v_int) (a_cons (v_op op_pow ok_pow v_int v_int) a_nil)))))))))))) (pg_name (i := 7) S.nd rfl (by first | exact Or.inl rfl | exact Or.inr rfl)) ?_
      refine ss_one ?_
      · skip
        refine s_if (t_cmp (op_neD hr.units) ok_ne bl_ne (v_call (ok_is_earlier E) (takes_of rfl rfl rfl rfl) (hr.mono (by decide)) E.m_is_earlier E.k_is_earlier E.b_is_earlier (a_cons (v_var (i := 4)) (a_cons (v_var (i := 6)) (a_cons (v_var (i := 5)) (a_cons (v_var (i := 7)) a_nil))))) (v_call (ok__law_earlier E) (takes_of rfl rfl rfl rfl) (hr.mono (by decide)) E.m__law_earlier E.k__law_earlier E.b__law_earlier (a_cons (v_var (i := 4)) (a_cons (v_var (i := 6)) (a_cons (v_var (i := 5)) (a_cons (v_var (i := 7)) a_nil)))))) ?_ ?_
        · skip
          refine ss_one ?_
          · skip
            exact s_ret v_bl
        · skip
          exact ss_nil
    refine ss_cons ?_ ?_
    · skip
      exact s_asg (i := 8) S.nd (v_call (ok_is_earlier E) (takes_of rfl rfl rfl rfl) (hr.mono (by decide)) E.m_is_earlier E.k_is_earlier E.b_is_earlier (a_cons (v_var (i := 4)) (a_cons (v_var (i := 6)) (a_cons (v_var (i := 5)) (a_cons (v_op op_pow ok_pow v_int v_int) a_nil)))))
    refine ss_one ?_
    · skip
      refine s_if (t_w (w_and (t_cmp op_notN ok_isnt bl_isnt (v_var (i := 8)) v_non) (w_and1 (t_w (w_or (t_cmp (op_neD hr.units) ok_ne bl_ne (v_ix (v_call (ok_chain E) (takes_of rfl rfl rfl rfl) (hr.mono (by decide)) E.m_chain E.k_chain E.b_chain (a_cons (v_var (i := 4)) (a_cons (v_var (i := 5)) (a_cons (v_var (i := 8)) a_nil)))) (v_neg v_int)) (v_var (i := 6))) (w_or1 (t_w (w_and (t_cmp op_gt ok_gt bl_gt (v_var (i := 8)) v_int) (w_and1 (t_cmp (op_ninA (hu65 hr)) ok_nin bl_nin (v_ix (v_call (ok_chain E) (takes_of rfl rfl rfl rfl) (hr.mono (by decide)) E.m_chain E.k_chain E.b_chain (a_cons (v_var (i := 4)) (a_cons (v_var (i := 5)) (a_cons (v_var (i := 8)) a_nil)))) (v_neg v_int)) (v_call (ok_back E) (takes_of rfl rfl rfl rfl) (hr.mono (by decide)) E.m_back E.k_back E.b_back (a_cons (v_var (i := 4)) (a_cons (v_var (i := 6)) a_nil))))))))))))) ?_ ?_
      · skip
        refine ss_one ?_
        · skip
          exact s_ret v_bl
      · skip
        exact ss_nil
  refine ss_cons ?_ ?_
  · skip
    refine s_if (t_cmp (op_neD hr.units) ok_ne bl_ne (v_code (k := 4) E.codeC TB rfl List.mem_cons_self (fun p hp _ => by cases hp with | head => rfl | tail _ h => cases h) hr (by decide) (LamX.lamS_by (by rfl)) (fun _ _ _ _ _ => rfl) (fun A outer s H Ex f0 c1 hr => (v_call (ok_is_earlier E) (takes_of rfl rfl rfl rfl) (hr.mono (by decide)) E.m_is_earlier E.k_is_earlier E.b_is_earlier (a_cons (v_var (i := 4)) (a_cons (v_var (i := 5)) (a_cons (v_var (i := 2)) (a_cons (v_op op_pow ok_pow v_int v_int) a_nil))))))) v_str) ?_ ?_
    · skip
      refine ss_one ?_
      · skip
        exact s_ret v_bl
    · skip
      exact ss_nil
  refine ss_one ?_
  · skip
    exact s_ret (v_cmp (op_eqD hr.units) ok_eq (v_code (k := 4) E.codeC TB rfl List.mem_cons_self (fun p hp _ => by cases hp with | head => rfl | tail _ h => cases h) hr (by decide) (LamX.lamS_by (by rfl)) (fun _ _ _ _ _ => rfl) (fun A outer s H Ex f0 c1 hr => (v_call (ok_is_earlier E) (takes_of rfl rfl rfl rfl) (hr.mono (by decide)) E.m_is_earlier E.k_is_earlier E.b_is_earlier (a_cons (v_tup (a_cons v_int a_nil)) (a_cons v_int (a_cons v_int (a_cons v_int a_nil))))))) v_str)
end
end K41
end MP

namespace MP
open PySem PySem.Spec PyProof.Rows L2
namespace K41
section
variable {P : Program} {w : World} {K : PySem.W.Frag} {mg : Str → Option Value} {base : Heap}
def initSt : Stmt := (C8.clsBody (top 1)).getD 0 (.Pass ⟨0, 0, 0, 0⟩)
theorem all_mk {h : Heap} {fa : Addr} (X : K.In h) (G : h.Ns mainGlobals mg) (hfa : mg "law" = some (.ref fa))
    {f0 : Addr} {od0 an0 : Option Addr} {sl0 : Array (Option Value)} {oc0 kV0 dc0 pm0 cd0 ct0 : Value}
    (a0 : PySem.W.nsIn K mainGlobals "_law_begin" = some (some (.ref f0))) (l0 : K.lookup f0 = some ⟨oc0, od0, .func (PySem.W.fnOf "_law_begin" "_law_begin" (defArgs (top 8)) (defBody (top 8)) (defScope (top 8)) .none kV0 dc0 pm0 an0 cd0 ct0), sl0⟩) (c0 : PySem.W.codeIn K cd0 "_law_begin" = true) (k0 : PySem.W.keepIn K (.ref f0) = true)
    {f1 : Addr} {od1 an1 : Option Addr} {sl1 : Array (Option Value)} {oc1 kV1 dc1 pm1 cd1 ct1 : Value}
    (a1 : PySem.W.nsIn K mainGlobals "_law_take" = some (some (.ref f1))) (l1 : K.lookup f1 = some ⟨oc1, od1, .func (PySem.W.fnOf "_law_take" "_law_take" (defArgs (top 9)) (defBody (top 9)) (defScope (top 9)) .none kV1 dc1 pm1 an1 cd1 ct1), sl1⟩) (c1 : PySem.W.codeIn K cd1 "_law_take" = true) (k1 : PySem.W.keepIn K (.ref f1) = true)
    {f2 : Addr} {od2 an2 : Option Addr} {sl2 : Array (Option Value)} {oc2 kV2 dc2 pm2 cd2 ct2 : Value}
    (a2 : PySem.W.nsIn K mainGlobals "_law_pick" = some (some (.ref f2))) (l2 : K.lookup f2 = some ⟨oc2, od2, .func (PySem.W.fnOf "_law_pick" "_law_pick" (defArgs (top 10)) (defBody (top 10)) (defScope (top 10)) .none kV2 dc2 pm2 an2 cd2 ct2), sl2⟩) (c2 : PySem.W.codeIn K cd2 "_law_pick" = true) (k2 : PySem.W.keepIn K (.ref f2) = true)
    {f3 : Addr} {od3 an3 : Option Addr} {sl3 : Array (Option Value)} {oc3 kV3 dc3 pm3 cd3 ct3 : Value}
    (a3 : PySem.W.nsIn K mainGlobals "check_table" = some (some (.ref f3))) (l3 : K.lookup f3 = some ⟨oc3, od3, .func (PySem.W.fnOf "check_table" "check_table" (defArgs (top 3)) (defBody (top 3)) (defScope (top 3)) .none kV3 dc3 pm3 an3 cd3 ct3), sl3⟩) (c3 : PySem.W.codeIn K cd3 "check_table" = true) (k3 : PySem.W.keepIn K (.ref f3) = true)
    {f4 : Addr} {od4 an4 : Option Addr} {sl4 : Array (Option Value)} {oc4 kV4 dc4 pm4 cd4 ct4 : Value}
    (a4 : PySem.W.nsIn K mainGlobals "is_earlier" = some (some (.ref f4))) (l4 : K.lookup f4 = some ⟨oc4, od4, .func (PySem.W.fnOf "is_earlier" "is_earlier" (defArgs (top 6)) (defBody (top 6)) (defScope (top 6)) .none kV4 dc4 pm4 an4 cd4 ct4), sl4⟩) (c4 : PySem.W.codeIn K cd4 "is_earlier" = true) (k4 : PySem.W.keepIn K (.ref f4) = true)
    {f5 : Addr} {od5 an5 : Option Addr} {sl5 : Array (Option Value)} {oc5 kV5 dc5 pm5 cd5 ct5 : Value}
    (a5 : PySem.W.nsIn K mainGlobals "_law_earlier" = some (some (.ref f5))) (l5 : K.lookup f5 = some ⟨oc5, od5, .func (PySem.W.fnOf "_law_earlier" "_law_earlier" (defArgs (top 12)) (defBody (top 12)) (defScope (top 12)) .none kV5 dc5 pm5 an5 cd5 ct5), sl5⟩) (c5 : PySem.W.codeIn K cd5 "_law_earlier" = true) (k5 : PySem.W.keepIn K (.ref f5) = true)
    {f6 : Addr} {od6 an6 : Option Addr} {sl6 : Array (Option Value)} {oc6 kV6 dc6 pm6 cd6 ct6 : Value}
    (a6 : PySem.W.nsIn K mainGlobals "chain" = some (some (.ref f6))) (l6 : K.lookup f6 = some ⟨oc6, od6, .func (PySem.W.fnOf "chain" "chain" (defArgs (top 5)) (defBody (top 5)) (defScope (top 5)) .none kV6 dc6 pm6 an6 cd6 ct6), sl6⟩) (c6 : PySem.W.codeIn K cd6 "chain" = true) (k6 : PySem.W.keepIn K (.ref f6) = true)
    {f7 : Addr} {od7 an7 : Option Addr} {sl7 : Array (Option Value)} {oc7 kV7 dc7 pm7 cd7 ct7 : Value}
    (a7 : PySem.W.nsIn K mainGlobals "back" = some (some (.ref f7))) (l7 : K.lookup f7 = some ⟨oc7, od7, .func (PySem.W.fnOf "back" "back" (defArgs (top 4)) (defBody (top 4)) (defScope (top 4)) .none kV7 dc7 pm7 an7 cd7 ct7), sl7⟩) (c7 : PySem.W.codeIn K cd7 "back" = true) (k7 : PySem.W.keepIn K (.ref f7) = true)
    {f8 : Addr} {od8 an8 : Option Addr} {sl8 : Array (Option Value)} {oc8 kV8 dc8 pm8 ct8 : Value} {clL tabL : Addr}
    (a8 : PySem.W.nsIn K mainGlobals "law" = some (some (.ref f8))) (l8 : K.lookup f8 = some ⟨oc8, od8, .func (PySem.W.fnOf "law" "law" (defArgs (top 13)) (defBody (top 13)) (defScope (top 13)) .none kV8 dc8 pm8 an8 (.ref clL) ct8), sl8⟩) (c8 : PySem.W.codeIn K (.ref clL) "law" = true) (k8 : PySem.W.keepIn K (.ref f8) = true)
    {f9 : Addr} {od9 an9 : Option Addr} {sl9 : Array (Option Value)} {oc9 kV9 dc9 pm9 cd9 ct9 : Value}
    (a9 : PySem.W.nsIn K mainGlobals "_law_code" = some (some (.ref f9))) (l9 : K.lookup f9 = some ⟨oc9, od9, .func (PySem.W.fnOf "_law_code" "_law_code" (defArgs (top 11)) (defBody (top 11)) (defScope (top 11)) .none kV9 dc9 pm9 an9 cd9 ct9), sl9⟩) (c9 : PySem.W.codeIn K cd9 "_law_code" = true) (k9 : PySem.W.keepIn K (.ref f9) = true)
    (z_abs : PySem.W.nsIn K mainGlobals "abs" = some none)
    (z_all : PySem.W.nsIn K mainGlobals "all" = some none)
    (z_enumerate : PySem.W.nsIn K mainGlobals "enumerate" = some none)
    (z_int : PySem.W.nsIn K mainGlobals "int" = some none)
    (z_len : PySem.W.nsIn K mainGlobals "len" = some none)
    (z_list : PySem.W.nsIn K mainGlobals "list" = some none)
    (z_min : PySem.W.nsIn K mainGlobals "min" = some none)
    (z_range : PySem.W.nsIn K mainGlobals "range" = some none)
    (z_tuple : PySem.W.nsIn K mainGlobals "tuple" = some none)
    {C fI cdI ccI : Addr} {ocI kVI dcI pmI ctI clD clE : Value} {odI anI cdD cdE : Option Addr} {slI slD slE : Array (Option Value)} {vsD : Array Value} {nmC qC : Str} {NC : Addr} {bsC bmC : List Value} {snC : List Str} {subC : List Value} {abC : Bool} {colC : Option Bool} {ddC : Option Addr} {k0C k1C k2C k3C k5C : Option Value} {cdataC : ClassData} {file : Str} {tfl : Tok}
    (aC : PySem.W.nsIn K mainGlobals "SecretError" = some (some (.ref C)))
    (iC : PySem.W.findIn K (.ref C) "__init__" = some (some (.ref fI)))
    (tI : PySem.W.typeIn K (.ref fI) = some (.type "function"))
    (lI : @List.lookup _ _ _ fI K = some ⟨ocI, odI, .func (PySem.W.ksFn "__init__" "SecretError.__init__" (defArgs initSt) (defBody initSt) (defScope initSt) .none kVI dcI pmI anI (.ref cdI) ctI ccI), slI⟩)
    (cI : PySem.W.codeIn K (.ref cdI) "SecretError.__init__" = true)
    (lcd : @List.lookup _ _ _ cdI K = some ⟨clD, cdD, .fields vsD, slD⟩)
    (lcc : @List.lookup _ _ _ ccI K = some ⟨clE, cdE, .cell (some (.ref C)), slE⟩)
    (lC : @List.lookup _ _ _ C K = some (excClassObj nmC qC C NC bsC bmC true snC subC abC colC ddC k0C k1C k2C k3C k5C "ValueError.__new__"))
    (saC : PySem.W.findIn K (.ref C) "__setattr__" = some (some (.builtin "object.__setattr__")))
    (exC : PySem.W.subIn K (.ref C) (.type "BaseException") = some true)
    (tyC : PySem.W.typeIn K (.ref C) = some (.type "type"))
    (kC : PySem.W.keepIn K (.ref C) = true)
    (cdC : PySem.W.clsIn K C = some cdataC)
    (subCC : PySem.W.mroIn K C (.ref C) = some true)
    (anyC : PySem.W.nsIn K cStatics "thirdparty.any" = some none)
    (supC : PySem.W.ks_superIn K C C "__init__" = some (some (.builtin "ValueError.__init__")))
    (bC : PySem.W.subIn K (.ref C) (.type "ValueError") = some true)
    (noC : PySem.W.findIn K (.ref C) "code" = some none)
    (exm : PySem.W.exmOne K (.ref C) (.ref C) = some true)
    (gaC : PySem.W.findIn K (.ref C) "__getattribute__" = some (some (.builtin "BaseException.__getattribute__")))
    (ggC : PySem.W.findIn K (.ref C) "__getattr__" = some none)
    (hdC : PySem.W.hasDictIn K C = true)
    (zsup : PySem.W.nsIn K mainGlobals "super" = some none)
    (hre : PySem.HandSPX.refsVE bmC = true) (hvs : vsD[2]? = some (.str file tfl)) (hfile : ((P.main.file : Str) == file) = true) (htop : (P.main.scope.names.lookup ("super" : Str)).isSome = false)
    {clV : Value} {cdV : Option Addr} {vsL : Array Value} {slL : Array (Option Value)} (lL : K.lookup clL = some ⟨clV, cdV, .fields vsL, slL⟩) (hPL : (vsL[11]? : Option Value) = some (.ref tabL)) (hdL : PySem.W.codeHdIn K clL tabL = true) (nTL : K.lookup tabL = none) (hTL : h.get? tabL = some { cls := .none, data := .fields #[] })
    (hlaw : ∀ ns : List Int, ns.length ≤ 63 → ∃ env t, C_law ([.val (.lst (ns.map D.int))] ++ List.replicate (10 - 1) .un) none = some (.rt (.val (.bl true)), env, t))
    : ∃ (fd : FuncData) (cs : List (Addr × Addr)) (sp : Sp), (∀ p ∈ cs, h.get? p.2 = some { cls := .none, data := .fields #[] }) ∧ (∀ p ∈ cs, K.lookup p.2 = none) ∧ (∀ p ∈ cs, PySem.W.CodeHd h p.1 p.2) ∧ (∀ (s : Shared) (u : Value), BindsTo s fd ⟨[u], []⟩ [(("script" : Str), u)]) ∧
      (∀ (H : Hp) (a : Addr) (ns : List Int), ns.length ≤ 63 → (∀ z ∈ ns, Builtin.Int.intBits z ≤ 1048576) → (∀ p ∈ cs, H p.2 = some (.tbl #[])) → SqL K H a (ns.map V.int) → sp [.ref a] H (fun v _ => v = .bl true) fun _ _ _ => False) ∧
      ∀ base : Heap, K.In base → base.Ns mainGlobals mg → (∀ p ∈ cs, LamX.TabB base mg p.1 p.2) → FnOk P w K mg base (L2.CX P w) 7 fa fd ["script"] sp := by
  have e : f8 = fa := by
    have e := hfa.symm.trans (PySem.W.mg_of X G a8)
    cases e; rfl
  subst e
  have F0 := fun_mk (st := top 8) l0 c0 k0
  have b0 := F0.binds (ps := ["script"]) fun _ _ _ _ _ _ us hl => match us, hl with | [_], _ => rfl
  have F1 := fun_mk (st := top 9) l1 c1 k1
  have b1 := F1.binds (ps := ["d", "many"]) fun _ _ _ _ _ _ us hl => match us, hl with | [_, _], _ => rfl
  have F2 := fun_mk (st := top 10) l2 c2 k2
  have b2 := F2.binds (ps := ["d", "menu"]) fun _ _ _ _ _ _ us hl => match us, hl with | [_, _], _ => rfl
  have F3 := fun_mk (st := top 3) l3 c3 k3
  have b3 := F3.binds (ps := ["table"]) fun _ _ _ _ _ _ us hl => match us, hl with | [_], _ => rfl
  have F4 := fun_mk (st := top 6) l4 c4 k4
  have b4 := F4.binds (ps := ["table", "last", "one", "most"]) fun _ _ _ _ _ _ us hl => match us, hl with | [_, _, _, _], _ => rfl
  have F5 := fun_mk (st := top 12) l5 c5 k5
  have b5 := F5.binds (ps := ["table", "last", "one", "most"]) fun _ _ _ _ _ _ us hl => match us, hl with | [_, _, _, _], _ => rfl
  have F6 := fun_mk (st := top 5) l6 c6 k6
  have b6 := F6.binds (ps := ["table", "start", "many"]) fun _ _ _ _ _ _ us hl => match us, hl with | [_, _, _], _ => rfl
  have F7 := fun_mk (st := top 4) l7 c7 k7
  have b7 := F7.binds (ps := ["table", "goal"]) fun _ _ _ _ _ _ us hl => match us, hl with | [_, _], _ => rfl
  have F8 := fun_mk (st := top 13) l8 c8 k8
  have b8 := F8.binds (ps := ["script"]) fun _ _ _ _ _ _ us hl => match us, hl with | [_], _ => rfl
  have F9 := fun_mk (st := top 11) l9 c9 k9
  have b9 := F9.binds (ps := ["call"]) fun _ _ _ _ _ _ us hl => match us, hl with | [_], _ => rfl
  have T : OexC K C := ⟨⟨_, _, _, _, _, _, _, _, _, _, _, _, _, _, _, lC, hre⟩, saC, exC, tyC, kC⟩
  have SI0 : SI P K C fI ccI cdI (PySem.W.ksFn "__init__" "SecretError.__init__" (defArgs initSt) (defBody initSt) (defScope initSt) .none kVI dcI pmI anI (.ref cdI) ctI ccI) := {
    T := T, fdE := ⟨_, _, _, _, _, _, _, _, _, _, _, _, _, _, _, _, _, _, _, _, rfl, cI, NdefX.nscope_by (by rfl), rfl, rfl, rfl, fun L => ⟨_, rfl⟩⟩,
    hlk := ⟨_, _, _, lI⟩, hcode := ⟨_, _, _, _, _, _, lcd, hvs, hfile⟩, hcell := ⟨_, _, _, lcc⟩, cd := ⟨_, cdC⟩, sub := subCC, htop := htop, hany := anyC, hm := supC, hB := bC, hno := noC }
  have bI : Binds K (PySem.W.ksFn "__init__" "SecretError.__init__" (defArgs initSt) (defBody initSt) (defScope initSt) .none kVI dcI pmI anI (.ref cdI) ctI ccI) ["self", "code"] [] := Binds.all fun us hl => match us, hl with | [_, _], _ => rfl
  have Scf : FnScope ["call", "e"] ["call"] (defScope (top 11)) := ⟨rfl, rfl, rfl, by decide +kernel, rfl, by decide +kernel, by decide +kernel⟩
  have CC : CodeC P K mg "_law_code" C f9 _ := ⟨PySem.W.mg_of X G a9, k9, exm, ⟨gaC, ggC, exC, hdC⟩, noC, "call", "SecretError", "e", _, _, _, _, _, _, _, _, _, _, _, _, _, _, _, _, _, _, _, _, _, rfl, l9, c9, b9, Scf, Or.inl rfl, rfl, PySem.W.mg_of X G aC, by decide, rfl, by decide, by decide, by decide, by decide, fun L => rfl⟩
  let E : Env P K mg := {
    a__law_begin := f0, fd__law_begin := _, F__law_begin := F0, m__law_begin := PySem.W.mg_of X G a0, k__law_begin := k0, b__law_begin := b0,
    a__law_take := f1, fd__law_take := _, F__law_take := F1, m__law_take := PySem.W.mg_of X G a1, k__law_take := k1, b__law_take := b1,
    a__law_pick := f2, fd__law_pick := _, F__law_pick := F2, m__law_pick := PySem.W.mg_of X G a2, k__law_pick := k2, b__law_pick := b2,
    a_check_table := f3, fd_check_table := _, F_check_table := F3, m_check_table := PySem.W.mg_of X G a3, k_check_table := k3, b_check_table := b3,
    a_is_earlier := f4, fd_is_earlier := _, F_is_earlier := F4, m_is_earlier := PySem.W.mg_of X G a4, k_is_earlier := k4, b_is_earlier := b4,
    a__law_earlier := f5, fd__law_earlier := _, F__law_earlier := F5, m__law_earlier := PySem.W.mg_of X G a5, k__law_earlier := k5, b__law_earlier := b5,
    a_chain := f6, fd_chain := _, F_chain := F6, m_chain := PySem.W.mg_of X G a6, k_chain := k6, b_chain := b6,
    a_back := f7, fd_back := _, F_back := F7, m_back := PySem.W.mg_of X G a7, k_back := k7, b_back := b7,
    a_law := f8, fd_law := _, F_law := F8, m_law := PySem.W.mg_of X G a8, k_law := k8, b_law := b8,
    n_abs := PySem.W.mg_none_of X G z_abs,
    n_all := PySem.W.mg_none_of X G z_all,
    n_enumerate := PySem.W.mg_none_of X G z_enumerate,
    n_int := PySem.W.mg_none_of X G z_int,
    n_len := PySem.W.mg_none_of X G z_len,
    n_list := PySem.W.mg_none_of X G z_list,
    n_min := PySem.W.mg_none_of X G z_min,
    n_range := PySem.W.mg_none_of X G z_range,
    n_tuple := PySem.W.mg_none_of X G z_tuple,
    C := C, fI := fI, ccI := ccI, cdI := cdI, fdI := _, si := SI0, iC := iC, tI := tI, bI := bI, mC := PySem.W.mg_of X G aC, n_super := PySem.W.mg_none_of X G zsup, a_code := _, fd_code := _, codeC := CC, clL := clL, tabL := tabL }
  have K1 : ∀ p ∈ [(clL, tabL)], h.get? p.2 = some { cls := .none, data := .fields #[] } := fun p hp => by cases hp with | head => exact hTL | tail _ q => cases q
  have K2 : ∀ p ∈ [(clL, tabL)], K.lookup p.2 = none := fun p hp => by cases hp with | head => exact nTL | tail _ q => cases q
  have K3 : ∀ p ∈ [(clL, tabL)], PySem.W.CodeHd h p.1 p.2 := fun p hp => by cases hp with | head => exact PySem.W.codeHd_of_K X hdL | tail _ q => cases q
  exact ⟨_, [(clL, tabL)], LSpL K E.ct 10 C_law, K1, K2, K3, fun s v => .of_eq rfl, fun H a ns hl _ hT hS => lspL_law (fun p hp => by cases hp with | head => exact hT _ List.mem_cons_self | tail _ q => cases q) hS (hlaw ns hl), fun base _ _ TB => ok_law E (TB _ List.mem_cons_self) l8 c8⟩
end
end K41
end MP

namespace MP.K41
open PySem
abbrev I (i : Int) : Sl := .val (.int i)
theorem begin_is : F__law_begin = beginF := rfl
theorem take_is : F__law_take = takeF := rfl
/-! ints in rows -/
theorem any_int (x : Int) : ∀ L : List Int, ((pys (L.map D.int)).any fun z => PyData.eqv z (D.int x).py) = decide (x ∈ L)
  | [] => by simp [pys]
  | f :: L => by
    rw [List.map_cons, pys, List.any_cons, any_int x L]
    by_cases h : f = x
    · simp [h, D.py, PyData.eqv]
    · have h' : ¬ x = f := fun z => h z.symm
      simp [h, h', D.py, PyData.eqv]
theorem ns_ints (L : List Int) : nss (L.map D.int) = true := nss_of fun d hd => by
  obtain ⟨f, _, rfl⟩ := List.mem_map.mp hd
  rfl
theorem nin_bor (x : Int) (L : List Int) : ninS (I x) (.bor (L.map D.int)) = some (.val (.bl (!decide (x ∈ L)))) := by
  unfold ninS inC
  have h1 : SeqAt.shaped (D.int x).py = true := shaped_py _ rfl (Nat.le_trans (depth_int x) (by decide))
  have h2 : SeqAt.shaped (.list (pys (L.map D.int))) = true := shaped_py (.lst (L.map D.int)) (show nss _ = true from ns_ints L) (Nat.le_trans (depth_lst (n := 0) fun d hd => by
    obtain ⟨f, _, rfl⟩ := List.mem_map.mp hd
    exact depth_int f) (by decide))
  simp [h1, h2, any_int]
theorem nin_tup (x : Int) (L : List Int) : ninS (I x) (.val (.tup (L.map D.int))) = some (.val (.bl (!decide (x ∈ L)))) := by
  unfold ninS inC
  have h1 : SeqAt.shaped (D.int x).py = true := shaped_py _ rfl (Nat.le_trans (depth_int x) (by decide))
  have h2 : SeqAt.shaped (.list (pys (L.map D.int))) = true := shaped_py (.lst (L.map D.int)) (show nss _ = true from ns_ints L) (Nat.le_trans (depth_lst (n := 0) fun d hd => by
    obtain ⟨f, _, rfl⟩ := List.mem_map.mp hd
    exact depth_int f) (by decide))
  simp [h1, h2, any_int]
/-! a table -/
structure Tb (T : List Int) : Prop where
  l1 : 2 ≤ T.length
  l2 : T.length ≤ 64
  mem : ∀ x ∈ T, 0 ≤ x ∧ x < T.length
abbrev tT (T : List Int) : Sl := .val (.tup (T.map D.int))
def nx (T : List Int) (x : Int) : Int := T.getD x.toNat 0
def Inr (T : List Int) (x : Int) : Prop := 0 ≤ x ∧ x < T.length
section
variable {T : List Int} {ta : TapeO}
theorem ix_T {x : Int} (h : Inr T x) : ixS (tT T) (I x) = some (I (nx T x)) := by
  have hl : x.toNat < T.length := by have := h.1; have := h.2; omega
  unfold nx
  exact ix_at rfl h.1 (by rw [List.getElem?_map, List.getElem?_eq_getElem hl, List.getD_eq_getElem?_getD, List.getElem?_eq_getElem hl]; rfl)
theorem nx_in (B : Tb T) {x : Int} (h : Inr T x) : Inr T (nx T x) := by
  have hl : x.toNat < T.length := by have := h.1; have := h.2; omega
  unfold nx
  rw [List.getD_eq_getElem?_getD, List.getElem?_eq_getElem hl]
  exact B.mem _ (List.getElem_mem hl)
theorem check_comp (z : Sl) (ta : TapeO) : ∀ l : List Int, (∀ x ∈ l, Inr T x) → compL (.one 1) yesT (chainE leS ltS (cstE (.int 0)) (varE 1) (callE lenS [(varE 0)])) (l.map D.int) [tT T, z] ta = some ((l.map fun _ => true).map D.bl, ta)
  | [], _ => rfl
  | k :: l, h => by
    have hk := h k List.mem_cons_self
    have ih := check_comp z ta l fun x hx => h x (List.mem_cons_of_mem _ hx)
    rw [List.map_cons, compL_cons]
    simp [le_int, lt_int, lenS, hk.1, hk.2] at ih ⊢
    exact ih
theorem all_true (l : List Int) : (l.map fun _ => true).all id = true := by simp
theorem X_check (B : Tb T) : F_check_table [tT T] ta = some (.ok (.val .non), ta) := by
  have h1 : (2 : Int) ≤ T.length := by have := B.l1; omega
  have h2 : (T.length : Int) ≤ 64 := by have := B.l2; omega
  have hL : T.length < LIM := by have : LIM = 16777216 := rfl; have := B.l2; omega
  have kc := check_comp (T := T) (.un) ta T B.mem
  have aw := all_own (T.map fun _ => true)
  rw [all_true] at aw
  obtain ⟨bs, hbs⟩ : ∃ bs, (T.map fun _ => true).map D.bl = bs := ⟨_, rfl⟩
  rw [hbs] at kc aw
  unfold F_check_table C_check_table
  rw [defF_ap]
  simp only [tT] at kc
  simp [lenS, le_int, h1, h2, hL, kc, aw]
/-! how often -/
def sE (T : List Int) (last : Int) : Nat → Nat → Int → Option Nat
  | 0, _, _ => none
  | m + 1, t, one => if one = last then some t else sE T last m (t + 1) (nx T one)
def optD : Option Nat → D
  | none => .non
  | some k => .int (k : Nat)
def flow : Option Nat → Fl
  | none => .nx
  | some k => .rt (I (k : Nat))
theorem ear_loop (B : Tb T) (last : Int) (most : Sl) (ta : TapeO) : ∀ (m t : Nat) (one : Int) (z : Sl), Inr T one → ∃ env', forL (.one 4) (seqC (ifC (ofE (binE eqS (varE 2) (varE 1))) (retVC 4) skipC) (asgC 2 (binE ixS (varE 0) (varE 2)))) ((List.range' t m).map fun i => D.int (i : Nat))
      [tT T, I last, I one, most, z] ta = some (flow (sE T last m t one), env', ta)
  | 0, t, one, z, _ => ⟨_, rfl⟩
  | m + 1, t, one, z, h => by
    by_cases e : one = last
    · refine ⟨[tT T, I last, I one, most, I (t : Nat)], ?_⟩
      rw [List.range'_succ, List.map_cons, forL_cons]
      simp [eq_int, e, sE, flow]
    · obtain ⟨env', ih⟩ := ear_loop B last most ta m (t + 1) (nx T one) (I (t : Nat)) (nx_in B h)
      refine ⟨env', ?_⟩
      have hx := ix_T h
      rw [List.range'_succ, List.map_cons, forL_cons]
      simp only [I, tT] at ih hx ⊢
      simp [eq_int, e, sE, hx]
      simpa using ih
def mn (T : List Int) (most : Int) : Int := if (T.length : Int) < most then T.length else most
theorem mn_le (T : List Int) (most : Int) : mn T most ≤ most ∧ mn T most ≤ T.length := by unfold mn; split <;> omega
theorem rgE {j : Int} (h2 : j < 1000000) (h0 : -1000 ≤ j) : rg1S [.val (.int j)] = some ((List.range' 0 j.toNat).map fun i => D.int (i : Nat)) := by
  by_cases h : 0 ≤ j
  · exact rg1_ok' h h2
  · have e : j.toNat = 0 := by omega
    rw [e]
    unfold rg1S
    dsimp only
    rw [if_pos (by unfold small62; simp; omega)]
    have : j.toNat = 0 := e
    simp [rgL, this]
theorem X_earlier (B : Tb T) (last : Int) {one most : Int} (h : Inr T one) (hm : -5 ≤ most) : F_is_earlier [tT T, I last, I one, I most] ta = some (.ok (.val (optD (sE T last (mn T most + 1).toNat 0 one))), ta) := by
  have b1 := B.l1
  have b2 := B.l2
  have mm := mn_le T most
  have m0 : -5 ≤ mn T most := by unfold mn; split <;> omega
  obtain ⟨env', e⟩ := ear_loop B last (I most) ta (mn T most + 1).toNat 0 one .un h
  have rg := rgE (j := mn T most + 1) (by omega) (by omega)
  have hmn : min2S [I most, I T.length] = some (I (mn T most)) := rfl
  unfold F_is_earlier C_is_earlier
  rw [defF_ap]
  simp only [I, tT] at e hmn
  cases hs : sE T last (mn T most + 1).toNat 0 one with
  | none =>
    rw [hs] at e
    simp [X_check B, lenS, le_int, lt_int, h.1, h.2, hmn, add_int, rg, e, flow, optD]
  | some k =>
    rw [hs] at e
    simp [X_check B, lenS, le_int, lt_int, h.1, h.2, hmn, add_int, rg, e, flow, optD]
theorem X_number (B : Tb T) (last most : Int) {one : Int} (h : ¬ one < (T.length : Int)) : F_is_earlier [tT T, I last, I one, I most] ta = some (.error "number", ta) := by
  unfold F_is_earlier C_is_earlier
  rw [defF_ap]
  by_cases h0 : 0 ≤ one
  · simp [X_check B, lenS, le_int, lt_int, h, h0]
  · simp [X_check B, lenS, le_int, lt_int, h, h0]
theorem X_table (last one most : Int) : F_is_earlier [.val (.tup [.int 0]), I last, I one, I most] ta = some (.error "table", ta) := by
  have c : F_check_table [.val (.tup [.int 0])] ta = some (.error "table", ta) := by
    unfold F_check_table C_check_table
    rw [defF_ap]
    simp [lenS, le_int]
  unfold F_is_earlier C_is_earlier
  rw [defF_ap]
  simp [c]
end
end MP.K41

namespace MP.K41
open PySem
theorem nodup_len : ∀ (l D : List Int), l.Nodup → (∀ x ∈ l, x ∈ D) → l.length ≤ D.length
  | [], _, _, _ => Nat.zero_le _
  | a :: l, D, nd, h => by
    rw [List.nodup_cons] at nd
    have ha := h a List.mem_cons_self
    have ih := nodup_len l (D.erase a) nd.2 fun x hx => (List.mem_erase_of_ne (fun z => nd.1 (by rw [← z]; exact hx))).mpr (h x (List.mem_cons_of_mem _ hx))
    rw [List.length_erase_of_mem ha] at ih
    have := List.length_pos_of_mem ha
    simp; omega
section
variable {T : List Int} {ta : TapeO}
theorem seen_len {l : List Int} (nd : l.Nodup) (h : ∀ x ∈ l, Inr T x) : l.length ≤ T.length := by
  have := nodup_len l ((List.range T.length).map fun i => ((i : Nat) : Int)) nd fun x hx => by
    have hh := h x hx
    rw [List.mem_map]
    exact ⟨x.toNat, by rw [List.mem_range]; have := hh.1; have := hh.2; omega, by have := hh.1; omega⟩
  simpa using this
theorem never {last : Int} {seen : List Int} {one : Int} (ho : one ∈ seen) (hi : ∀ s ∈ seen, s ≠ last ∧ (nx T s ∈ seen ∨ nx T s = one)) : ∀ (m t : Nat) (x : Int), x ∈ seen → sE T last m t x = none
  | 0, _, _, _ => rfl
  | m + 1, t, x, hx => by
    have h := hi x hx
    have hn : nx T x ∈ seen := by
      rcases h.2 with k | k
      · exact k
      · rw [k]; exact ho
    simp only [sE, if_neg h.1]
    exact never ho hi m (t + 1) _ hn
theorem lear_loop (B : Tb T) (last : Int) {most : Int} (ta : TapeO) : ∀ (fuel t : Nat) (one : Int) (seen : List Int), seen.length = t → seen.Nodup → (∀ s ∈ seen, Inr T s) → (∀ s ∈ seen, s ≠ last ∧ (nx T s ∈ seen ∨ nx T s = one)) → Inr T one → T.length < fuel + t → ∃ env',
    whileC (andT (ofE (binE leS (varE 5) (varE 3))) (ofE (binE ninS (varE 2) (varE 4)))) (seqC (ifC (ofE (binE eqS (varE 2) (varE 1))) (retVC 5) skipC)
  (seqC (appC 4 (varE 2))
  (seqC (asgC 2 (binE ixS (varE 0) (varE 2)))
  (asgC 5 (binE addS (varE 5) (cstE (.int 1))))))) fuel [tT T, I last, I one, I most, .own (seen.map D.int), I (t : Nat)] ta = some (flow (sE T last (mn T most + 1 - t).toNat t one), env', ta)
  | 0, t, one, seen, hl, nd, hs, _, _, hf => by
    have := seen_len nd hs
    omega
  | fuel + 1, t, one, seen, hl, nd, hs, hi, ho, hf => by
    have mm := mn_le T most
    have b2 := B.l2
    have tl := seen_len nd hs
    have LM : LIM = 16777216 := rfl
    have nb := nin_bor one seen
    simp only [I] at nb
    by_cases h1 : (t : Int) ≤ most
    · by_cases h2 : one ∈ seen
      · refine ⟨[tT T, I last, I one, I most, .own (seen.map D.int), I (t : Nat)], ?_⟩
        rw [never h2 hi _ t one h2, while_ap]
        simp [le_int, h1, nb, h2, flow]
      · have nd2 : (seen ++ [one]).Nodup := by
          rw [List.nodup_append]
          exact ⟨nd, by simp, fun a ha b hb => by rw [List.mem_singleton] at hb; rw [hb]; intro z; exact h2 (z ▸ ha)⟩
        have hs2 : ∀ s ∈ seen ++ [one], Inr T s := fun s h => by
          rcases List.mem_append.mp h with h | h
          · exact hs s h
          · rw [List.mem_singleton] at h; rw [h]; exact ho
        have tl2 := seen_len nd2 hs2
        rw [List.length_append, List.length_singleton] at tl2
        have hm : (mn T most + 1 - t).toNat = (mn T most + 1 - ((t + 1 : Nat) : Int)).toNat + 1 := by
          have : (t : Int) ≤ mn T most := by unfold mn; split <;> omega
          omega
        by_cases h3 : one = last
        · refine ⟨[tT T, I last, I one, I most, .own (seen.map D.int), I (t : Nat)], ?_⟩
          rw [hm]
          simp only [sE, if_pos h3]
          rw [while_ap]
          rw [h3] at nb h2
          simp [le_int, h1, nb, h3, h2, flow, eq_int]
        · obtain ⟨env', ih⟩ := lear_loop B last (most := most) ta fuel (t + 1) (nx T one) (seen ++ [one]) (by simp [hl]) nd2 hs2 (fun s h => by
            rcases List.mem_append.mp h with h | h
            · refine ⟨(hi s h).1, .inl ?_⟩
              rcases (hi s h).2 with k | k
              · exact List.mem_append_left _ k
              · rw [k]; simp
            · rw [List.mem_singleton] at h
              subst h
              exact ⟨h3, .inr rfl⟩) (nx_in B ho) (by omega)
          refine ⟨env', ?_⟩
          have hx := ix_T ho
          have lL : seen.length < LIM := by omega
          rw [hm]
          simp only [sE, if_neg h3]
          rw [while_ap]
          simp only [I, tT] at hx ih ⊢
          simp [le_int, h1, nb, h2, eq_int, h3, lL, hx, add_int]
          simpa using ih
    · refine ⟨[tT T, I last, I one, I most, .own (seen.map D.int), I (t : Nat)], ?_⟩
      have hz : (mn T most + 1 - t).toNat = 0 := by omega
      rw [hz, while_ap]
      simp [le_int, h1, flow, sE]
theorem X_lear (B : Tb T) (last : Int) {one most : Int} (h : Inr T one) : F__law_earlier [tT T, I last, I one, I most] ta = some (.ok (.val (optD (sE T last (mn T most + 1).toNat 0 one))), ta) := by
  have b2 := B.l2
  obtain ⟨env', e⟩ := lear_loop B last (most := most) ta FUEL 0 one [] rfl List.nodup_nil (fun s h => by cases h) (fun s h => by cases h) h (by show _ < 100000 + 0; omega)
  rw [List.map_nil, show mn T most + 1 - ((0 : Nat) : Int) = mn T most + 1 by omega] at e
  unfold F__law_earlier C__law_earlier
  rw [defF_ap]
  simp only [I, tT] at e
  cases hs : sE T last (mn T most + 1).toNat 0 one with
  | none =>
    rw [hs] at e
    simp at e
    simp [e, flow, optD]
  | some k =>
    rw [hs] at e
    simp at e
    simp [e, flow, optD]
/-! chains -/
def tail (T : List Int) : Nat → Int → List Int
  | 0, x => [x]
  | m + 1, x => x :: tail T m (nx T x)
theorem tail_len (T : List Int) : ∀ (m : Nat) (x : Int), (tail T m x).length = m + 1
  | 0, _ => rfl
  | m + 1, x => by simp [tail, tail_len T m]
theorem ix_m1 (pre : List Int) (a : Int) {s : Sl} (hs : s.seq? = some ((pre ++ [a]).map D.int)) : ixS s (I (-1)) = some (I a) := by
  unfold ixS
  rw [hs]
  simp [L2.atI, L2.ixN]
  rw [if_pos (by omega)]
  simp
  rw [show (-1 + ((pre.length : Int) + 1)).toNat = pre.length by omega, List.getElem?_append_right (by simp)]
  simp
theorem ix_m2 (pre : List Int) (p a : Int) {s : Sl} (hs : s.seq? = some ((pre ++ [p] ++ [a]).map D.int)) : ixS s (I (-2)) = some (I p) := by
  unfold ixS
  rw [hs]
  simp [L2.atI, L2.ixN]
  rw [if_pos (by omega)]
  simp
  rw [show (-2 + ((pre.length : Int) + 2)).toNat = pre.length by omega, List.getElem?_append_right (by simp)]
  simp
theorem ch_loop (B : Tb T) (st many : Sl) (ta : TapeO) : ∀ (m j : Nat) (x : Int) (pre : List Int) (z : Sl), Inr T x → pre.length + m < 1000 → ∃ z', forL (.one 4) (appC 3 (binE ixS (varE 0) (binE ixS (varE 3) (unE negS (cstE (.int 1)))))) ((List.range' j m).map fun i => D.int (i : Nat))
      [tT T, st, many, .own ((pre ++ [x]).map D.int), z] ta = some (.nx, [tT T, st, many, .own ((pre ++ tail T m x).map D.int), z'], ta)
  | 0, j, x, pre, z, _, _ => ⟨z, by simp [tail]⟩
  | m + 1, j, x, pre, z, h, hl => by
    obtain ⟨z', ih⟩ := ch_loop B st many ta m (j + 1) (nx T x) (pre ++ [x]) (I (j : Nat)) (nx_in B h) (by simp; omega)
    refine ⟨z', ?_⟩
    have m1 := ix_m1 pre x (s := .bor ((pre ++ [x]).map D.int)) rfl
    have hx := ix_T h
    have LM : LIM = 16777216 := rfl
    have lL : (pre ++ [x]).length < LIM := by rw [List.length_append, List.length_singleton]; omega
    have e1 : pre ++ [x] ++ tail T m (nx T x) = pre ++ tail T (m + 1) x := by simp [tail]
    have e2 : (pre ++ [x] ++ [nx T x]).map D.int = (pre ++ [x]).map D.int ++ [D.int (nx T x)] := by simp
    have e3 : ((pre ++ [x]).map D.int).length < LIM := by rw [List.length_map]; exact lL
    rw [e1, e2] at ih
    generalize (pre ++ tail T (m + 1) x).map D.int = R at *
    generalize (pre ++ [x]).map D.int = L at *
    have ng : negS (.val (.int 1)) = some (.val (.int (-1))) := rfl
    rw [List.range'_succ, List.map_cons, forL_cons]
    simp only [I, tT] at *
    simp [ng, m1, hx, e3]
    simpa using ih
theorem X_chain (B : Tb T) {x : Int} (h : Inr T x) (k : Nat) (hk : k ≤ 64) : F_chain [tT T, I x, I (k : Nat)] ta = some (.ok (.val (.tup ((tail T k x).map D.int))), ta) := by
  obtain ⟨z', e⟩ := ch_loop B (I x) (I (k : Nat)) ta k 0 x [] .un h (by simp; omega)
  rw [List.nil_append, List.nil_append, List.map_cons, List.map_nil] at e
  have rg := rgE (j := ((k : Nat) : Int)) (by omega) (by omega)
  rw [Int.toNat_natCast] at rg
  have k64 : (k : Int) ≤ 64 := by omega
  unfold F_chain C_chain
  rw [defF_ap]
  simp only [I, tT] at e
  generalize (tail T k x).map D.int = R at *
  simp [X_check B, lenS, le_int, lt_int, h.1, h.2, k64, rg, e, tupleS]
/-- what a found number of times tells -/
theorem sE_spec {last : Int} (B : Tb T) : ∀ (m t : Nat) (x : Int) (r : Nat), Inr T x → sE T last m t x = some r → ∃ k, r = t + k ∧ k < m ∧ ∃ pre, tail T k x = pre ++ [last] ∧ (k = 0 ∨ ∃ pre' p, pre = pre' ++ [p] ∧ nx T p = last ∧ Inr T p)
  | 0, _, _, _, _, h => by simp [sE] at h
  | m + 1, t, x, r, hx, h => by
    by_cases e : x = last
    · simp [sE, e] at h
      exact ⟨0, by omega, by omega, [], by simp [tail, e], .inl rfl⟩
    · simp only [sE, if_neg e] at h
      obtain ⟨k, hr, hk, pre, h1, h2⟩ := sE_spec B m (t + 1) (nx T x) r (nx_in B hx) h
      refine ⟨k + 1, by omega, by omega, x :: pre, by simp [tail, h1], .inr ?_⟩
      rcases h2 with h2 | ⟨pre', p, h2, h3, h4⟩
      · subst h2
        have : pre = [] := by
          have := congrArg List.length h1
          rw [tail_len] at this
          simp at this
          exact this
        subst this
        simp [tail] at h1
        exact ⟨[], x, rfl, h1, hx⟩
      · exact ⟨x :: pre', p, by rw [h2]; rfl, h3, h4⟩
/-! back -/
def enJ (j : Nat) (cs : List Int) : List D := List.zipWith (fun (i : Nat) d => D.tup [.int (i : Int), d]) (List.range' j cs.length) (cs.map D.int)
theorem enum_is (cs : List Int) : enumD (cs.map D.int) = enJ 0 cs := by unfold enumD enJ; rw [List.length_map, List.range_eq_range']
def bkf (goal : Int) : Nat → List Int → List Int
  | _, [] => []
  | j, c :: cs => if c = goal then (j : Nat) :: bkf goal (j + 1) cs else bkf goal (j + 1) cs
theorem bkf_mem (goal : Int) : ∀ (l : List Int) (j i : Nat), l[i]? = some goal → ((j + i : Nat) : Int) ∈ bkf goal j l
  | [], j, i, h => by simp at h
  | c :: l, j, 0, h => by
    simp at h
    simp [bkf, h]
  | c :: l, j, i + 1, h => by
    have ih := bkf_mem goal l (j + 1) i (by simpa using h)
    rw [show j + 1 + i = j + (i + 1) by omega] at ih
    by_cases e : c = goal
    · simp only [bkf, if_pos e]; exact List.mem_cons_of_mem _ ih
    · simp only [bkf, if_neg e]; exact ih
theorem back_comp (goal : Int) (ta : TapeO) (s : Sl) : ∀ (l : List Int) (j : Nat), compL (.tup [2, 3]) (ofE (binE eqS (varE 3) (varE 1))) (varE 2) (enJ j l) [s, I goal, .un, .un] ta = some ((bkf goal j l).map D.int, ta)
  | [], _ => rfl
  | c :: l, j => by
    have ih := back_comp goal ta s l (j + 1)
    rw [show enJ j (c :: l) = .tup [.int (j : Nat), .int c] :: enJ (j + 1) l by unfold enJ; rw [List.length_cons, List.range'_succ, List.map_cons, List.zipWith_cons_cons], compL_cons]
    simp only [I] at ih
    by_cases e : c = goal
    · simp [eq_int, e, bkf, ih]
    · simp [eq_int, e, bkf, ih]
theorem X_back (B : Tb T) (goal : Int) : F_back [tT T, I goal] ta = some (.ok (.val (.tup ((bkf goal 0 T).map D.int))), ta) := by
  have b2 := B.l2
  have e := back_comp goal ta (tT T) T 0
  have LM : LIM = 16777216 := rfl
  have el : (enJ 0 T).length < LIM := by unfold enJ; simp; omega
  unfold F_back C_back
  rw [defF_ap]
  simp only [I, tT] at e
  generalize (bkf goal 0 T).map D.int = R at *
  simp [X_check B, enum_tup, enum_is, el, e, tupleS]
theorem back_has {goal p : Int} (h : Inr T p) (e : nx T p = goal) : p ∈ bkf goal 0 T := by
  have hl : p.toNat < T.length := by have := h.1; have := h.2; omega
  have := bkf_mem goal T 0 p.toNat (by rw [← e]; unfold nx; rw [List.getD_eq_getElem?_getD, List.getElem?_eq_getElem hl]; rfl)
  rw [Nat.zero_add, Int.toNat_of_nonneg h.1] at this
  exact this
end
end MP.K41

namespace MP.K41
open PySem
theorem ne_optD (r : Option Nat) : neS (.val (optD r)) (.val (optD r)) = some (.val (.bl false)) := by
  cases r with
  | none => exact ne_self _ rfl (by simp [optD, D.py, PyData.depth])
  | some k => rw [show optD (some k) = D.int (k : Nat) from rfl, ne_int]; simp
def BIG : Int := 1000000000000000000000000000000
section
variable {T : List Int}
theorem mn_big (B : Tb T) : mn T BIG = T.length := by
  have := B.l2
  unfold mn BIG
  rw [if_pos (by omega)]
theorem inner (B : Tb T) {one : Int} (h : Inr T one) (last : Int) (z0 z1 z2 z3 z8 z9 : Sl) (ta : TapeO) : ∀ (ms : List Int) (z7 : Sl), (∀ m ∈ ms, -5 ≤ m) → ∃ z7', forL (.one 7) (ifC (ofE (binE neS (callF F_is_earlier [(varE 4), (varE 6), (varE 5), (varE 7)]) (callF F__law_earlier [(varE 4), (varE 6), (varE 5), (varE 7)]))) (retC (cstE (.bl false))) skipC) (ms.map D.int)
    [z0, z1, z2, z3, tT T, I one, I last, z7, z8, z9] ta = some (.nx, [z0, z1, z2, z3, tT T, I one, I last, z7', z8, z9], ta)
  | [], z7, _ => ⟨z7, rfl⟩
  | m :: ms, z7, hm => by
    obtain ⟨z7', ih⟩ := inner B h last z0 z1 z2 z3 z8 z9 ta ms (I m) fun x hx => hm x (List.mem_cons_of_mem _ hx)
    refine ⟨z7', ?_⟩
    have a := X_earlier B last h (hm m List.mem_cons_self) (ta := ta)
    have b := X_lear B last h (most := m) (ta := ta)
    have ne := ne_optD (sE T last (mn T m + 1).toNat 0 one)
    generalize optD (sE T last (mn T m + 1).toNat 0 one) = r at *
    rw [List.map_cons, forL_cons]
    simp only [I, tT] at *
    simp [a, b, ne]
    exact ih
def inC : Cs := (forC (seqF (escE (lstE [(binE subS (cstE (.int 0)) (cstE (.int 1))), (cstE (.int 0)), (cstE (.int 1)), (callF F__law_take [(varE 1), (cstE (.int 64))]), (binE subS (varE 2) (cstE (.int 2))), (binE subS (varE 2) (cstE (.int 1))), (varE 2), (binE powS (cstE (.int 10)) (cstE (.int 12))), (binE powS (cstE (.int 10)) (cstE (.int 30)))]))) (.one 7) (ifC (ofE (binE neS (callF F_is_earlier [(varE 4), (varE 6), (varE 5), (varE 7)]) (callF F__law_earlier [(varE 4), (varE 6), (varE 5), (varE 7)]))) (retC (cstE (.bl false))) skipC))
def outB : Cs := (seqC inC
  (seqC (asgC 8 (callF F_is_earlier [(varE 4), (varE 6), (varE 5), (binE powS (cstE (.int 10)) (cstE (.int 30)))]))
  (ifC (andT (ofE (binE isntS (varE 8) (cstE .non))) (orT (ofE (binE neS (binE ixS (callF F_chain [(varE 4), (varE 5), (varE 8)]) (unE negS (cstE (.int 1)))) (varE 6))) (andT (ofE (binE gtS (varE 8) (cstE (.int 0)))) (ofE (binE ninS (binE ixS (callF F_chain [(varE 4), (varE 5), (varE 8)]) (unE negS (cstE (.int 2)))) (callF F_back [(varE 4), (varE 6)])))))) (retC (cstE (.bl false))) skipC)))
theorem outer1 (B : Tb T) {one : Int} (h : Inr T one) (last : Int) (z0 z3 z7 z8 z9 : Sl) {t : Tape} (Tk : TOk t) : ∃ z7' z8' t', TOk t' ∧ outB [z0, .tape, I (T.length : Nat), z3, tT T, I one, I last, z7, z8, z9] (some t) = some (.nx, [z0, .tape, I (T.length : Nat), z3, tT T, I one, I last, z7', z8', z9], some t') := by
  have b1 := B.l1
  have b2 := B.l2
  obtain ⟨a, t1, a0, a1, T1, e1⟩ := take_next (n := 64) (by decide) (by decide) Tk
  obtain ⟨z7', e2⟩ := inner B h last z0 .tape (I (T.length : Nat)) z3 z8 z9 (some t1) [-1, 0, 1, a, T.length - 2, T.length - 1, T.length, 1000000000000, 1000000000000000000000000000000] z7 (fun m hm => by
    simp at hm
    rcases hm with rfl | rfl | rfl | rfl | rfl | rfl | rfl | rfl | rfl <;> omega)
  have xe := X_earlier B last h (most := 1000000000000000000000000000000) (by decide) (ta := some t1)
  have hmn := mn_big B
  unfold BIG at hmn
  rw [hmn] at xe
  refine ⟨z7', .val (optD (sE T last ((T.length : Int) + 1).toNat 0 one)), t1, T1, ?_⟩
  have hin : inC [z0, .tape, I (T.length : Nat), z3, tT T, I one, I last, z7, z8, z9] (some t) = some (.nx, [z0, .tape, I (T.length : Nat), z3, tT T, I one, I last, z7', z8, z9], some t1) := by
    unfold inC
    simp only [I, tT, List.map_cons, List.map_nil] at e2 ⊢
    simp [take_is, e1, sub_int, pow_int]
    exact e2
  unfold outB
  rw [seqC_ap, hin, kQ_nx]
  simp only [I, tT] at xe ⊢
  cases hs : sE T last ((T.length : Int) + 1).toNat 0 one with
  | none =>
    rw [hs] at xe
    have is0 : isntS (.val .non) (.val .non) = some (.val (.bl false)) := rfl
    simp [pow_int, xe, optD, is0]
  | some r =>
    rw [hs] at xe
    obtain ⟨k, hr, hk, pre, h1, h2⟩ := sE_spec B _ _ _ _ h hs
    have hrk : r = k := by omega
    subst hrk
    have ch := X_chain B h r (by omega) (ta := some t1)
    have bk := X_back B last (ta := some t1)
    have m1 := ix_m1 pre last (s := .val (.tup ((pre ++ [last]).map D.int))) rfl
    rw [← h1] at m1
    have is1 : isntS (.val (.int (r : Nat))) (.val .non) = some (.val (.bl true)) := rfl
    have ng1 : negS (.val (.int 1)) = some (.val (.int (-1))) := rfl
    have ng2 : negS (.val (.int 2)) = some (.val (.int (-2))) := rfl
    rcases h2 with h2 | ⟨pre', p, h2, h3, h4⟩
    · subst h2
      rw [show ((0 : Nat) : Int) = 0 from rfl] at ch is1
      generalize (tail T 0 one).map D.int = R at *
      simp only [I, tT] at *
      simp [pow_int, xe, optD, is1, ch, ng1, m1, ne_int, gt_int]
    · have m2 := ix_m2 pre' p last (s := .val (.tup ((pre' ++ [p] ++ [last]).map D.int))) rfl
      rw [← h2, ← h1] at m2
      have nt := nin_tup p (bkf last 0 T)
      rw [decide_eq_true (back_has h4 h3)] at nt
      generalize (tail T r one).map D.int = R at *
      generalize (bkf last 0 T).map D.int = BK at *
      simp only [I, tT] at *
      simp [pow_int, xe, optD, is1, ch, ng1, ng2, m1, ne_int, gt_int, m2, bk, nt]
theorem outer (B : Tb T) {one : Int} (h : Inr T one) (z0 z3 z9 : Sl) : ∀ (ls : List Int) (z6 z7 z8 : Sl) (t : Tape), TOk t → ∃ z6' z7' z8' t', TOk t' ∧ forL (.one 6) outB (ls.map D.int) [z0, .tape, I (T.length : Nat), z3, tT T, I one, z6, z7, z8, z9] (some t) = some (.nx, [z0, .tape, I (T.length : Nat), z3, tT T, I one, z6', z7', z8', z9], some t')
  | [], z6, z7, z8, t, Tk => ⟨z6, z7, z8, t, Tk, rfl⟩
  | last :: ls, z6, z7, z8, t, Tk => by
    obtain ⟨y7, y8, t1, T1, e⟩ := outer1 B h last z0 z3 z7 z8 z9 Tk
    obtain ⟨x6, x7, x8, t2, T2, ih⟩ := outer B h z0 z3 z9 ls (I last) y7 y8 t1 T1
    refine ⟨x6, x7, x8, t2, T2, ?_⟩
    rw [List.map_cons, forL_cons]
    simp only [I, tT] at e ih ⊢
    simp [e]
    exact ih
/-! the tables -/
theorem tb_comp {n sh : Int} (n1 : 1 ≤ n) (n2 : n < 1000) (z0 z4 z5 z6 z7 z8 : Sl) : ∀ (m j : Nat) (t : Tape), TOk t → ∃ (l : List Int) (t' : Tape), l.length = m ∧ (∀ x ∈ l, 0 ≤ x ∧ x < n) ∧ TOk t' ∧
    compL (.one 9) yesT (ifE (ofE (binE gtS (callF takeF [(varE 1), (cstE (.int 9))]) (cstE (.int 0)))) (binE modS (callE intS [(binE addS (varE 9) (varE 3))]) (varE 2)) (callF takeF [(varE 1), (varE 2)])) ((List.range' j m).map fun i => D.int (i : Nat)) [z0, .tape, I n, I sh, z4, z5, z6, z7, z8, .un] (some t) = some (l.map D.int, some t')
  | 0, j, t, Tk => ⟨[], t, rfl, (fun x h => by cases h), Tk, rfl⟩
  | m + 1, j, t, Tk => by
    obtain ⟨a, t1, a0, a1, T1, e1⟩ := take_next (n := 9) (by decide) (by decide) Tk
    by_cases h : 0 < a
    · obtain ⟨l, t2, hl, hx, T2, e2⟩ := tb_comp (sh := sh) n1 n2 z0 z4 z5 z6 z7 z8 m (j + 1) t1 T1
      have mo := @mod_int ((j : Int) + sh) n (by omega)
      refine ⟨((j : Int) + sh) % n :: l, t2, by simp [hl], fun x hx' => ?_, T2, ?_⟩
      · rcases List.mem_cons.mp hx' with rfl | hx'
        · exact ⟨Int.emod_nonneg _ (by omega), Int.emod_lt_of_pos _ (by omega)⟩
        · exact hx x hx'
      · rw [List.range'_succ, List.map_cons, compL_cons]
        simp only [I] at e2 mo ⊢
        simp [e1, gt_int, h, add_int, mo, e2]
    · obtain ⟨b, t2, b0, b1, T2, e2⟩ := take_next (n := n) n1 (by omega) T1
      obtain ⟨l, t3, hl, hx, T3, e3⟩ := tb_comp (sh := sh) n1 n2 z0 z4 z5 z6 z7 z8 m (j + 1) t2 T2
      refine ⟨b :: l, t3, by simp [hl], fun x hx' => ?_, T3, ?_⟩
      · rcases List.mem_cons.mp hx' with rfl | hx'
        · exact ⟨b0, b1⟩
        · exact hx x hx'
      · rw [List.range'_succ, List.map_cons, compL_cons]
        simp only [I] at e3 ⊢
        simp [e1, gt_int, h, e2, e3]
theorem cyc_comp {n : Int} (n1 : 1 ≤ n) (z0 z1 z3 z4 z5 z6 z7 z8 : Sl) (ta : TapeO) : ∀ (m j : Nat), ∃ (l : List Int), l.length = m ∧ (∀ x ∈ l, 0 ≤ x ∧ x < n) ∧
    compL (.one 9) yesT (binE modS (callE intS [(binE addS (varE 9) (cstE (.int 1)))]) (varE 2)) ((List.range' j m).map fun i => D.int (i : Nat)) [z0, z1, I n, z3, z4, z5, z6, z7, z8, .un] ta = some (l.map D.int, ta)
  | 0, j => ⟨[], rfl, (fun x h => by cases h), rfl⟩
  | m + 1, j => by
    obtain ⟨l, hl, hx, e2⟩ := cyc_comp n1 z0 z1 z3 z4 z5 z6 z7 z8 ta m (j + 1)
    have mo := @mod_int ((j : Int) + 1) n (by omega)
    refine ⟨((j : Int) + 1) % n :: l, by simp [hl], fun x hx' => ?_, ?_⟩
    · rcases List.mem_cons.mp hx' with rfl | hx'
      · exact ⟨Int.emod_nonneg _ (by omega), Int.emod_lt_of_pos _ (by omega)⟩
      · exact hx x hx'
    · rw [List.range'_succ, List.map_cons, compL_cons]
      simp only [I] at e2 mo ⊢
      simp [add_int, mo, e2]
theorem X_pick {t : Tape} (Tk : TOk t) : ∃ (n : Int) (t' : Tape), 2 ≤ n ∧ n ≤ 64 ∧ TOk t' ∧ F__law_pick [.tape, .val (.lst [.int 2, .int 3, .int 7, .int 20, .int 63, .int 64])] (some t) = some (.ok (I n), some t') := by
  obtain ⟨a, t1, a0, a1, T1, e1⟩ := take_next (n := 6) (by decide) (by decide) Tk
  have hx : ∃ n : Int, 2 ≤ n ∧ n ≤ 64 ∧ ixS (.val (.lst [.int 2, .int 3, .int 7, .int 20, .int 63, .int 64])) (.val (.int a)) = some (I n) := by
    have : a = 0 ∨ a = 1 ∨ a = 2 ∨ a = 3 ∨ a = 4 ∨ a = 5 := by omega
    rcases this with rfl | rfl | rfl | rfl | rfl | rfl
    · exact ⟨2, by decide, by decide, rfl⟩
    · exact ⟨3, by decide, by decide, rfl⟩
    · exact ⟨7, by decide, by decide, rfl⟩
    · exact ⟨20, by decide, by decide, rfl⟩
    · exact ⟨63, by decide, by decide, rfl⟩
    · exact ⟨64, by decide, by decide, rfl⟩
  obtain ⟨n, h1, h2, hx⟩ := hx
  refine ⟨n, t1, h1, h2, T1, ?_⟩
  unfold F__law_pick C__law_pick
  rw [defF_ap]
  simp only [I] at hx
  simp [take_is, lenS, e1, hx]
end
end MP.K41

namespace MP.K41
open PySem
theorem shs {x : Str} (h : PyData.strOk x = true) : SeqAt.shaped (D.str x).py = true := by
  simp [SeqAt.shaped, D.py, PyData.canLay0, PyData.depth, h]
theorem ne_str {x : Str} (h : PyData.strOk x = true) : neS (.val (.str x)) (.val (.str x)) = some (.val (.bl false)) := by
  unfold neS eqC
  simp [Sl.dat?, shs h, eqv_self]
theorem eq_str {x : Str} (h : PyData.strOk x = true) : eqS (.val (.str x)) (.val (.str x)) = some (.val (.bl true)) := by
  unfold eqS eqC
  simp [Sl.dat?, shs h, eqv_self]
theorem law_true (ns : List Int) (hl : ns.length ≤ 63) : ∃ env t, C_law ([.val (.lst (ns.map D.int))] ++ List.replicate (10 - 1) .un) none = some (.rt (.val (.bl true)), env, t) := by
  show endsTrue (C_law ([.val (.lst (ns.map D.int))] ++ List.replicate (10 - 1) .un) none)
  obtain ⟨seed, s0, s1', eb⟩ := begin_ok ns
  obtain ⟨t0, ht0⟩ : ∃ t0 : Tape, t0 = ⟨ns, 0, 0, seed⟩ := ⟨_, rfl⟩
  have T0 : TOk t0 := by subst ht0; exact ⟨Int.le_refl _, s0, s1'⟩
  obtain ⟨n, t1, n1, n2, T1, e1⟩ := X_pick T0
  obtain ⟨sh0, t2, sh1, sh2, T2, e2⟩ := take_next (n := n) (by omega) (by omega) T1
  obtain ⟨l, t3, ll, lm, T3, e3⟩ := tb_comp (n := n) (sh := 1 + sh0) (by omega) (by omega) (.val (.lst (ns.map D.int))) .un .un .un .un .un n.toNat 0 t2 T2
  obtain ⟨b, t4, b0, b1, T4, e4⟩ := take_next (n := 2) (by decide) (by decide) T3
  have rg := rg1_ok' (j := n) (by omega) (by omega)
  have LM : LIM = 16777216 := rfl
  have nL : n.toNat < LIM := by omega
  have rest : ∀ T : List Int, (T.length : Int) = n → (∀ x ∈ T, 0 ≤ x ∧ x < n) → ∀ (z3 : Sl), endsTrue (seqC (asgC 5 (callF takeF [(varE 1), (varE 2)]))
  (seqC (forC (seqF (escE (lstE [(callF takeF [(varE 1), (varE 2)]), (binE modS (callE intS [(binE subS (binE addS (varE 5) (varE 2)) (cstE (.int 1)))]) (varE 2)), (binE ixS (varE 4) (varE 5)), (varE 5), (varE 2), (binE subS (cstE (.int 0)) (cstE (.int 1)))]))) (.one 6) outB)
  (seqC (ifC (ofE (binE neS (codeE (callF F_is_earlier [(varE 4), (varE 5), (varE 2), (binE powS (cstE (.int 10)) (cstE (.int 30)))])) (cstE (.str "number")))) (retC (cstE (.bl false))) skipC)
  (retC (binE eqS (codeE (callF F_is_earlier [(tupE [(cstE (.int 0))]), (cstE (.int 0)), (cstE (.int 0)), (cstE (.int 1))])) (cstE (.str "table")))))) 
      [.val (.lst (ns.map D.int)), .tape, I n, z3, tT T, .un, .un, .un, .un, .un] (some t4)) := fun T hT hm z3 => by
    have B : Tb T := ⟨by omega, by omega, fun x hx => by rw [hT]; exact hm x hx⟩
    obtain ⟨one, t5, o0, o1, T5, e5⟩ := take_next (n := n) (by omega) (by omega) T4
    obtain ⟨la, t6, la0, la1, T6, e6⟩ := take_next (n := n) (by omega) (by omega) T5
    have ho : Inr T one := ⟨o0, by rw [hT]; exact o1⟩
    have hx := ix_T ho
    have mo := @mod_int (one + n - 1) n (by omega)
    obtain ⟨y6, y7, y8, t7, T7, e7⟩ := outer B ho (.val (.lst (ns.map D.int))) z3 .un [la, (one + n - 1) % n, nx T one, one, n, -1] .un .un .un t6 T6
    have c1 := X_number B one 1000000000000000000000000000000 (one := n) (by omega) (ta := some t7)
    have c2 := X_table 0 0 1 (ta := some t7)
    have q1 : neS (.val (.str "number")) (.val (.str "number")) = some (.val (.bl false)) := ne_str (by decide +kernel)
    have q2 : eqS (.val (.str "table")) (.val (.str "table")) = some (.val (.bl true)) := eq_str (by decide +kernel)
    rw [hT] at e7
    simp only [I, tT, List.map_cons, List.map_nil] at *
    simp [e5, e6, add_int, sub_int, mo, hx, e7, pow_int, c1, q1, c2, q2]
  have r1 := rest l (by rw [ll]; omega) lm
  obtain ⟨l2, l2l, l2m, e5⟩ := cyc_comp (n := n) (by omega) (.val (.lst (ns.map D.int))) .tape (I (1 + sh0)) (tT l) .un .un .un .un (some t4) n.toNat 0
  have r2 := rest l2 (by rw [l2l]; omega) l2m
  unfold C_law
  unfold outB inC at r1 r2
  clear rest
  simp only [I, tT] at *
  by_cases hb : b = 0
  · subst hb
    have r2 := r2 (.val (.int (1 + sh0)))
    clear r1
    simp [take_is] at r2
    simp [begin_is, eb, ← ht0, e1, take_is, e2, add_int, rg, nL, e3, tupleS, e4, eq_int, e5]
    exact r2
  · have r1 := r1 (.val (.int (1 + sh0)))
    clear r2
    simp [take_is] at r1
    simp [begin_is, eb, ← ht0, e1, take_is, e2, add_int, rg, nL, e3, tupleS, e4, eq_int, hb]
    exact r1
end MP.K41

open PySem PySem.W PyProof.Rows
set_option maxRecDepth 100000 in
set_option maxHeartbeats 0 in
theorem PySem.Challenge.cw_secrethall_k41_whole_rows_of_any_length_holds : PySem.Challenge.rw_secrethall_k41_whole_rows_of_any_length.Holds := by
  w_on; o_law; k_head; (case hw => w_witness2)
  k_fill
  refine LamX.walk_ofTs (l := PySem.Challenge.rw_secrethall_k41_whole_rows_of_any_length) (n := 63) (k := 7) (x := "script") (CX := fun w => L2.CX (PySem.Challenge.rw_secrethall_k41_whole_rows_of_any_length).prog w) rfl (by decide) rfl ⟨rfl, by decide, by decide⟩ (fun w h Y => PySem.W.km_in_of Y) ?F fun w H s e s' z => ?X
  case X => exact MP.cx_false z
  case F =>
    intro w mg fa h Y KX G hmg
    show ∃ _, _
    refine' MP.K41.all_mk (P := (PySem.Challenge.rw_secrethall_k41_whole_rows_of_any_length).prog) (w := w) KX G hmg ?a0 ?l0 ?c0 ?k0 ?a1 ?l1 ?c1 ?k1 ?a2 ?l2 ?c2 ?k2 ?a3 ?l3 ?c3 ?k3 ?a4 ?l4 ?c4 ?k4 ?a5 ?l5 ?c5 ?k5 ?a6 ?l6 ?c6 ?k6 ?a7 ?l7 ?c7 ?k7 ?a8 ?l8 ?c8 ?k8 ?a9 ?l9 ?c9 ?k9 ?z_abs ?z_all ?z_enumerate ?z_int ?z_len ?z_list ?z_min ?z_range ?z_tuple ?aC ?iC ?tI ?lI ?cI ?lcd ?lcc ?lC ?saC ?exC ?tyC ?kC ?cdC ?subCC ?anyC ?supC ?bC ?noC ?exm ?gaC ?ggC ?hdC ?zsup ?hre ?hvs ?hfile ?htop ?lL ?hPL ?hdL ?nTL ?hTL (MP.K41.law_true)
    (case a0 => k_is)
    (case l0 => k_is)
    (case c0 => k_is)
    (case k0 => k_is)
    (case a1 => k_is)
    (case l1 => k_is)
    (case c1 => k_is)
    (case k1 => k_is)
    (case a2 => k_is)
    (case l2 => k_is)
    (case c2 => k_is)
    (case k2 => k_is)
    (case a3 => k_is)
    (case l3 => k_is)
    (case c3 => k_is)
    (case k3 => k_is)
    (case a4 => k_is)
    (case l4 => k_is)
    (case c4 => k_is)
    (case k4 => k_is)
    (case a5 => k_is)
    (case l5 => k_is)
    (case c5 => k_is)
    (case k5 => k_is)
    (case a6 => k_is)
    (case l6 => k_is)
    (case c6 => k_is)
    (case k6 => k_is)
    (case a7 => k_is)
    (case l7 => k_is)
    (case c7 => k_is)
    (case k7 => k_is)
    (case a8 => k_is)
    (case l8 => k_is)
    (case c8 => k_is)
    (case k8 => k_is)
    (case a9 => k_is)
    (case l9 => k_is)
    (case c9 => k_is)
    (case k9 => k_is)
    (case z_abs => k_is)
    (case z_all => k_is)
    (case z_enumerate => k_is)
    (case z_int => k_is)
    (case z_len => k_is)
    (case z_list => k_is)
    (case z_min => k_is)
    (case z_range => k_is)
    (case z_tuple => k_is)
    (case aC => k_is)
    (case iC => k_is)
    (case tI => k_is)
    (case lI => k_is)
    (case cI => k_is)
    (case lcd => k_is)
    (case lcc => k_is)
    (case lC => k_is)
    (case saC => k_is)
    (case exC => k_is)
    (case tyC => k_is)
    (case kC => k_is)
    (case cdC => k_is)
    (case subCC => k_is)
    (case anyC => k_is)
    (case supC => kernel_rfl)
    (case bC => k_is)
    (case noC => k_is)
    (case exm => kernel_rfl)
    (case gaC => k_is)
    (case ggC => k_is)
    (case hdC => k_is)
    (case zsup => k_is)
    (case hre => rfl)
    (case hvs => rfl)
    (case hfile => kernel_rfl)
    (case htop => kernel_rfl)
    (case lL => k_is)
    (case hPL => rfl)
    (case hdL => kernel_rfl)
    (case nTL => kernel_rfl)
    (case hTL => exact PySem.W.km_tabs_of Y _ (by k_mem))
