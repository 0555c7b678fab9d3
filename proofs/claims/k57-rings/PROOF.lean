import PyProof.Rows.All
import Wide.All
import OpenK.AllK
import Wide.FinOn
import PyProof.EqAt
import PyProof.EqKinds
import PyProof.TupleCall
import KE.KLam
import HandS.Base
import HandS.Call
import HandS.List
import HandS.Comp
import HandS.Ends
import HandS.Dict
import HandS.Iter
import HandS.Text
import HandS.Exc
import HandS.TryOnly
import HandS.ExcOwn
import HandS.Words
import HandS.WordsList
import HandS.WordsExc
import HandS.Wide
import HandS.WideMore
import HandS.SortInts
import HandS.Conv
import HandS.Flow
import HandS.Style
import HandS.Zip
import HandS.Codes
import HandS.Lambda
import HandS.EndBits
import HandS.EndTab
import HandS.ExcInit
import HandS.ExcSuper
import HandS.ExcField
import KE.GoesMore
import KE.KTupSum
import HandS.More
import KE.KRevSl
import HandS.DictComp
import HandS.DictTup
import HandS.TupSets
import HandS.TupLe
import KE.KDictZip
import KE.KTurns
import PySem.Challenge.RW_secrethall_k57_whole_rings_and_hands_tha
set_option Elab.async false
set_option linter.all false
set_option maxRecDepth 100000
set_option maxHeartbeats 4000000
/-! MPa: plain data, frames of plain data, what an expression comes to. -/
namespace MP
open PySem PySem.Spec PyProof.Rows L2

inductive D where
  | non | bl (b : Bool) | int (i : Int) | str (x : Str) | tup (ds : List D) | lst (ds : List D)

structure Tape where
  scr : List Int
  pos : Nat
  left : Int
  seed : Int

/-- a slot: nothing known, a datum, a list of the frame's own, a list of the frame's own as it is read, the tape -/
inductive Sl where
  | un | val (d : D) | own (ds : List D) | bor (ds : List D) | tape | dic (ks : List (Key × D)) | bdc (ks : List (Key × D))

abbrev TapeO := Option Tape
abbrev SE := List Sl
abbrev Ev := SE → TapeO → Option (Except Str Sl × TapeO)

structure Ct where
  T : List (Addr × Str)
  C : Addr

/-- a list that never changes any more -/
def FzL (K : PySem.W.Frag) (H : Hp) (a : Addr) (xs : List V) : Prop :=
  (∃ o, H a = some (.frz o (.lst xs))) ∨
    ∃ (o : Obj) (its : Array Value) (n : Nat), K.lookup a = some o ∧ o.cls = .type "list" ∧ o.dict = none ∧ o.data = .seq its n ∧ its.size ≤ sizeLine ∧ Vals xs its.toList
theorem FzL.sq {K : PySem.W.Frag} {H : Hp} {a : Addr} {xs : List V} (h : FzL K H a xs) : SqL K H a xs := h.elim (fun h => .inl (.inr h)) .inr
structure Stab (H H' : Hp) : Prop where
  tup : ∀ a xs, H a = some (.tup xs) → H' a = some (.tup xs)
  frz : ∀ a o u, H a = some (.frz o u) → H' a = some (.frz o u)
theorem Stab.refl (H : Hp) : Stab H H := ⟨fun _ _ h => h, fun _ _ _ h => h⟩
theorem Stab.trans {H H1 H2 : Hp} (a : Stab H H1) (b : Stab H1 H2) : Stab H H2 := ⟨fun x y h => b.tup x y (a.tup x y h), fun x y z h => b.frz x y z (a.frz x y z h)⟩
theorem Stab.of_same {H H' : Hp} (s : Same H H') : Stab H H' := ⟨fun a _ h => s a _ h, fun a _ _ h => s a _ h⟩
theorem Same.new {H : Hp} {p : Addr} {o : HO} (h : H p = none) : Same H (upd H p o) := fun a u e => by
  rw [upd_ne (ne_of_none e h)]
  exact e
theorem Stab.fz {K : PySem.W.Frag} {H H' : Hp} {a : Addr} {xs : List V} (s : Stab H H') (h : FzL K H a xs) : FzL K H' a xs := by
  rcases h with ⟨o, h⟩ | h
  · exact .inl ⟨o, s.frz _ _ _ h⟩
  · exact .inr h
theorem Stab.sqT {K : PySem.W.Frag} {H H' : Hp} {a : Addr} {xs : List V} (s : Stab H H') (h : SqT K H a xs) : SqT K H' a xs := by
  rcases h with (h | ⟨o, h⟩) | h
  · exact .inl (.inl (s.tup _ _ h))
  · exact .inl (.inr ⟨o, s.frz _ _ _ h⟩)
  · exact .inr h

mutual
inductive Rep (K : PySem.W.Frag) (H : Hp) : V → D → Prop
  | non : Rep K H .non .non
  | bl (b : Bool) : Rep K H (.bl b) (.bl b)
  | int (i : Int) : Rep K H (.int i) (.int i)
  | str (x : Str) : Rep K H (.str x) (.str x)
  | tup {a : Addr} {xs : List V} {ds : List D} : SqT K H a xs → Reps K H xs ds → Rep K H (.ref a) (.tup ds)
  | lst {a : Addr} {xs : List V} {ds : List D} : FzL K H a xs → Reps K H xs ds → Rep K H (.ref a) (.lst ds)
inductive Reps (K : PySem.W.Frag) (H : Hp) : List V → List D → Prop
  | nil : Reps K H [] []
  | cons {v : V} {vs : List V} {d : D} {ds : List D} : Rep K H v d → Reps K H vs ds → Reps K H (v :: vs) (d :: ds)
end
section
variable {K : PySem.W.Frag} {H H' : Hp}
mutual
theorem Rep.mono (s : Stab H H') : ∀ (d : D) (v : V), Rep K H v d → Rep K H' v d
  | .non, _, h => by cases h; exact .non
  | .bl _, _, h => by cases h; exact .bl _
  | .int _, _, h => by cases h; exact .int _
  | .str _, _, h => by cases h; exact .str _
  | .tup ds, _, h => by
    cases h with
    | tup h1 h2 => exact .tup (s.sqT h1) (Reps.mono s ds _ h2)
  | .lst ds, _, h => by
    cases h with
    | lst h1 h2 => exact .lst (s.fz h1) (Reps.mono s ds _ h2)
theorem Reps.mono (s : Stab H H') : ∀ (ds : List D) (vs : List V), Reps K H vs ds → Reps K H' vs ds
  | [], _, h => by cases h; exact .nil
  | d :: ds, _, h => by
    cases h with
    | cons h1 h2 => exact .cons (Rep.mono s d _ h1) (Reps.mono s ds _ h2)
end
theorem Rep.st {v : V} {d : D} (h : Rep K H v d) (s : Stab H H') : Rep K H' v d := Rep.mono s d v h
theorem Reps.st {vs : List V} {ds : List D} (h : Reps K H vs ds) (s : Stab H H') : Reps K H' vs ds := Reps.mono s ds vs h
theorem Reps.length : ∀ {vs : List V} {ds : List D}, Reps K H vs ds → vs.length = ds.length
  | _, _, .nil => rfl
  | _, _, .cons _ t => by simp [t.length]
theorem Reps.get : ∀ {vs : List V} {ds : List D} {i : Nat} {d : D}, Reps K H vs ds → ds[i]? = some d → ∃ v, vs[i]? = some v ∧ Rep K H v d
  | _, _, i, d, .nil, h => by simp at h
  | _, _, 0, d, .cons h1 h2, h => by simp at h; subst h; exact ⟨_, rfl, h1⟩
  | _, _, i + 1, d, .cons h1 h2, h => by
    obtain ⟨v, e, r⟩ := Reps.get (i := i) h2 (by simpa using h)
    exact ⟨v, by simpa using e, r⟩
theorem Reps.getV : ∀ {vs : List V} {ds : List D} {i : Nat} {v : V}, Reps K H vs ds → vs[i]? = some v → ∃ d, ds[i]? = some d ∧ Rep K H v d
  | _, _, i, d, .nil, h => by simp at h
  | _, _, 0, d, .cons h1 h2, h => by simp at h; subst h; exact ⟨_, rfl, h1⟩
  | _, _, i + 1, d, .cons h1 h2, h => by
    obtain ⟨v, e, r⟩ := Reps.getV (i := i) h2 (by simpa using h)
    exact ⟨v, by simpa using e, r⟩
theorem Reps.append : ∀ {vs ws : List V} {ds es : List D}, Reps K H vs ds → Reps K H ws es → Reps K H (vs ++ ws) (ds ++ es)
  | _, _, _, _, .nil, h => h
  | _, _, _, _, .cons h1 h2, h => .cons h1 (h2.append h)
theorem Reps.set {v : V} {d : D} (r : Rep K H v d) : ∀ {vs : List V} {ds : List D} (i : Nat), Reps K H vs ds → Reps K H (vs.set i v) (ds.set i d)
  | _, _, _, .nil => .nil
  | _, _, 0, .cons _ t => .cons r t
  | _, _, i + 1, .cons q t => .cons q (Reps.set r i t)
theorem Reps.take : ∀ {vs : List V} {ds : List D} (n : Nat), Reps K H vs ds → Reps K H (vs.take n) (ds.take n)
  | _, _, 0, _ => .nil
  | _, _, _ + 1, .nil => .nil
  | _, _, n + 1, .cons r t => .cons r (Reps.take n t)
theorem Reps.drop : ∀ {vs : List V} {ds : List D} (n : Nat), Reps K H vs ds → Reps K H (vs.drop n) (ds.drop n)
  | _, _, 0, r => r
  | _, _, _ + 1, .nil => .nil
  | _, _, n + 1, .cons _ t => Reps.drop n t
theorem Reps.eraseIdx : ∀ {vs : List V} {ds : List D} (i : Nat), Reps K H vs ds → Reps K H (vs.eraseIdx i) (ds.eraseIdx i)
  | _, _, _, .nil => .nil
  | _, _, 0, .cons _ t => t
  | _, _, i + 1, .cons r t => .cons r (Reps.eraseIdx i t)
theorem Reps.reverse : ∀ {vs : List V} {ds : List D}, Reps K H vs ds → Reps K H vs.reverse ds.reverse
  | _, _, .nil => .nil
  | _, _, .cons r t => by
    rw [List.reverse_cons, List.reverse_cons]
    exact t.reverse.append (.cons r .nil)
theorem Reps.flat {vs : List V} {ds : List D} (h : Reps K H vs ds) : ∀ k : Nat, Reps K H (List.replicate k vs).flatten (List.replicate k ds).flatten
  | 0 => .nil
  | k + 1 => by
    rw [List.replicate_succ, List.replicate_succ, List.flatten_cons, List.flatten_cons]
    exact h.append (h.flat k)
theorem Reps.ints : ∀ (ns : List Int), Reps K H (ns.map V.int) (ns.map D.int)
  | [] => .nil
  | n :: r => .cons (.int n) (Reps.ints r)
theorem Reps.intsV : ∀ {vs : List V} (ns : List Int), Reps K H vs (ns.map D.int) → vs = ns.map V.int
  | _, [], h => by cases h; rfl
  | _, n :: r, h => by
    cases h with
    | cons h1 h2 =>
      cases h1
      rw [Reps.intsV r h2, List.map_cons]
theorem Reps.blsV : ∀ {vs : List V} (bs : List Bool), Reps K H vs (bs.map D.bl) → vs = bs.map V.bl
  | _, [], h => by cases h; rfl
  | _, n :: r, h => by
    cases h with
    | cons h1 h2 =>
      cases h1
      rw [Reps.blsV r h2, List.map_cons]
end

/-! ### tables -/
def valD (ks : List (Key × D)) (k : Key) : Option D := (ks.find? fun kv => decide (kv.1 = k)).map (·.2)
def putD (ks : List (Key × D)) (k : Key) (v : D) : List (Key × D) :=
  if (ks.any fun kv => decide (kv.1 = k)) = true then ks.map (fun kv => if kv.1 = k then (kv.1, v) else kv) else ks ++ [(k, v)]
inductive RepsK (K : PySem.W.Frag) (H : Hp) : List (Key × V) → List (Key × D) → Prop
  | nil : RepsK K H [] []
  | cons {k : Key} {v : V} {vs : List (Key × V)} {d : D} {ds : List (Key × D)} : Rep K H v d → RepsK K H vs ds → RepsK K H ((k, v) :: vs) ((k, d) :: ds)
section
variable {K : PySem.W.Frag} {H H' : Hp}
theorem RepsK.st (s : Stab H H') : ∀ {vs : List (Key × V)} {ds : List (Key × D)}, RepsK K H vs ds → RepsK K H' vs ds
  | _, _, .nil => .nil
  | _, _, .cons h t => .cons (h.st s) (t.st s)
theorem RepsK.length : ∀ {vs : List (Key × V)} {ds : List (Key × D)}, RepsK K H vs ds → vs.length = ds.length
  | _, _, .nil => rfl
  | _, _, .cons _ t => by simp [t.length]
theorem RepsK.val {k : Key} : ∀ {vs : List (Key × V)} {ds : List (Key × D)}, RepsK K H vs ds →
    (valD ds k = none → valV vs k = none) ∧ (∀ d, valD ds k = some d → ∃ v, valV vs k = some v ∧ Rep K H v d)
  | _, _, .nil => ⟨fun _ => rfl, fun d e => by cases e⟩
  | _, _, .cons (k := j) (v := v) (d := d) (vs := vs) (ds := ds) h t => by
    have ih := t.val (k := k)
    by_cases e : j = k
    · have e1 : valD ((j, d) :: ds) k = some d := by simp [valD, List.find?_cons, e]
      have e2 : valV ((j, v) :: vs) k = some v := by simp [valV, List.find?_cons, e]
      rw [e1, e2]
      exact ⟨(by intro h; cases h), fun d' h' => ⟨v, rfl, by cases h'; exact h⟩⟩
    · have e1 : valD ((j, d) :: ds) k = valD ds k := by simp [valD, List.find?_cons, e]
      have e2 : valV ((j, v) :: vs) k = valV vs k := by simp [valV, List.find?_cons, e]
      rw [e1, e2]
      exact ih
theorem RepsK.any {k : Key} : ∀ {vs : List (Key × V)} {ds : List (Key × D)}, RepsK K H vs ds → (vs.any fun kv => decide (kv.1 = k)) = (ds.any fun kv => decide (kv.1 = k))
  | _, _, .nil => rfl
  | _, _, .cons _ t => by rw [List.any_cons, List.any_cons, t.any]
theorem RepsK.repl {k : Key} {v : V} {d : D} (r : Rep K H v d) : ∀ {vs : List (Key × V)} {ds : List (Key × D)}, RepsK K H vs ds →
    RepsK K H (vs.map (fun kv => if kv.1 = k then (kv.1, v) else kv)) (ds.map (fun kv => if kv.1 = k then (kv.1, d) else kv))
  | _, _, .nil => .nil
  | _, _, .cons (k := j) h t => by
    rw [List.map_cons, List.map_cons]
    by_cases e : j = k
    · rw [if_pos e, if_pos e]; exact .cons r (t.repl r)
    · rw [if_neg e, if_neg e]; exact .cons h (t.repl r)
theorem RepsK.snoc {k : Key} {v : V} {d : D} (r : Rep K H v d) : ∀ {vs : List (Key × V)} {ds : List (Key × D)}, RepsK K H vs ds → RepsK K H (vs ++ [(k, v)]) (ds ++ [(k, d)])
  | _, _, .nil => .cons r .nil
  | _, _, .cons h t => .cons h (t.snoc r)
theorem RepsK.put {k : Key} {v : V} {d : D} (r : Rep K H v d) {vs : List (Key × V)} {ds : List (Key × D)} (h : RepsK K H vs ds) : RepsK K H (putK vs k v) (putD ds k d) := by
  unfold putK putD
  rw [h.any]
  split
  · exact h.repl r
  · exact h.snoc r
end

/-! ### as the library's data -/
mutual
def D.py : D → PyData
  | .non => .none
  | .bl b => .bool b
  | .int i => .int i
  | .str x => .str x
  | .tup ds => .tuple (pys ds)
  | .lst ds => .list (pys ds)
def pys : List D → List PyData
  | [] => []
  | d :: ds => d.py :: pys ds
end
mutual
theorem Rep.dp {K : PySem.W.Frag} {H : Hp} : ∀ (d : D) (v : V), Rep K H v d → Dp K H v d.py
  | .non, _, h => by cases h; exact .non
  | .bl _, _, h => by cases h; exact .bl _
  | .int _, _, h => by cases h; exact .int _
  | .str _, _, h => by cases h; exact .str _
  | .tup ds, _, h => by
    cases h with
    | tup h1 h2 => exact .tup h1 (Reps.dp ds _ h2)
  | .lst ds, _, h => by
    cases h with
    | lst h1 h2 => exact .lst h1.sq (Reps.dp ds _ h2)
theorem Reps.dp {K : PySem.W.Frag} {H : Hp} : ∀ (ds : List D) (vs : List V), Reps K H vs ds → DpAll K H vs (pys ds)
  | [], _, h => by cases h; exact .nil
  | d :: ds, _, h => by
    cases h with
    | cons h1 h2 => exact .cons (Rep.dp d _ h1) (Reps.dp ds _ h2)
end

/-! ### the tape, the frame -/
def TapeAt (K : PySem.W.Frag) (H : Hp) (a : Addr) (t : Tape) : Prop := ∃ (sc : Addr), H a = some (.lst [.ref sc, .int (t.pos : Int), .int t.left, .int t.seed]) ∧ FzL K H sc (t.scr.map V.int)
def TapeR (K : PySem.W.Frag) (H : Hp) : Option Addr → TapeO → Prop
  | none, none => True
  | some a, some t => TapeAt K H a t
  | _, _ => False
/-- what may change in a call: the tape, the tables of code objects -/
def Vol (c : Ct) (tp : Option Addr) (a : Addr) : Prop := tp = some a ∨ a ∈ c.T.map (·.1)
structure Kp (c : Ct) (tp : Option Addr) (H H' : Hp) : Prop where
  kp : ∀ a o, H a = some o → ¬ Vol c tp a → H' a = some o
  st : Stab H H'
  nn : ∀ a, H' a = none → H a = none
section
variable {K : PySem.W.Frag} {c : Ct} {tp : Option Addr} {H H1 H2 : Hp}
theorem Kp.refl (c : Ct) (tp : Option Addr) (H : Hp) : Kp c tp H H := ⟨fun _ _ h _ => h, .refl H, fun _ h => h⟩
theorem Kp.trans (a : Kp c tp H H1) (b : Kp c tp H1 H2) : Kp c tp H H2 := ⟨fun x o h n => b.kp x o (a.kp x o h n) n, a.st.trans b.st, fun x h => a.nn x (b.nn x h)⟩
theorem Kp.same (s : Same H H1) : Kp c tp H H1 := ⟨fun a o h _ => s a o h, .of_same s, fun a h => s.free h⟩
theorem TapeR.same {ta : TapeO} (s : Same H H1) (h : TapeR K H tp ta) : TapeR K H1 tp ta := by
  cases tp <;> cases ta
  · exact h
  · exact h
  · exact h
  · obtain ⟨sc, e1, e2⟩ := h
    exact ⟨sc, s _ _ e1, (Stab.of_same s).fz e2⟩
end

def RepSl (K : PySem.W.Frag) (H : Hp) (tp : Option Addr) (σ : L2.St) (i : Nat) : Sl → Prop
  | .un => True
  | .val d => ∃ v, σ[i]? = some (some v) ∧ Rep K H v d
  | .own ds => ∃ a xs, σ[i]? = some (some (.ref a)) ∧ H a = some (.lst xs) ∧ Reps K H xs ds
  | .bor _ => False
  | .tape => ∃ a, tp = some a ∧ σ[i]? = some (some (.ref a))
  | .dic ds => ∃ a xs, σ[i]? = some (some (.ref a)) ∧ H a = some (.dK xs) ∧ RepsK K H xs ds
  | .bdc _ => False
/-- a frame's own thing -/
def Sl.IsOwn : Sl → Prop
  | .own _ => True
  | .dic _ => True
  | _ => False
def OwnAt (env : SE) (σ : L2.St) (i : Nat) (a : Addr) : Prop := (∃ s, env[i]? = some s ∧ s.IsOwn) ∧ σ[i]? = some (some (.ref a))
structure RepS (K : PySem.W.Frag) (c : Ct) (B : Hp) (tp : Option Addr) (σ : L2.St) (H : Hp) (env : SE) (ta : TapeO) : Prop where
  len : env.length = σ.length
  slot : ∀ i sl, env[i]? = some sl → RepSl K H tp σ i sl
  fresh : ∀ i a, OwnAt env σ i a → B a = none ∧ ¬ Vol c tp a
  dist : ∀ i j a, OwnAt env σ i a → OwnAt env σ j a → i = j
  tape : TapeR K H tp ta
  tabs : LamX.Tabs c.T H
  keep : ∀ a o, B a = some o → ¬ Vol c tp a → H a = some o
  stab : Stab B H
/-- a result: H0 the heap ahead of it -/
def RepV (K : PySem.W.Frag) (c : Ct) (tp : Option Addr) (H0 H : Hp) (v : V) : Sl → Prop
  | .un => False
  | .val d => Rep K H v d
  | .own ds => ∃ a xs, v = .ref a ∧ H0 a = none ∧ ¬ Vol c tp a ∧ H a = some (.lst xs) ∧ Reps K H xs ds
  | .bor ds => ∃ a xs, v = .ref a ∧ H a = some (.lst xs) ∧ ¬ Vol c tp a ∧ Reps K H xs ds
  | .tape => ∃ a, tp = some a ∧ v = .ref a
  | .dic ds => ∃ a xs, v = .ref a ∧ H0 a = none ∧ ¬ Vol c tp a ∧ H a = some (.dK xs) ∧ RepsK K H xs ds
  | .bdc ds => ∃ a xs, v = .ref a ∧ H a = some (.dK xs) ∧ ¬ Vol c tp a ∧ RepsK K H xs ds
section
variable {K : PySem.W.Frag} {c : Ct} {tp : Option Addr} {H H0 H1 H2 B : Hp} {σ : L2.St} {env : SE} {ta : TapeO}
/-- what is volatile is tracked -/
theorem RepS.vol (R : RepS K c B tp σ H env ta) {a : Addr} (h : H a = none) : ¬ Vol c tp a := by
  rintro (e | e)
  · subst e
    have t := R.tape
    cases ta with
    | none => exact t
    | some t' =>
      obtain ⟨sc, e1, _⟩ := t
      rw [h] at e1; cases e1
  · obtain ⟨p, hp, e⟩ := List.mem_map.mp e
    obtain ⟨ps, e1, _⟩ := R.tabs p hp
    rw [e, h] at e1; cases e1
theorem RepS.grow (R : RepS K c B tp σ H env ta) (s : Same H H1) : RepS K c B tp σ H1 env ta where
  len := R.len
  slot := fun i sl e => by
    have q := R.slot i sl e
    cases sl with
    | un => exact q
    | val d => obtain ⟨v, e1, r⟩ := q; exact ⟨v, e1, r.st (.of_same s)⟩
    | own ds => obtain ⟨a, xs, e1, e2, r⟩ := q; exact ⟨a, xs, e1, s _ _ e2, r.st (.of_same s)⟩
    | bor _ => exact q
    | tape => exact q
    | dic ds => obtain ⟨a, xs, e1, e2, r⟩ := q; exact ⟨a, xs, e1, s _ _ e2, r.st (.of_same s)⟩
    | bdc _ => exact q
  fresh := R.fresh
  dist := R.dist
  tape := R.tape.same s
  tabs := R.tabs.ext s
  keep := fun a o e n => s _ _ (R.keep a o e n)
  stab := R.stab.trans (.of_same s)
theorem RepV.kp {v : V} {r : Sl} (h : RepV K c tp H0 H v r) (k : Kp c tp H H1) : RepV K c tp H0 H1 v r := by
  cases r with
  | un => exact h
  | val d => exact Rep.st h k.st
  | own ds => obtain ⟨a, xs, e, n, nv, h1, r⟩ := h; exact ⟨a, xs, e, n, nv, k.kp _ _ h1 nv, r.st k.st⟩
  | bor ds => obtain ⟨a, xs, e, h1, nv, r⟩ := h; exact ⟨a, xs, e, k.kp _ _ h1 nv, nv, r.st k.st⟩
  | tape => exact h
  | dic ds => obtain ⟨a, xs, e, n, nv, h1, r⟩ := h; exact ⟨a, xs, e, n, nv, k.kp _ _ h1 nv, r.st k.st⟩
  | bdc ds => obtain ⟨a, xs, e, h1, nv, r⟩ := h; exact ⟨a, xs, e, k.kp _ _ h1 nv, nv, r.st k.st⟩
theorem RepV.back {v : V} {r : Sl} (h : RepV K c tp H1 H2 v r) (k : Kp c tp H H1) : RepV K c tp H H2 v r := by
  cases r with
  | un => exact h
  | val d => exact h
  | own ds => obtain ⟨a, xs, e, n, nv, h1, r⟩ := h; exact ⟨a, xs, e, k.nn _ n, nv, h1, r⟩
  | bor ds => exact h
  | tape => exact h
  | dic ds => obtain ⟨a, xs, e, n, nv, h1, r⟩ := h; exact ⟨a, xs, e, k.nn _ n, nv, h1, r⟩
  | bdc ds => exact h
/-- a list, read -/
def Sl.items? : Sl → Option (List D)
  | .val (.lst ds) => some ds
  | .own ds => some ds
  | .bor ds => some ds
  | _ => none
theorem RepV.list {v : V} {r : Sl} {ds : List D} (h : RepV K c tp H0 H v r) (e : r.items? = some ds) : ∃ a xs, v = .ref a ∧ SqL K H a xs ∧ Reps K H xs ds := by
  cases r with
  | un => cases e
  | val d =>
    cases d with
    | lst es =>
      obtain rfl : es = ds := Option.some.inj e
      cases (show Rep K H v (.lst es) from h) with
      | lst h1 h2 => exact ⟨_, _, rfl, h1.sq, h2⟩
    | _ => cases e
  | own es => cases e; obtain ⟨a, xs, e, n, nv, h1, r⟩ := h; exact ⟨a, xs, e, SqL.of h1, r⟩
  | bor es => cases e; obtain ⟨a, xs, e, h1, nv, r⟩ := h; exact ⟨a, xs, e, SqL.of h1, r⟩
  | tape => cases e
  | dic _ => cases e
  | bdc _ => cases e
/-- a datum, as it is read -/
def Sl.dat? : Sl → Option D
  | .val d => some d
  | .own ds => some (.lst ds)
  | .bor ds => some (.lst ds)
  | _ => none
theorem RepV.dp {v : V} {r : Sl} {d : D} (h : RepV K c tp H0 H v r) (e : r.dat? = some d) : Dp K H v d.py := by
  cases r with
  | un => cases e
  | val d => cases e; exact Rep.dp _ _ h
  | own es => cases e; obtain ⟨a, xs, rfl, n, nv, h1, r⟩ := h; exact .lst (SqL.of h1) (Reps.dp _ _ r)
  | bor es => cases e; obtain ⟨a, xs, rfl, h1, nv, r⟩ := h; exact .lst (SqL.of h1) (Reps.dp _ _ r)
  | tape => cases e
  | dic _ => cases e
  | bdc _ => cases e
/-- a new list, a new tuple -/
theorem RepV.newL {p : Addr} {xs : List V} {ds : List D} (hp : H p = none) (nv : ¬ Vol c tp p) (r : Reps K H xs ds) : RepV K c tp H (upd H p (.lst xs)) (.ref p) (.own ds) :=
  ⟨p, xs, rfl, hp, nv, upd_same, r.st (.of_same (Same.new hp))⟩
theorem RepV.newT {p : Addr} {xs : List V} {ds : List D} (hp : H p = none) (r : Reps K H xs ds) : RepV K c tp H (upd H p (.tup xs)) (.ref p) (.val (.tup ds)) :=
  .tup (SqT.of upd_same) (r.st (.of_same (Same.new hp)))
end

/-! ### the exception -/
def ErrIs (c : Ct) (H : Hp) (cls : Value) (d : Option Addr) (x : Str) : Prop := cls = .ref c.C ∧ ∃ dd fs, d = some dd ∧ H dd = some (.xd fs) ∧ fs.lookup ("code" : Str) = some (V.str x)

/-! ### what an expression comes to -/
def EPost (K : PySem.W.Frag) (c : Ct) (W : WX) (B : Hp) (tp : Option Addr) (σ : L2.St) (H : Hp) (env : SE) (r : Option (Except Str Sl × TapeO)) (Q : VK) : Prop :=
  match r with
  | none => False
  | some (.ok z, ta') => ∀ v H', RepS K c B tp σ H' env ta' → Kp c tp H H' → RepV K c tp H H' v z → Q v H'
  | some (.error x, ta') => ∀ cls d H', RepS K c B tp σ H' env ta' → Kp c tp H H' → ErrIs c H' cls d x → W cls d σ H'
def tE (K : PySem.W.Frag) (c : Ct) (W : WX) (f : Ev) : TE := fun σ H Q => ∃ B tp env ta, RepS K c B tp σ H env ta ∧ EPost K c W B tp σ H env (f env ta) Q
/-- the judgement -/
structure PEv (X : Cx) (c : Ct) (W : WX) (e : Expr) (f : Ev) : Prop where
  pe : PE X e (tE X.K c W f)
theorem pe_mono {X : Cx} {e : Expr} {t t' : TE} (h : PE X e t) (i : ∀ σ H Q, t' σ H Q → t σ H Q) : PE X e t' := ⟨fun pins s σ H Q I w => h.run pins s σ H Q I (i σ H Q w)⟩
theorem pt_mono {X : Cx} {e : Expr} {t t' : TT} (h : PT X e t) (i : ∀ σ H Q, t' σ H Q → t σ H Q) : PT X e t' := ⟨fun pins s σ H Q I w => h.run pins s σ H Q I (i σ H Q w)⟩
theorem pw_mono {X : Cx} {e : Expr} {t t' : TT} (h : PW X e t) (i : ∀ σ H Q, t' σ H Q → t σ H Q) : PW X e t' := ⟨fun wh pins s σ H Q I w => h.run wh pins s σ H Q I (i σ H Q w)⟩
theorem pa_mono {X : Cx} {es : List Expr} {t t' : TA} (h : PA X es t) (i : ∀ σ H Q, t' σ H Q → t σ H Q) : PA X es t' := ⟨fun pos pins s σ H Q I w => h.run pos pins s σ H Q I (i σ H Q w)⟩
theorem ps_mono {X : Cx} {e : Stmt} {t t' : TS} (h : PS X e t) (i : ∀ D σ H, t' D σ H → t D σ H) : PS X e t' := ⟨fun pins s σ H D I w => h.run pins s σ H D I (i D σ H w)⟩
theorem pss_mono {X : Cx} {e : List Stmt} {t t' : TS} (h : PSs X e t) (i : ∀ D σ H, t' D σ H → t D σ H) : PSs X e t' := ⟨fun pins s σ H D I w => h.run pins s σ H D I (i D σ H w)⟩

def bindE (f : Ev) (k : Sl → Ev) : Ev := fun env ta => match f env ta with
  | none => none
  | some (.error x, t) => some (.error x, t)
  | some (.ok r, t) => k r env t
section
variable {K : PySem.W.Frag} {c : Ct} {W : WX} {f : Ev} {k : Sl → Ev} {B : Hp} {tp : Option Addr} {σ : L2.St} {H : Hp} {env : SE} {ta : TapeO} {Q : VK}
/-- the first part, then what is left -/
theorem tE_bind {R : VK} (RS : RepS K c B tp σ H env ta) (h : EPost K c W B tp σ H env (bindE f k env ta) Q)
    (go : ∀ r t v H1, RepS K c B tp σ H1 env t → Kp c tp H H1 → RepV K c tp H H1 v r → EPost K c W B tp σ H env (k r env t) Q → R v H1) : tE K c W f σ H R := by
  refine ⟨B, tp, env, ta, RS, ?_⟩
  unfold bindE at h
  cases e : f env ta with
  | none => rw [e] at h; exact h
  | some p =>
    obtain ⟨r, t⟩ := p
    rw [e] at h
    cases r with
    | error x => exact h
    | ok r => exact fun v H1 R1 K1 V1 => go r t v H1 R1 K1 V1 h
/-- the rest stands at a later heap -/
theorem EPost.later {H1 : Hp} {r : Option (Except Str Sl × TapeO)} (h : EPost K c W B tp σ H env r Q) (k1 : Kp c tp H H1) : EPost K c W B tp σ H1 env r Q := by
  cases r with
  | none => exact h
  | some p =>
    obtain ⟨r, t⟩ := p
    cases r with
    | error x => exact fun cls d H' R' K' e => h cls d H' R' (k1.trans K') e
    | ok r => exact fun v H' R' K' V' => h v H' R' (k1.trans K') (V'.back k1)
/-- an end: a value is there -/
theorem EPost.val {z : Sl} {t : TapeO} {v : V} (RS : RepS K c B tp σ H env t) (h : EPost K c W B tp σ H env (some (.ok z, t)) Q) (V : RepV K c tp H H v z) : Q v H := h v H RS (.refl _ _ _) V
theorem EPost.same {z : Sl} {t : TapeO} {v : V} {H1 : Hp} (RS : RepS K c B tp σ H env t) (h : EPost K c W B tp σ H env (some (.ok z, t)) Q) (s : Same H H1) (V : RepV K c tp H H1 v z) : Q v H1 := h v H1 (RS.grow s) (.same s) V
end

/-! ### names, constants -/
def varE (i : Nat) : Ev := fun env ta => match env[i]? with
  | some (.val d) => some (.ok (.val d), ta)
  | some (.own ds) => some (.ok (.bor ds), ta)
  | some .tape => some (.ok .tape, ta)
  | some (.dic ks) => some (.ok (.bdc ks), ta)
  | _ => none
def cstE (d : D) : Ev := fun _ ta => some (.ok (.val d), ta)
section
variable {X : Cx} {c : Ct} {W : WX}
theorem v_var {i : Nat} {x : Str} {pos : Pos} (hN : X.N[i]? = some x := by rfl) (hv : Vis X.env.scope x := by first | exact Or.inl rfl | exact Or.inr (Or.inl rfl) | exact Or.inr (Or.inr rfl))
    (hd : (x == ("__debug__" : Str)) = false := by decide) (hcd : (x == ("__classdict__" : Str)) = false := by decide) : PEv X c W (.Name x pos) (varE i) := by
  refine ⟨pe_mono (pe_var hN hv hd hcd) ?_⟩
  rintro σ H Q ⟨B, tp, env, ta, RS, h⟩
  unfold varE at h
  have sl := fun s e => RS.slot i s e
  cases e : env[i]? with
  | none => rw [e] at h; exact h.elim
  | some s =>
    rw [e] at h
    have q := sl s e
    cases s with
    | un => exact h.elim
    | val d => obtain ⟨v, e1, r⟩ := q; exact ⟨v, e1, EPost.val RS h r⟩
    | own ds =>
      obtain ⟨a, xs, e1, e2, r⟩ := q
      exact ⟨_, e1, EPost.val RS h ⟨a, xs, rfl, e2, (RS.fresh i a ⟨⟨_, e, trivial⟩, e1⟩).2, r⟩⟩
    | bor _ => exact h.elim
    | tape => obtain ⟨a, e1, e2⟩ := q; exact ⟨_, e2, EPost.val RS h ⟨a, e1, rfl⟩⟩
    | dic ds =>
      obtain ⟨a, xs, e1, e2, r⟩ := q
      exact ⟨_, e1, EPost.val RS h ⟨a, xs, rfl, e2, (RS.fresh i a ⟨⟨_, e, trivial⟩, e1⟩).2, r⟩⟩
    | bdc _ => exact h.elim
theorem cst_of {K : PySem.W.Frag} {d : D} {v : V} (r : ∀ H, Rep K H v d) : ∀ σ H Q, tE K c W (cstE d) σ H Q → tC v σ H Q := by
  rintro σ H Q ⟨B, tp, env, ta, RS, h⟩
  exact EPost.val RS h (r H)
theorem v_int {i : Int} {j pos} : PEv X c W (.Constant (.int i) j pos) (cstE (.int i)) := ⟨pe_mono pe_int (cst_of fun _ => .int _)⟩
theorem v_bl {b j pos} : PEv X c W (.Constant (.bool b) j pos) (cstE (.bl b)) := ⟨pe_mono pe_bl (cst_of fun _ => .bl _)⟩
theorem v_non {j pos} : PEv X c W (.Constant .none j pos) (cstE .non) := ⟨pe_mono pe_non (cst_of fun _ => .non)⟩
theorem v_str {x j pos} : PEv X c W (.Constant (.str x) j pos) (cstE (.str x)) := ⟨pe_mono pe_str (cst_of fun _ => .str _)⟩
/-- a module's int -/
theorem v_gint {x : Str} {i : Int} {pos : Pos} (hm : ∃ t, X.mg x = some (.int i t)) (hg : Gl X x := by rfl) (hd : (x == ("__debug__" : Str)) = false := by decide) : PEv X c W (.Name x pos) (cstE (.int i)) := by
  obtain ⟨t, hm⟩ := hm
  exact ⟨pe_mono (pe_glob (v := .int i) hg hm ⟨t, rfl⟩ hd) (cst_of fun _ => .int _)⟩
end

/-! ### two-place operations -/
def binE (op : Sl → Sl → Option Sl) (f g : Ev) : Ev := bindE f fun x => bindE g fun y => fun _ ta => (op x y).map fun z => (.ok z, ta)
/-- op is told by r -/
def OpOk (K : PySem.W.Frag) (c : Ct) (r : R2) (op : Sl → Sl → Option Sl) : Prop :=
  ∀ (tp : Option Addr) (H0 H1 H : Hp) (v u : V) (x y z : Sl) (Q : VK), (∀ a, H a = none → ¬ Vol c tp a) → RepV K c tp H0 H v x → RepV K c tp H1 H u y → op x y = some z →
    (∀ w H', Same H H' → RepV K c tp H H' w z → Q w H') → r v u H Q
theorem bin_of {K : PySem.W.Frag} {c : Ct} {W : WX} {r : R2} {op : Sl → Sl → Option Sl} {f g : Ev} (ho : OpOk K c r op) : ∀ σ H Q, tE K c W (binE op f g) σ H Q → tOp r (tE K c W f) (tE K c W g) σ H Q := by
  rintro σ H Q ⟨B, tp, env, ta, RS, h⟩
  refine tE_bind RS h fun x t1 v H1 R1 K1 V1 h1 => ?_
  refine tE_bind R1 (h1.later K1) fun y t2 u H2 R2 K2 V2 h2 => ?_
  cases e : op x y with
  | none => rw [e] at h2; exact h2.elim
  | some z =>
    rw [e] at h2
    exact ho tp H H1 H2 v u x y z Q (fun a => R2.vol) (V1.kp K2) V2 e fun w H' s V => EPost.same R2 (h2.later K2) s V
section
variable {X : Cx} {c : Ct} {W : WX} {a b : Expr} {f g : Ev} {pos : Pos}
theorem v_op {op : Operator} {r : R2} {o : Sl → Sl → Option Sl} (hr : OpR X (binaryOp op) r) (ho : OpOk X.K c r o) (ha : PEv X c W a f) (hb : PEv X c W b g) : PEv X c W (.BinOp a op b pos) (binE o f g) :=
  ⟨pe_mono (pe_op hr ha.pe hb.pe) (bin_of ho)⟩
theorem v_cmp {op : CmpOp} {r : R2} {o : Sl → Sl → Option Sl} (hr : OpR X (compareOp op) r) (ho : OpOk X.K c r o) (ha : PEv X c W a f) (hb : PEv X c W b g) (hm : behindInMarks op b = false := by rfl) : PEv X c W (.Compare a [op] [b] pos) (binE o f g) :=
  ⟨pe_mono (pe_cmpR hr ha.pe hb.pe hm) (bin_of ho)⟩
end
end MP

/-! MPb: operations by plain data, tests, arguments, calls of built-ins. -/
namespace MP
open PySem PySem.Spec PyProof.Rows L2

def LIM : Nat := 16777216
theorem lim_line {n : Nat} (h : n ≤ LIM) : n ≤ sizeLine := by rw [sizeLine_eq]; exact h

/-! ### ints -/
def opI (C : Int → Int → Bool) (g : Int → Int → D) : Sl → Sl → Option Sl
  | .val (.int i), .val (.int j) => if C i j = true then some (.val (g i j)) else none
  | _, _ => none
theorem RepV.int {K : PySem.W.Frag} {c : Ct} {tp : Option Addr} {H0 H : Hp} {v : V} {i : Int} (h : RepV K c tp H0 H v (.val (.int i))) : v = .int i := by
  cases (show Rep K H v (.int i) from h); rfl
theorem RepV.bl {K : PySem.W.Frag} {c : Ct} {tp : Option Addr} {H0 H : Hp} {v : V} {i : Bool} (h : RepV K c tp H0 H v (.val (.bl i))) : v = .bl i := by
  cases (show Rep K H v (.bl i) from h); rfl
theorem RepV.str {K : PySem.W.Frag} {c : Ct} {tp : Option Addr} {H0 H : Hp} {v : V} {i : Str} (h : RepV K c tp H0 H v (.val (.str i))) : v = .str i := by
  cases (show Rep K H v (.str i) from h); rfl
theorem RepV.tup {K : PySem.W.Frag} {c : Ct} {tp : Option Addr} {H0 H : Hp} {v : V} {ds : List D} (h : RepV K c tp H0 H v (.val (.tup ds))) : ∃ a xs, v = .ref a ∧ SqT K H a xs ∧ Reps K H xs ds := by
  cases (show Rep K H v (.tup ds) from h) with
  | tup h1 h2 => exact ⟨_, _, rfl, h1, h2⟩
section
variable {K : PySem.W.Frag} {c : Ct}
theorem opI_ok {C : Int → Int → Prop} {C' : Int → Int → Bool} {g : Int → Int → V} {g' : Int → Int → D} (hc : ∀ i j, C' i j = true → C i j) (hg : ∀ H i j, C' i j = true → Rep K H (g i j) (g' i j)) : OpOk K c (rI C g) (opI C' g') := by
  intro tp H0 H1 H v u x y z Q nv hx hy e k
  unfold opI at e
  split at e
  · rename_i i j
    split at e
    · rename_i hC
      cases e
      exact ⟨i, j, hx.int, hy.int, hc i j hC, k _ H (Same.refl H) (hg H i j hC)⟩
    · cases e
  · cases e
theorem opI0_ok {g : Int → Int → V} {g' : Int → Int → D} (hg : ∀ H i j, Rep K H (g i j) (g' i j)) : OpOk K c (rI0 g) (opI (fun _ _ => true) g') := by
  intro tp H0 H1 H v u x y z Q nv hx hy e k
  unfold opI at e
  split at e
  · rename_i i j
    rw [if_pos rfl] at e
    cases e
    exact ⟨i, j, hx.int, hy.int, k _ H (Same.refl H) (hg H i j)⟩
  · cases e
/-- one of two rules -/
theorem OpOk.or {r r' : R2} {o o' : Sl → Sl → Option Sl} (h : OpOk K c r o) (h' : OpOk K c r' o') : OpOk K c (fun x y H Q => r x y H Q ∨ r' x y H Q) (fun x y => (o x y).orElse fun _ => o' x y) := by
  intro tp H0 H1 H v u x y z Q nv hx hy e k
  have e : (o x y).orElse (fun _ => o' x y) = some z := e
  cases e1 : o x y with
  | none => rw [e1] at e; exact .inr (h' tp H0 H1 H v u x y z Q nv hx hy e k)
  | some w => rw [e1] at e; cases e; exact .inl (h tp H0 H1 H v u x y _ Q nv hx hy e1 k)
theorem OpOk.imp {r : R2} {o o' : Sl → Sl → Option Sl} (h : OpOk K c r o) (e : ∀ x y z, o' x y = some z → o x y = some z) : OpOk K c r o' := fun tp H0 H1 H v u x y z Q nv hx hy q k => h tp H0 H1 H v u x y z Q nv hx hy (e x y z q) k
end
def subS : Sl → Sl → Option Sl := opI (fun _ _ => true) fun i j => .int (i - j)
def mulOk (i j : Int) : Bool := decide (i.natAbs.log2 + j.natAbs.log2 < 1000000)
def divOk (j : Int) : Bool := decide (0 < j ∧ j.natAbs.log2 < 9000)
def powOk (i j : Int) : Bool := decide (0 ≤ j ∧ j ≤ 1000000 ∧ i.natAbs < 2 ^ 64)
def fdivS : Sl → Sl → Option Sl := opI (fun _ j => divOk j) fun i j => .int (i / j)
def modS : Sl → Sl → Option Sl := opI (fun _ j => decide (0 < j)) fun i j => .int (i % j)
def powS : Sl → Sl → Option Sl := opI powOk fun i j => .int (i ^ j.toNat)
def ltS : Sl → Sl → Option Sl := opI (fun _ _ => true) fun i j => .bl (decide (i < j))
def leS : Sl → Sl → Option Sl := opI (fun _ _ => true) fun i j => .bl (decide (i ≤ j))
def gtS : Sl → Sl → Option Sl := opI (fun _ _ => true) fun i j => .bl (decide (j < i))
def geS : Sl → Sl → Option Sl := opI (fun _ _ => true) fun i j => .bl (decide (j ≤ i))
def xorS : Sl → Sl → Option Sl := opI (fun _ _ => true) fun i j => .int (Builtin.bitXor i j)
def andS : Sl → Sl → Option Sl := opI (fun _ _ => true) fun i j => .int (Builtin.bitAnd i j)
def orS : Sl → Sl → Option Sl := opI (fun _ _ => true) fun i j => .int (Builtin.bitOr i j)
section
variable {K : PySem.W.Frag} {c : Ct}
theorem ok_sub : OpOk K c (rI0 fun i j => .int (i - j)) subS := opI0_ok fun _ _ _ => .int _
theorem ok_mulI : OpOk K c (rI CMulW fun i j => .int (i * j)) (opI mulOk fun i j => .int (i * j)) := opI_ok (fun i j h => (show i.natAbs.log2 + j.natAbs.log2 < 1000000 from of_decide_eq_true h)) fun _ _ _ _ => .int _
theorem ok_fdiv : OpOk K c (rI CDivW fun i j => .int (i / j)) fdivS := opI_ok (fun i j h => (show 0 < j ∧ j.natAbs.log2 < 9000 from of_decide_eq_true h)) fun _ _ _ _ => .int _
theorem ok_mod : OpOk K c (rI (fun _ j => 0 < j) fun i j => .int (i % j)) modS := opI_ok (fun i j h => of_decide_eq_true h) fun _ _ _ _ => .int _
theorem ok_pow : OpOk K c (rI CPow fun i j => .int (i ^ j.toNat)) powS := opI_ok (fun i j h => (show 0 ≤ j ∧ j ≤ 1000000 ∧ i.natAbs < 2 ^ 64 from of_decide_eq_true h)) fun _ _ _ _ => .int _
theorem ok_lt : OpOk K c (rI0 fun i j => .bl (decide (i < j))) ltS := opI0_ok fun _ _ _ => .bl _
theorem ok_le : OpOk K c (rI0 fun i j => .bl (decide (i ≤ j))) leS := opI0_ok fun _ _ _ => .bl _
theorem ok_gt : OpOk K c (rI0 fun i j => .bl (decide (j < i))) gtS := opI0_ok fun _ _ _ => .bl _
theorem ok_ge : OpOk K c (rI0 fun i j => .bl (decide (j ≤ i))) geS := opI0_ok fun _ _ _ => .bl _
theorem ok_xor : OpOk K c (rI0 fun i j => .int (Builtin.bitXor i j)) xorS := opI0_ok fun _ _ _ => .int _
theorem ok_and : OpOk K c (rI0 fun i j => .int (Builtin.bitAnd i j)) andS := opI0_ok fun _ _ _ => .int _
theorem ok_or : OpOk K c (rI0 fun i j => .int (Builtin.bitOr i j)) orS := opI0_ok fun _ _ _ => .int _
end

/-! ### + of texts, tuples, lists; * of lists, tuples -/
/-- t + u of tuples -/
def rCatU (K : PySem.W.Frag) : R2 := fun x y H Q => ∃ a b xs ys, x = .ref a ∧ y = .ref b ∧ SqT K H a xs ∧ SqT K H b ys ∧ xs.length + ys.length ≤ sizeLine ∧
  Q (.ref a) H = Q (.ref a) H ∧ (xs = [] → Q (.ref b) H) ∧ (xs ≠ [] → ys = [] → Q (.ref a) H) ∧ (xs ≠ [] → ys ≠ [] → ∀ p, H p = none → Q (.ref p) (upd H p (.tup (xs ++ ys))))
theorem op_catU {X : Cx} : OpR X (binaryOp .Add) (rCatU X.K) := by
  intro pins s σ H x y v u Q I rx ry h
  obtain ⟨a, b, xs, ys, rfl, rfl, ha, hb, hz, _, q0, q1, q2⟩ := h
  by_cases hx : xs = []
  · cases rx
    cases ry
    obtain ⟨its, r1, p1, _⟩ := I.tuple ha
    obtain ⟨its2, r2, p2, _⟩ := I.tuple hb
    have hv : its = [] := r1.nil_iff.mpr hx
    obtain ⟨⟨cls, dd, data, sl⟩, ho, hc, n, hd⟩ := id p1
    obtain ⟨⟨cls2, dd2, data2, sl2⟩, ho2, hc2, n2, hd2⟩ := id p2
    simp only at hc hd hc2 hd2
    subst hc hd hc2 hd2
    exact concat_meets ⟨_, ho, rfl⟩ ⟨_, ho2, rfl⟩ noFill_tuple_add seq_tuple_add PySem.F.slot_tuple_add PySem.F.entry_tuple_add (PySem.F.args_tuple_add_2 _ _)
      (tuple_addW0 a b its.toArray its2.toArray n n2 dd dd2 sl sl2 (by simp [hv])) ⟨ho, ho2, ⟨.ref b, H, I, rfl, q0 hx⟩⟩
  · exact op_catT pins s σ H (.ref a) (.ref b) v u Q I rx ry ⟨a, b, xs, ys, rfl, rfl, ha, hb, hx, hz, q1 hx, q2 hx⟩
/-- two lists -/
def rCatL (K : PySem.W.Frag) : R2 := fun x y H Q => ∃ l b xs zs, x = .ref l ∧ y = .ref b ∧ SqL K H l xs ∧ SqL K H b zs ∧ xs.length + zs.length ≤ sizeLine ∧ ∀ p, H p = none → Q (.ref p) (upd H p (.lst (xs ++ zs)))
end MP
namespace MP
open PySem PySem.Spec PyProof.Rows L2
/-- a list, tracked or frozen, as it lies -/
theorem Inv.lstAny {X : Cx} {pins : List (Addr × Obj)} {σ : L2.St} {H : Hp} {s : Shared} {l : Addr} {xs : List V} (I : Inv X pins σ H s) (h : Rd H l (.lst xs)) :
    xs.length ≤ sizeLine ∧ ∃ (its : List Value) (n : Nat), Vals xs its ∧ xs.length = its.length ∧ s.heap.get? l = some { cls := .type "list", data := .seq its.toArray n } := by
  obtain ⟨z, its, n, r, e⟩ := h.ok I.hok
  exact ⟨z, its, n, r, r.length, e⟩
def rCatM : R2 := fun x y H Q => ∃ l b xs zs, x = .ref l ∧ y = .ref b ∧ Rd H l (.lst xs) ∧ Rd H b (.lst zs) ∧ xs.length + zs.length ≤ sizeLine ∧ ∀ p, H p = none → Q (.ref p) (upd H p (.lst (xs ++ zs)))
theorem op_catM {X : Cx} : OpR X (binaryOp .Add) rCatM := by
  intro pins s σ H x y v u Q I rx ry h
  obtain ⟨l, b, xs, zs, rfl, rfl, hH, hB, hz, q⟩ := h
  cases rx
  cases ry
  obtain ⟨z, its, n, r, hl, e⟩ := Inv.lstAny I hH
  obtain ⟨z2, its2, n2, r2, hl2, e2⟩ := Inv.lstAny I hB
  refine PySem.P.add_list e e2 ?_ (by rw [List.size_toArray, List.size_toArray]; omega)
  have ea : its.toArray ++ its2.toArray = (its ++ its2).toArray := by simp
  rw [ea]
  exact ⟨.ref _, _, I.lnew (t' := s.toks) (r.append r2) (by rw [List.length_append]; omega), rfl, q _ I.fresh⟩
/-- a list that is tracked -/
def Sl.tr? : Sl → Option (List D)
  | .own ds => some ds
  | .bor ds => some ds
  | _ => none
section
variable {K : PySem.W.Frag} {c : Ct} {tp : Option Addr} {H0 H : Hp}
theorem RepV.tr {v : V} {r : Sl} {ds : List D} (h : RepV K c tp H0 H v r) (e : r.tr? = some ds) : ∃ a xs, v = .ref a ∧ H a = some (.lst xs) ∧ Reps K H xs ds := by
  cases r with
  | own es => cases e; obtain ⟨a, xs, e, n, nv, h1, r⟩ := h; exact ⟨a, xs, e, h1, r⟩
  | bor es => cases e; obtain ⟨a, xs, e, h1, nv, r⟩ := h; exact ⟨a, xs, e, h1, r⟩
  | _ => cases e
end
def catTS : Sl → Sl → Option Sl
  | .val (.tup a), .val (.tup b) => if a.length + b.length ≤ LIM then some (.val (.tup (a ++ b))) else none
  | _, _ => none
def catSS : Sl → Sl → Option Sl
  | .val (.str a), .val (.str b) => if a.length + b.length ≤ LIM then some (.val (.str (a ++ b))) else none
  | _, _ => none
def catMS (x y : Sl) : Option Sl := match x.tr?, y.tr? with
  | some a, some b => if a.length + b.length ≤ LIM then some (.own (a ++ b)) else none
  | _, _ => none
/-- x + y -/
def addS (x y : Sl) : Option Sl := match x, y with
  | .val (.int i), .val (.int j) => some (.val (.int (i + j)))
  | .val (.tup a), .val (.tup b) => if a.length + b.length ≤ LIM then some (.val (.tup (a ++ b))) else none
  | .val (.str a), .val (.str b) => if a.length + b.length ≤ LIM then some (.val (.str (a ++ b))) else none
  | x, y => catMS x y
section
variable {K : PySem.W.Frag} {c : Ct}
theorem ok_addI : OpOk K c (rI0 fun i j => .int (i + j)) (opI (fun _ _ => true) fun i j => .int (i + j)) := opI0_ok fun _ _ _ => .int _
theorem ok_catT : OpOk K c (rCatU K) catTS := by
  intro tp H0 H1 H v u x y z Q nv hx hy e k
  unfold catTS at e
  split at e
  · rename_i a b
    split at e
    · rename_i hl
      cases e
      obtain ⟨l, xs, rfl, h1, r1⟩ := hx.tup
      obtain ⟨l2, ys, rfl, h2, r2⟩ := hy.tup
      refine ⟨l, l2, xs, ys, rfl, rfl, h1, h2, by rw [r1.length, r2.length]; exact lim_line hl, rfl, fun e => ?_, fun _ e => ?_, fun _ _ p hp => ?_⟩
      · subst e
        have ea : a = [] := List.eq_nil_of_length_eq_zero (by rw [← r1.length]; rfl)
        exact k _ H (Same.refl H) (by rw [ea]; exact Rep.tup h2 r2)
      · subst e
        have ea : b = [] := List.eq_nil_of_length_eq_zero (by rw [← r2.length]; rfl)
        exact k _ H (Same.refl H) (by rw [ea, List.append_nil]; exact Rep.tup h1 r1)
      · exact k _ _ (Same.new hp) (RepV.newT hp (r1.append r2))
    · cases e
  · cases e
theorem ok_catS : OpOk K c (fun x y H Q => ∃ i j, x = .str i ∧ y = .str j ∧ i.length + j.length ≤ sizeLine ∧ Q (.str (i ++ j)) H) catSS := by
  intro tp H0 H1 H v u x y z Q nv hx hy e k
  unfold catSS at e
  split at e
  · rename_i a b
    split at e
    · rename_i hl
      cases e
      exact ⟨a, b, hx.str, hy.str, lim_line hl, k _ H (Same.refl H) (Rep.str _)⟩
    · cases e
  · cases e
theorem ok_catM : OpOk K c rCatM catMS := by
  intro tp H0 H1 H v u x y z Q nv hx hy e k
  unfold catMS at e
  split at e
  · rename_i a b ex ey
    split at e
    · rename_i hl
      cases e
      obtain ⟨l, xs, rfl, h1, r1⟩ := hx.tr ex
      obtain ⟨l2, ys, rfl, h2, r2⟩ := hy.tr ey
      exact ⟨l, l2, xs, ys, rfl, rfl, .inl h1, .inl h2, by rw [r1.length, r2.length]; exact lim_line hl, fun p hp => k _ _ (Same.new hp) (RepV.newL hp (nv p hp) (r1.append r2))⟩
    · cases e
  · cases e
/-- all of + -/
def rAddAll (K : PySem.W.Frag) : R2 := fun x y H Q => rI0 (fun i j => .int (i + j)) x y H Q ∨ (rCatU K x y H Q ∨ ((∃ i j, x = .str i ∧ y = .str j ∧ i.length + j.length ≤ sizeLine ∧ Q (.str (i ++ j)) H) ∨ rCatM x y H Q))
theorem op_addAll {X : Cx} : OpR X (binaryOp .Add) (rAddAll X.K) := op_add.or (op_catU.or (op_add_str.or op_catM))
theorem ok_add : OpOk K c (rAddAll K) addS := by
  refine (ok_addI.or (ok_catT.or (ok_catS.or ok_catM))).imp fun x y z e => ?_
  unfold addS at e
  split at e
  · cases e; rfl
  · show ((opI _ _ _ _).orElse _) = _
    simp only [opI, catTS, Option.orElse]
    rw [e]
  · simp only [opI, catTS, catSS, Option.orElse]
    rw [e]
  · rename_i h1 h2 h3
    have e1 : opI (fun _ _ => true) (fun i j => .int (i + j)) x y = none := by
      unfold opI
      split
      · exact (h1 _ _ rfl rfl).elim
      · rfl
    have e2 : catTS x y = none := by
      unfold catTS
      split
      · exact (h2 _ _ rfl rfl).elim
      · rfl
    have e3 : catSS x y = none := by
      unfold catSS
      split
      · exact (h3 _ _ rfl rfl).elim
      · rfl
    rw [e1, e2, e3]
    exact e
end

/-! ### == and != -/
def eqC (x y : Sl) : Option Bool := match x.dat?, y.dat? with
  | some a, some b => if SeqAt.shaped a.py = true ∧ SeqAt.shaped b.py = true then some (PyData.eqv a.py b.py) else none
  | _, _ => none
def eqS (x y : Sl) : Option Sl := (eqC x y).map fun b => .val (.bl b)
def neS (x y : Sl) : Option Sl := (eqC x y).map fun b => .val (.bl (!b))
section
variable {K : PySem.W.Frag} {c : Ct}
theorem ok_eq : OpOk K c (rEqD K) eqS := by
  intro tp H0 H1 H v u x y z Q nv hx hy e k
  unfold eqS eqC at e
  split at e
  · rename_i a b ex ey
    split at e
    · rename_i hs
      cases e
      exact ⟨_, _, hx.dp ex, hy.dp ey, hs.1, hs.2, k _ H (Same.refl H) (Rep.bl _)⟩
    · cases e
  · cases e
theorem ok_ne : OpOk K c (rNeD K) neS := by
  intro tp H0 H1 H v u x y z Q nv hx hy e k
  unfold neS eqC at e
  split at e
  · rename_i a b ex ey
    split at e
    · rename_i hs
      cases e
      exact ⟨_, _, hx.dp ex, hy.dp ey, hs.1, hs.2, k _ H (Same.refl H) (Rep.bl _)⟩
    · cases e
  · cases e
end
/-! ### is None -/
def Sl.isNone? : Sl → Option Bool
  | .val .non => some true
  | .val _ => some false
  | .own _ => some false
  | .bor _ => some false
  | _ => none
def isS (x y : Sl) : Option Sl := match y with
  | .val .non => x.isNone?.map fun b => .val (.bl b)
  | _ => none
def isntS (x y : Sl) : Option Sl := match y with
  | .val .non => x.isNone?.map fun b => .val (.bl (!b))
  | _ => none
section
variable {K : PySem.W.Frag} {c : Ct}
theorem RepV.isNone {tp : Option Addr} {H0 H : Hp} {v : V} {x : Sl} {b : Bool} (h : RepV K c tp H0 H v x) (e : x.isNone? = some b) : decide (v = .non) = b := by
  cases x with
  | un => cases e
  | val d =>
    have h' : Rep K H v d := h
    cases d <;> (cases h'; cases e; rfl)
  | own ds => cases e; obtain ⟨a, xs, rfl, _⟩ := h; rfl
  | bor ds => cases e; obtain ⟨a, xs, rfl, _⟩ := h; rfl
  | tape => cases e
  | dic _ => cases e
  | bdc _ => cases e
theorem ok_is : OpOk K c (fun x y H Q => y = .non ∧ Q (.bl (decide (x = .non))) H) isS := by
  intro tp H0 H1 H v u x y z Q nv hx hy e k
  unfold isS at e
  split at e
  · cases (show Rep K H u .non from hy)
    cases ex : x.isNone? with
    | none => rw [ex] at e; cases e
    | some b =>
      rw [ex] at e
      cases e
      exact ⟨rfl, k _ H (Same.refl H) (by rw [hx.isNone ex]; exact Rep.bl _)⟩
  · cases e
theorem ok_isnt : OpOk K c (fun x y H Q => y = .non ∧ Q (.bl (!decide (x = .non))) H) isntS := by
  intro tp H0 H1 H v u x y z Q nv hx hy e k
  unfold isntS at e
  split at e
  · cases (show Rep K H u .non from hy)
    cases ex : x.isNone? with
    | none => rw [ex] at e; cases e
    | some b =>
      rw [ex] at e
      cases e
      exact ⟨rfl, k _ H (Same.refl H) (by rw [hx.isNone ex]; exact Rep.bl _)⟩
  · cases e
end
/-! ### subscripts -/
def Sl.seq? : Sl → Option (List D)
  | .val (.tup ds) => some ds
  | .val (.lst ds) => some ds
  | .own ds => some ds
  | .bor ds => some ds
  | _ => none
def ixS (x y : Sl) : Option Sl := match x.seq?, y with
  | some ds, .val (.int i) => (atI ds i).map .val
  | _, _ => none
section
variable {K : PySem.W.Frag} {c : Ct}
theorem RepV.seq {tp : Option Addr} {H0 H : Hp} {v : V} {x : Sl} {ds : List D} (h : RepV K c tp H0 H v x) (e : x.seq? = some ds) : ∃ a xs, v = .ref a ∧ (SqL K H a xs ∨ SqT K H a xs) ∧ Reps K H xs ds := by
  cases x with
  | un => cases e
  | val d =>
    have h' : Rep K H v d := h
    cases d with
    | tup es => cases e; obtain ⟨a, xs, e, h1, r⟩ := RepV.tup h; exact ⟨a, xs, e, .inr h1, r⟩
    | lst es => cases e; obtain ⟨a, xs, e, h1, r⟩ := RepV.list h rfl; exact ⟨a, xs, e, .inl h1, r⟩
    | _ => cases e
  | own es => cases e; obtain ⟨a, xs, e, h1, r⟩ := RepV.list h rfl; exact ⟨a, xs, e, .inl h1, r⟩
  | bor es => cases e; obtain ⟨a, xs, e, h1, r⟩ := RepV.list h rfl; exact ⟨a, xs, e, .inl h1, r⟩
  | tape => cases e
  | dic _ => cases e
  | bdc _ => cases e
theorem Reps.atI {H : Hp} {xs : List V} {ds : List D} {i : Int} {d : D} (r : Reps K H xs ds) (e : L2.atI ds i = some d) : ∃ v, L2.atI xs i = some v ∧ Rep K H v d := by
  unfold L2.atI at e ⊢
  rw [r.length]
  cases q : ixN ds.length i with
  | none => rw [q] at e; cases e
  | some j =>
    rw [q] at e
    exact r.get (i := j) e
theorem ok_ix : OpOk K c (rIx K) ixS := by
  intro tp H0 H1 H v u x y z Q nv hx hy e k
  unfold ixS at e
  split at e
  · rename_i ds i ex
    cases ed : L2.atI ds i with
    | none => rw [ed] at e; cases e
    | some d =>
      rw [ed] at e
      cases e
      obtain ⟨a, xs, rfl, hs, r⟩ := hx.seq ex
      obtain ⟨w, e1, r1⟩ := r.atI ed
      rw [hy.int]
      rcases hs with hs | hs
      · exact .inl ⟨a, xs, i, w, rfl, rfl, hs, e1, k _ H (Same.refl H) r1⟩
      · exact .inr (.inl ⟨a, xs, i, w, rfl, rfl, hs, e1, k _ H (Same.refl H) r1⟩)
  · cases e
end
section
variable {X : Cx} {c : Ct} {W : WX} {a b : Expr} {f g : Ev} {pos : Pos}
theorem v_ix (ha : PEv X c W a f) (hb : PEv X c W b g) (hs : PlainIx b := by exact fun _ _ => rfl) : PEv X c W (.Subscript a b pos) (binE ixS f g) := ⟨pe_mono (pe_ix ix_seq ha.pe hb.pe hs) (bin_of ok_ix)⟩
end
/-! ### in, not in -/
def inC (x y : Sl) : Option Bool := match x.dat?, y.seq? with
  | some d, some ds => if SeqAt.shaped d.py = true ∧ SeqAt.shaped (.list (pys ds)) = true then some ((pys ds).any fun z => PyData.eqv z d.py) else none
  | _, _ => none

def inS (x y : Sl) : Option Sl := (inC x y).map fun b => .val (.bl b)
def ninS (x y : Sl) : Option Sl := (inC x y).map fun b => .val (.bl (!b))
/-- x in a list or a tuple of data -/
def rInA (K : PySem.W.Frag) (neg : Bool) : R2 := fun x y H Q => ∃ d ds, Dp K H x d ∧ (Dp K H y (.list ds) ∨ Dp K H y (.tuple ds)) ∧ SeqAt.shaped d = true ∧ SeqAt.shaped (.list ds) = true ∧ Q (.bl (if neg then !ds.any fun z => PyData.eqv z d else ds.any fun z => PyData.eqv z d)) H
end MP

/-! MPc: in, tests, arguments, calls of built-ins, displays. -/
namespace MP
open PySem PySem.Spec PyProof.Rows L2
section
variable {X : Cx}
theorem op_inA (hu : X.A.units + 65 < cLine) : OpR X (compareOp .In) (rInA X.K false) := by
  intro pins s σ H x y v u Q I rx ry h
  obtain ⟨d, ds, hd, he, sd, se, q⟩ := h
  obtain ⟨as, r1⟩ := Dp.reads I d x v hd rx
  rcases he with he | he
  · obtain ⟨bs, r2⟩ := Dp.reads I (.list ds) y u he ry
    exact SeqAt.in_list_reads r2 r1 (SeqAt.canLay_of_shaped se) (SeqAt.canLay_of_shaped sd) (room_in_shaped sd hu) ⟨.bl _, H, I, rfl, q⟩
  · obtain ⟨bs, r2⟩ := Dp.reads I (.tuple ds) y u he ry
    exact SeqAt.in_tuple_reads r2 r1 (SeqAt.canLay_of_shaped se) (SeqAt.canLay_of_shaped sd) (room_in_shaped sd hu) ⟨.bl _, H, I, rfl, q⟩
theorem op_ninA (hu : X.A.units + 65 < cLine) : OpR X (compareOp .NotIn) (rInA X.K true) := by
  intro pins s σ H x y v u Q I rx ry h
  obtain ⟨d, ds, hd, he, sd, se, q⟩ := h
  obtain ⟨as, r1⟩ := Dp.reads I d x v hd rx
  rcases he with he | he
  · obtain ⟨bs, r2⟩ := Dp.reads I (.list ds) y u he ry
    exact SeqAt.notIn_list_reads r2 r1 (SeqAt.canLay_of_shaped se) (SeqAt.canLay_of_shaped sd) (room_in_shaped sd hu) ⟨.bl _, H, I, rfl, q⟩
  · obtain ⟨bs, r2⟩ := Dp.reads I (.tuple ds) y u he ry
    exact SeqAt.notIn_tuple_reads r2 r1 (SeqAt.canLay_of_shaped se) (SeqAt.canLay_of_shaped sd) (room_in_shaped sd hu) ⟨.bl _, H, I, rfl, q⟩
end
section
variable {K : PySem.W.Frag} {c : Ct}
theorem RepV.seqdp {tp : Option Addr} {H0 H : Hp} {v : V} {x : Sl} {ds : List D} (h : RepV K c tp H0 H v x) (e : x.seq? = some ds) : Dp K H v (.list (pys ds)) ∨ Dp K H v (.tuple (pys ds)) := by
  obtain ⟨a, xs, rfl, hs | hs, r⟩ := h.seq e
  · exact .inl (.lst hs (Reps.dp _ _ r))
  · exact .inr (.tup hs (Reps.dp _ _ r))
theorem ok_in : OpOk K c (rInA K false) inS := by
  intro tp H0 H1 H v u x y z Q nv hx hy e k
  unfold inS inC at e
  split at e
  · rename_i d ds ex ey
    split at e
    · rename_i hs
      cases e
      exact ⟨_, _, hx.dp ex, hy.seqdp ey, hs.1, hs.2, k _ H (Same.refl H) (Rep.bl _)⟩
    · cases e
  · cases e
theorem ok_nin : OpOk K c (rInA K true) ninS := by
  intro tp H0 H1 H v u x y z Q nv hx hy e k
  unfold ninS inC at e
  split at e
  · rename_i d ds ex ey
    split at e
    · rename_i hs
      cases e
      exact ⟨_, _, hx.dp ex, hy.seqdp ey, hs.1, hs.2, k _ H (Same.refl H) (Rep.bl _)⟩
    · cases e
  · cases e
end

/-! ### one-place operations -/
def unE (op : Sl → Option Sl) (f : Ev) : Ev := bindE f fun x => fun _ ta => (op x).map fun z => (.ok z, ta)
def negS : Sl → Option Sl
  | .val (.int i) => some (.val (.int (-i)))
  | _ => none
section
variable {X : Cx} {c : Ct} {W : WX} {a : Expr} {f : Ev} {pos : Pos}
theorem v_neg (ha : PEv X c W a f) : PEv X c W (.UnaryOp .USub a pos) (unE negS f) := by
  refine ⟨pe_mono (pe_un un_neg ha.pe) ?_⟩
  rintro σ H Q ⟨B, tp, env, ta, RS, h⟩
  refine tE_bind RS h fun x t1 v H1 R1 K1 V1 h1 => ?_
  unfold negS at h1
  split at h1
  · exact ⟨_, V1.int, EPost.val R1 (h1.later K1) (Rep.int _)⟩
  · exact h1.elim
end

/-! ### tests -/
abbrev Tv := SE → TapeO → Option (Except Str Bool × TapeO)
def truthS : Sl → Option Bool
  | .val .non => some false
  | .val (.bl b) => some b
  | .val (.int i) => some (i != 0)
  | .val (.str x) => if x.length ≤ LIM then some ((x.length : Int) != 0) else none
  | .val (.tup ds) => some (!ds.isEmpty)
  | .val (.lst ds) => some (!ds.isEmpty)
  | .own ds => some (!ds.isEmpty)
  | .bor ds => some (!ds.isEmpty)
  | _ => none
def ofE (f : Ev) : Tv := fun env ta => match f env ta with
  | none => none
  | some (.error x, t) => some (.error x, t)
  | some (.ok r, t) => (truthS r).map fun b => (.ok b, t)
def TPost (K : PySem.W.Frag) (c : Ct) (W : WX) (B : Hp) (tp : Option Addr) (σ : L2.St) (H : Hp) (env : SE) (r : Option (Except Str Bool × TapeO)) (Q : Bool → Hp → Prop) : Prop :=
  match r with
  | none => False
  | some (.ok b, ta') => ∀ H', RepS K c B tp σ H' env ta' → Kp c tp H H' → Q b H'
  | some (.error x, ta') => ∀ cls d H', RepS K c B tp σ H' env ta' → Kp c tp H H' → ErrIs c H' cls d x → W cls d σ H'
def tTt (K : PySem.W.Frag) (c : Ct) (W : WX) (f : Tv) : TT := fun σ H Q => ∃ B tp env ta, RepS K c B tp σ H env ta ∧ TPost K c W B tp σ H env (f env ta) Q
structure PTv (X : Cx) (c : Ct) (W : WX) (e : Expr) (f : Tv) : Prop where
  pt : PT X e (tTt X.K c W f)
structure PWv (X : Cx) (c : Ct) (W : WX) (e : Expr) (f : Tv) : Prop where
  pw : PW X e (tTt X.K c W f)
def bindT (f : Tv) (k : Bool → Tv) : Tv := fun env ta => match f env ta with
  | none => none
  | some (.error x, t) => some (.error x, t)
  | some (.ok r, t) => k r env t
section
variable {K : PySem.W.Frag} {c : Ct} {W : WX} {B : Hp} {tp : Option Addr} {σ : L2.St} {H : Hp} {env : SE} {ta : TapeO} {Q : Bool → Hp → Prop}
theorem TPost.later {H1 : Hp} {r : Option (Except Str Bool × TapeO)} (h : TPost K c W B tp σ H env r Q) (k1 : Kp c tp H H1) : TPost K c W B tp σ H1 env r Q := by
  cases r with
  | none => exact h
  | some p =>
    obtain ⟨r, t⟩ := p
    cases r with
    | error x => exact fun cls d H' R' K' e => h cls d H' R' (k1.trans K') e
    | ok r => exact fun H' R' K' => h H' R' (k1.trans K')
theorem tT_bind {f : Tv} {k : Bool → Tv} {R : Bool → Hp → Prop} (RS : RepS K c B tp σ H env ta) (h : TPost K c W B tp σ H env (bindT f k env ta) Q)
    (go : ∀ b t H1, RepS K c B tp σ H1 env t → Kp c tp H H1 → TPost K c W B tp σ H env (k b env t) Q → R b H1) : tTt K c W f σ H R := by
  refine ⟨B, tp, env, ta, RS, ?_⟩
  unfold bindT at h
  cases e : f env ta with
  | none => rw [e] at h; exact h
  | some p =>
    obtain ⟨r, t⟩ := p
    rw [e] at h
    cases r with
    | error x => exact h
    | ok r => exact fun H1 R1 K1 => go r t H1 R1 K1 h
theorem TPost.val {b : Bool} {t : TapeO} (RS : RepS K c B tp σ H env t) (h : TPost K c W B tp σ H env (some (.ok b, t)) Q) : Q b H := h H RS (.refl _ _ _)
theorem RepV.truth {H0 : Hp} {v : V} {x : Sl} {b : Bool} (h : RepV K c tp H0 H v x) (e : truthS x = some b) : TruV K v H b := by
  unfold truthS at e
  split at e
  · cases e; cases (show Rep K H v .non from h); rfl
  · cases e; rw [h.bl]; rfl
  · cases e; rw [h.int]; rfl
  · split at e
    · rename_i hl
      cases e; rw [h.str]; exact ⟨lim_line hl, rfl⟩
    · cases e
  · rename_i ds
    cases e
    obtain ⟨a, xs, rfl, h1, r⟩ := h.tup
    exact .inr (.inl ⟨xs, h1, by cases r <;> rfl⟩)
  · cases e
    obtain ⟨a, xs, rfl, h1, r⟩ := h.list rfl
    exact .inl ⟨xs, h1, by cases r <;> rfl⟩
  · cases e
    obtain ⟨a, xs, rfl, h1, r⟩ := h.list rfl
    exact .inl ⟨xs, h1, by cases r <;> rfl⟩
  · cases e
    obtain ⟨a, xs, rfl, h1, r⟩ := h.list rfl
    exact .inl ⟨xs, h1, by cases r <;> rfl⟩
  · cases e
end
def notT (f : Tv) : Tv := bindT f fun b => fun _ t => some (.ok (!b), t)
def andT (f g : Tv) : Tv := bindT f fun b => if b = true then g else fun _ t => some (.ok false, t)
def orT (f g : Tv) : Tv := bindT f fun b => if b = true then fun _ t => some (.ok true, t) else g
section
variable {X : Cx} {c : Ct} {W : WX} {a b : Expr} {es : List Expr} {f g : Ev} {t u : Tv} {pos : Pos}
/-- the truth of a value -/
theorem t_val (ha : PEv X c W a f) (he : ∀ whole, isTrue a X.env whole = (do let v ← whole; standAt a.pos; holding [v] (truthy v)) := by exact fun _ => rfl) : PTv X c W a (ofE f) := by
  refine ⟨pt_mono (pt_truth ha.pe he) ?_⟩
  rintro σ H Q ⟨B, tp, env, ta, RS, h⟩
  refine ⟨B, tp, env, ta, RS, ?_⟩
  unfold ofE at h
  cases e : f env ta with
  | none => rw [e] at h; exact h
  | some p =>
    obtain ⟨r, t⟩ := p
    rw [e] at h
    cases r with
    | error x => exact h
    | ok r =>
      dsimp only at h
      intro v H1 R1 K1 V1
      cases e2 : truthS r with
      | none => rw [e2] at h; exact h.elim
      | some b => rw [e2] at h; exact ⟨b, V1.truth e2, h H1 R1 K1⟩
/-- a comparison as a test; its value is a bool -/
theorem t_cmp {op : CmpOp} {r : R2} {o : Sl → Sl → Option Sl} (hr : OpR X (compareOp op) r) (ho : OpOk X.K c r o) (hb2 : ∀ x y z, o x y = some z → ∃ b, z = .val (.bl b)) (ha : PEv X c W a f) (hb : PEv X c W b g) (hm : behindInMarks op b = false := by rfl) :
    PTv X c W (.Compare a [op] [b] pos) (ofE (binE o f g)) := by
  refine ⟨pt_mono (pt_cmpR hr ha.pe hb.pe hm) ?_⟩
  rintro σ H Q ⟨B, tp, env, ta, RS, h⟩
  refine bin_of ho σ H _ ⟨B, tp, env, ta, RS, ?_⟩
  unfold ofE at h
  cases e : binE o f g env ta with
  | none => rw [e] at h; exact h
  | some p =>
    obtain ⟨r, t⟩ := p
    rw [e] at h
    cases r with
    | error x => exact h
    | ok r =>
      intro v H1 R1 K1 V1
      obtain ⟨b, rfl⟩ : ∃ b, r = .val (.bl b) := by
        unfold binE bindE at e
        split at e
        · cases e
        · cases e
        · dsimp only at e
          split at e
          · cases e
          · cases e
          · rename_i y _ _
            cases q : o _ y with
            | none => rw [q] at e; cases e
            | some z => rw [q] at e; cases e; exact hb2 _ _ _ q
      exact ⟨b, V1.bl, h H1 R1 K1⟩
theorem t_not (ha : PTv X c W a t) : PTv X c W (.UnaryOp .Not a pos) (notT t) := by
  refine ⟨pt_mono (L2.pt_not ha.pt) ?_⟩
  rintro σ H Q ⟨B, tp, env, ta, RS, h⟩
  exact tT_bind RS h fun b t1 H1 R1 K1 h1 => TPost.val R1 (h1.later K1)
theorem w_and1 (ha : PTv X c W a t) : PWv X c W (.BoolOp .And [a] pos) t := ⟨pw_and1 ha.pt⟩
theorem w_or1 (ha : PTv X c W a t) : PWv X c W (.BoolOp .Or [a] pos) t := ⟨pw_or1 ha.pt⟩
theorem w_and (ha : PTv X c W a t) (hb : PWv X c W (.BoolOp .And (b :: es) pos) u) : PWv X c W (.BoolOp .And (a :: b :: es) pos) (andT t u) := by
  refine ⟨pw_mono (pw_and ha.pt hb.pw) ?_⟩
  rintro σ H Q ⟨B, tp, env, ta, RS, h⟩
  refine tT_bind RS h fun b t1 H1 R1 K1 h1 => ?_
  cases b with
  | true => exact ⟨B, tp, env, t1, R1, h1.later K1⟩
  | false => exact TPost.val R1 (h1.later K1)
theorem w_or (ha : PTv X c W a t) (hb : PWv X c W (.BoolOp .Or (b :: es) pos) u) : PWv X c W (.BoolOp .Or (a :: b :: es) pos) (orT t u) := by
  refine ⟨pw_mono (pw_or ha.pt hb.pw) ?_⟩
  rintro σ H Q ⟨B, tp, env, ta, RS, h⟩
  refine tT_bind RS h fun b t1 H1 R1 K1 h1 => ?_
  cases b with
  | true => exact TPost.val R1 (h1.later K1)
  | false => exact ⟨B, tp, env, t1, R1, h1.later K1⟩
theorem t_w (h : PWv X c W a t) : PTv X c W a t := ⟨h.pw.pt⟩
end
/-- a < b < c -/
def chainE (o o' : Sl → Sl → Option Sl) (f g h : Ev) : Ev := bindE f fun x => bindE g fun y => fun env ta => match o x y with
  | some (.val (.bl true)) => bindE h (fun z => fun _ t => (o' y z).map fun w => (.ok w, t)) env ta
  | some (.val (.bl false)) => some (.ok (.val (.bl false)), ta)
  | _ => none
section
variable {X : Cx} {c : Ct} {W : WX} {a b d : Expr} {f g h : Ev} {pos : Pos}
theorem chain_of {K : PySem.W.Frag} {r r' : R2} {o o' : Sl → Sl → Option Sl} (ho : OpOk K c r o) (ho' : OpOk K c r' o') : ∀ σ H Q, tE K c W (chainE o o' f g h) σ H Q → tChain r r' (tE K c W f) (tE K c W g) (tE K c W h) σ H Q := by
  rintro σ H Q ⟨B, tp, env, ta, RS, hh⟩
  refine tE_bind RS hh fun x t1 v H1 R1 K1 V1 h1 => ?_
  refine tE_bind R1 (h1.later K1) fun y t2 u H2 R2 K2 V2 h2 => ?_
  cases e : o x y with
  | none => rw [e] at h2; exact h2.elim
  | some z =>
    rw [e] at h2
    refine ho tp H H1 H2 v u x y z _ (fun a => R2.vol) (V1.kp K2) V2 e fun w H3 s V => ?_
    split at h2
    · rename_i q
      cases q
      refine ⟨true, V.bl, ?_⟩
      rw [if_pos rfl]
      have K3 : Kp c tp H1 H3 := K2.trans (.same s)
      refine tE_bind (R2.grow s) (h2.later K3) fun z' t4 u4 H4 R4 K4 V4 h4 => ?_
      cases e' : o' y z' with
      | none => rw [e'] at h4; exact h4.elim
      | some z2 =>
        rw [e'] at h4
        exact ho' tp H1 H3 H4 u u4 y z' z2 Q (fun a => R4.vol) ((V2.kp (.same s)).kp K4) V4 e' fun w H5 s V => EPost.same R4 (h4.later K4) s V
    · rename_i q
      cases q
      refine ⟨false, V.bl, ?_⟩
      rw [if_neg Bool.false_ne_true]
      exact EPost.val (R2.grow s) (h2.later (K2.trans (.same s))) (Rep.bl _)
    · exact h2.elim
theorem v_chain {op op' : CmpOp} {r r' : R2} {o o' : Sl → Sl → Option Sl} (hr : OpR X (compareOp op) r) (hr' : OpR X (compareOp op') r') (ho : OpOk X.K c r o) (ho' : OpOk X.K c r' o') (ha : PEv X c W a f) (hb : PEv X c W b g) (hd : PEv X c W d h)
    (hm : lastMarks [op, op'] [b, d] = false := by with_unfolding_all rfl) : PEv X c W (.Compare a [op, op'] [b, d] pos) (chainE o o' f g h) := ⟨pe_mono (pe_chain hr hr' ha.pe hb.pe hd.pe hm) (chain_of ho ho')⟩
theorem chain_bl {o o' : Sl → Sl → Option Sl} (hb : ∀ x y z, o' x y = some z → ∃ b, z = .val (.bl b)) {env : SE} {ta t : TapeO} {r : Sl} (e : chainE o o' f g h env ta = some (.ok r, t)) : ∃ b, r = .val (.bl b) := by
  unfold chainE bindE at e
  split at e
  · cases e
  · cases e
  · dsimp only at e
    split at e
    · cases e
    · cases e
    · split at e
      · split at e
        · cases e
        · cases e
        · rename_i z _ _
          cases q : o' _ z with
          | none => rw [q] at e; cases e
          | some z => rw [q] at e; cases e; exact hb _ _ _ q
      · cases e; exact ⟨false, rfl⟩
      · cases e
theorem t_chain {op op' : CmpOp} {r r' : R2} {o o' : Sl → Sl → Option Sl} (hr : OpR X (compareOp op) r) (hr' : OpR X (compareOp op') r') (ho : OpOk X.K c r o) (ho' : OpOk X.K c r' o') (hb2 : ∀ x y z, o' x y = some z → ∃ b, z = .val (.bl b))
    (ha : PEv X c W a f) (hb : PEv X c W b g) (hd : PEv X c W d h) (hm : lastMarks [op, op'] [b, d] = false := by with_unfolding_all rfl) : PTv X c W (.Compare a [op, op'] [b, d] pos) (ofE (chainE o o' f g h)) := by
  refine ⟨pt_mono (pt_chain hr hr' ha.pe hb.pe hd.pe hm) ?_⟩
  rintro σ H Q ⟨B, tp, env, ta, RS, hh⟩
  refine chain_of ho ho' σ H _ ⟨B, tp, env, ta, RS, ?_⟩
  unfold ofE at hh
  cases e : chainE o o' f g h env ta with
  | none => rw [e] at hh; exact hh
  | some p =>
    obtain ⟨r, t⟩ := p
    rw [e] at hh
    cases r with
    | error x => exact hh
    | ok r =>
      intro v H1 R1 K1 V1
      obtain ⟨b, rfl⟩ := chain_bl hb2 e
      exact ⟨b, V1.bl, hh H1 R1 K1⟩
end
/-- bools out -/
theorem opI_bl {C : Int → Int → Bool} {g : Int → Int → Bool} : ∀ x y z, opI C (fun i j => .bl (g i j)) x y = some z → ∃ b, z = .val (.bl b) := by
  intro x y z e
  unfold opI at e
  split at e
  · split at e
    · cases e; exact ⟨_, rfl⟩
    · cases e
  · cases e
theorem map_bl {o : Option Bool} {k : Bool → Bool} {z : Sl} (e : (o.map fun b => Sl.val (.bl (k b))) = some z) : ∃ b, z = .val (.bl b) := by
  cases o with
  | none => cases e
  | some b => cases e; exact ⟨_, rfl⟩
theorem bl_lt : ∀ x y z, ltS x y = some z → ∃ b, z = .val (.bl b) := opI_bl
theorem bl_le : ∀ x y z, leS x y = some z → ∃ b, z = .val (.bl b) := opI_bl
theorem bl_gt : ∀ x y z, gtS x y = some z → ∃ b, z = .val (.bl b) := opI_bl
theorem bl_ge : ∀ x y z, geS x y = some z → ∃ b, z = .val (.bl b) := opI_bl
theorem bl_eq : ∀ x y z, eqS x y = some z → ∃ b, z = .val (.bl b) := fun _ _ _ e => map_bl (k := id) e
theorem bl_ne : ∀ x y z, neS x y = some z → ∃ b, z = .val (.bl b) := fun _ _ _ e => map_bl (k := Bool.not) e
theorem bl_in : ∀ x y z, inS x y = some z → ∃ b, z = .val (.bl b) := fun _ _ _ e => map_bl (k := id) e
theorem bl_nin : ∀ x y z, ninS x y = some z → ∃ b, z = .val (.bl b) := fun _ _ _ e => map_bl (k := Bool.not) e
theorem bl_is : ∀ x y z, isS x y = some z → ∃ b, z = .val (.bl b) := fun x y z e => by
  unfold isS at e
  split at e
  · exact map_bl (k := id) e
  · cases e
theorem bl_isnt : ∀ x y z, isntS x y = some z → ∃ b, z = .val (.bl b) := fun x y z e => by
  unfold isntS at e
  split at e
  · exact map_bl (k := Bool.not) e
  · cases e
/-! ### and, or, not as values; a if t else b -/
def andE (f g : Ev) : Ev := bindE f fun x => match x with
  | .val (.bl true) => g
  | .val (.bl false) => fun _ t => some (.ok (.val (.bl false)), t)
  | _ => fun _ _ => none
def orE (f g : Ev) : Ev := bindE f fun x => match x with
  | .val (.bl true) => fun _ t => some (.ok (.val (.bl true)), t)
  | .val (.bl false) => g
  | _ => fun _ _ => none
def notE (f : Ev) : Ev := bindE f fun x => match x with
  | .val (.bl b) => fun _ t => some (.ok (.val (.bl (!b))), t)
  | _ => fun _ _ => none
def ifE (t : Tv) (f g : Ev) : Ev := fun env ta => match t env ta with
  | none => none
  | some (.error x, ta') => some (.error x, ta')
  | some (.ok true, ta') => f env ta'
  | some (.ok false, ta') => g env ta'
section
variable {X : Cx} {c : Ct} {W : WX} {a b d : Expr} {es : List Expr} {f g : Ev} {t : Tv} {pos : Pos}
theorem v_one {op} (h : PEv X c W a f) : PEv X c W (.BoolOp op [a] pos) f := ⟨pe_one h.pe⟩
theorem v_and (ha : PEv X c W a f) (hb : PEv X c W (.BoolOp .And (b :: es) pos) g) : PEv X c W (.BoolOp .And (a :: b :: es) pos) (andE f g) := by
  refine ⟨pe_mono (pe_and ha.pe hb.pe) ?_⟩
  rintro σ H Q ⟨B, tp, env, ta, RS, h⟩
  refine tE_bind RS h fun x t1 v H1 R1 K1 V1 h1 => ?_
  split at h1
  · exact ⟨true, V1.bl, by rw [if_pos rfl]; exact ⟨B, tp, env, t1, R1, h1.later K1⟩⟩
  · exact ⟨false, V1.bl, by rw [if_neg Bool.false_ne_true]; exact EPost.val R1 (h1.later K1) (Rep.bl _)⟩
  · exact h1.elim
theorem v_or (ha : PEv X c W a f) (hb : PEv X c W (.BoolOp .Or (b :: es) pos) g) : PEv X c W (.BoolOp .Or (a :: b :: es) pos) (orE f g) := by
  refine ⟨pe_mono (pe_or ha.pe hb.pe) ?_⟩
  rintro σ H Q ⟨B, tp, env, ta, RS, h⟩
  refine tE_bind RS h fun x t1 v H1 R1 K1 V1 h1 => ?_
  split at h1
  · exact ⟨true, V1.bl, by rw [if_pos rfl]; exact EPost.val R1 (h1.later K1) (Rep.bl _)⟩
  · exact ⟨false, V1.bl, by rw [if_neg Bool.false_ne_true]; exact ⟨B, tp, env, t1, R1, h1.later K1⟩⟩
  · exact h1.elim
theorem v_not (ha : PEv X c W a f) : PEv X c W (.UnaryOp .Not a pos) (notE f) := by
  refine ⟨pe_mono (pe_not ha.pe) ?_⟩
  rintro σ H Q ⟨B, tp, env, ta, RS, h⟩
  refine tE_bind RS h fun x t1 v H1 R1 K1 V1 h1 => ?_
  split at h1
  · exact ⟨_, V1.bl, EPost.val R1 (h1.later K1) (Rep.bl _)⟩
  · exact h1.elim
theorem v_ifE (ht : PTv X c W d t) (ha : PEv X c W a f) (hb : PEv X c W b g) : PEv X c W (.IfExp d a b pos) (ifE t f g) := by
  refine ⟨pe_mono (pe_ifExp ht.pt ha.pe hb.pe) ?_⟩
  rintro σ H Q ⟨B, tp, env, ta, RS, h⟩
  refine ⟨B, tp, env, ta, RS, ?_⟩
  unfold ifE at h
  cases e : t env ta with
  | none => rw [e] at h; exact h
  | some p =>
    obtain ⟨r, t'⟩ := p
    rw [e] at h
    cases r with
    | error x => exact h
    | ok b =>
      intro H1 R1 K1
      cases b with
      | true => rw [if_pos rfl]; exact ⟨B, tp, env, t', R1, h.later K1⟩
      | false => rw [if_neg Bool.false_ne_true]; exact ⟨B, tp, env, t', R1, h.later K1⟩
end

/-! ### arguments -/
def evs : List Ev → SE → TapeO → Option (Except Str (List Sl) × TapeO)
  | [], _, ta => some (.ok [], ta)
  | f :: fs, env, ta => match f env ta with
    | none => none
    | some (.error x, t) => some (.error x, t)
    | some (.ok r, t) => match evs fs env t with
      | none => none
      | some (.error x, t) => some (.error x, t)
      | some (.ok rs, t) => some (.ok (r :: rs), t)
theorem evs_length : ∀ {fs : List Ev} {env : SE} {ta t : TapeO} {rs : List Sl}, evs fs env ta = some (.ok rs, t) → rs.length = fs.length
  | [], _, _, _, _, e => by cases e; rfl
  | f :: fs, env, ta, t, rs, e => by
    unfold evs at e
    split at e
    · cases e
    · cases e
    · split at e
      · cases e
      · cases e
      · rename_i q
        cases e
        simp [evs_length q]
inductive RepVs (K : PySem.W.Frag) (c : Ct) (tp : Option Addr) (H0 H : Hp) : List V → List Sl → Prop
  | nil : RepVs K c tp H0 H [] []
  | cons {v : V} {vs : List V} {x : Sl} {xs : List Sl} : RepV K c tp H0 H v x → RepVs K c tp H0 H vs xs → RepVs K c tp H0 H (v :: vs) (x :: xs)
section
variable {K : PySem.W.Frag} {c : Ct} {tp : Option Addr} {H0 H H1 H2 : Hp}
theorem RepVs.length : ∀ {vs : List V} {xs : List Sl}, RepVs K c tp H0 H vs xs → vs.length = xs.length
  | _, _, .nil => rfl
  | _, _, .cons _ t => by simp [t.length]
theorem RepVs.kp (k : Kp c tp H H1) : ∀ {vs : List V} {xs : List Sl}, RepVs K c tp H0 H vs xs → RepVs K c tp H0 H1 vs xs
  | _, _, .nil => .nil
  | _, _, .cons r t => .cons (r.kp k) (t.kp k)
theorem RepVs.back (k : Kp c tp H H1) : ∀ {vs : List V} {xs : List Sl}, RepVs K c tp H1 H2 vs xs → RepVs K c tp H H2 vs xs
  | _, _, .nil => .nil
  | _, _, .cons r t => .cons (r.back k) (t.back k)
end
def APost (K : PySem.W.Frag) (c : Ct) (W : WX) (B : Hp) (tp : Option Addr) (σ : L2.St) (H : Hp) (env : SE) (r : Option (Except Str (List Sl) × TapeO)) (Q : List V → Hp → Prop) : Prop :=
  match r with
  | none => False
  | some (.ok xs, ta') => ∀ vs H', RepS K c B tp σ H' env ta' → Kp c tp H H' → RepVs K c tp H H' vs xs → Q vs H'
  | some (.error x, ta') => ∀ cls d H', RepS K c B tp σ H' env ta' → Kp c tp H H' → ErrIs c H' cls d x → W cls d σ H'
def tAs (K : PySem.W.Frag) (c : Ct) (W : WX) (fs : List Ev) : TA := fun σ H Q => ∃ B tp env ta, RepS K c B tp σ H env ta ∧ APost K c W B tp σ H env (evs fs env ta) Q
structure PAv (X : Cx) (c : Ct) (W : WX) (es : List Expr) (fs : List Ev) : Prop where
  pa : PA X es (tAs X.K c W fs)
section
variable {X : Cx} {c : Ct} {W : WX} {e : Expr} {es : List Expr} {f : Ev} {fs : List Ev}
theorem a_nil : PAv X c W [] [] := by
  refine ⟨pa_mono L2.pa_nil ?_⟩
  rintro σ H Q ⟨B, tp, env, ta, RS, h⟩
  exact h [] H RS (.refl _ _ _) .nil
theorem a_cons (he : PEv X c W e f) (hs : PAv X c W es fs) (hst : starEach (e :: es) X.env = (false, eval e X.env) :: starEach es X.env := by rfl) : PAv X c W (e :: es) (f :: fs) := by
  refine ⟨pa_mono (L2.pa_cons he.pe hs.pa hst) ?_⟩
  rintro σ H Q ⟨B, tp, env, ta, RS, h⟩
  refine ⟨B, tp, env, ta, RS, ?_⟩
  unfold evs at h
  cases q : f env ta with
  | none => rw [q] at h; exact h
  | some p =>
    obtain ⟨r, t⟩ := p
    rw [q] at h
    cases r with
    | error x => exact h
    | ok r =>
      intro v H1 R1 K1 V1
      refine ⟨B, tp, env, t, R1, ?_⟩
      simp only at h
      cases q2 : evs fs env t with
      | none => rw [q2] at h; exact h
      | some p =>
        obtain ⟨rs, t'⟩ := p
        rw [q2] at h
        cases rs with
        | error x => exact fun cls d H' R' K' er => h cls d H' R' (K1.trans K') er
        | ok rs => exact fun vs H' R' K' VS => h (v :: vs) H' R' (K1.trans K') (.cons (V1.kp K') (VS.back K1))
end

/-! ### calls of built-ins -/
def callE (op : List Sl → Option Sl) (fs : List Ev) : Ev := fun env ta => match evs fs env ta with
  | none => none
  | some (.error x, t) => some (.error x, t)
  | some (.ok rs, t) => (op rs).map fun z => (.ok z, t)
def CallOk (K : PySem.W.Frag) (c : Ct) (r : List V → Hp → VK → Prop) (op : List Sl → Option Sl) : Prop :=
  ∀ (tp : Option Addr) (H0 H : Hp) (vs : List V) (xs : List Sl) (z : Sl) (Q : VK), (∀ a, H a = none → ¬ Vol c tp a) → RepVs K c tp H0 H vs xs → op xs = some z →
    (∀ w H', Same H H' → RepV K c tp H H' w z → Q w H') → r vs H Q
theorem call_of {K : PySem.W.Frag} {c : Ct} {W : WX} {r : List V → Hp → VK → Prop} {op : List Sl → Option Sl} {fs : List Ev} (ho : CallOk K c r op) : ∀ σ H Q, tE K c W (callE op fs) σ H Q → tCB r (tAs K c W fs) σ H Q := by
  rintro σ H Q ⟨B, tp, env, ta, RS, h⟩
  refine ⟨B, tp, env, ta, RS, ?_⟩
  unfold callE at h
  cases q : evs fs env ta with
  | none => rw [q] at h; exact h
  | some p =>
    obtain ⟨rs, t⟩ := p
    rw [q] at h
    cases rs with
    | error x => exact h
    | ok rs =>
      dsimp only at h
      intro vs H1 R1 K1 VS
      cases e : op rs with
      | none => rw [e] at h; exact h.elim
      | some z =>
        rw [e] at h
        exact ho tp H H1 vs rs z Q (fun a => R1.vol) VS e fun w H' s V => EPost.same R1 (h.later K1) s V
section
variable {X : Cx} {c : Ct} {W : WX} {x : Str} {p pos : Pos} {e : Expr} {es : List Expr} {fs : List Ev} {id T : String} {r : List V → Hp → VK → Prop} {op : List Sl → Option Sl}
theorem v_callB (hc : CallR X (.builtin id) r) (ho : CallOk X.K c r op) (hm : X.mg x = none) (ha : PAv X c W (e :: es) fs) (hv : bootBuiltins x = some (.builtin id) := by decide +kernel) (hg : Gl X x := by rfl) (hn : x ≠ "__name__" := by decide) (hdb : (x == ("__debug__" : Str)) = false := by decide)
    (he : starEach (e :: es) X.env = (false, eval e X.env) :: starEach es X.env := by rfl) (hpl : (backTo pos (starEach es X.env)).any (·.1) = false := by rfl) : PEv X c W (.Call (.Name x p) (e :: es) [] pos) (callE op fs) :=
  ⟨pe_mono (pe_callB hc hg hm hv ha.pa hn hdb he hpl) (call_of ho)⟩
theorem v_callTy (hc : CallR X (.type T) r) (ho : CallOk X.K c r op) (hm : X.mg x = none) (ha : PAv X c W (e :: es) fs) (hv : bootBuiltins x = some (.type T) := by decide +kernel) (hg : Gl X x := by rfl) (hn : x ≠ "__name__" := by decide) (hdb : (x == ("__debug__" : Str)) = false := by decide)
    (he : starEach (e :: es) X.env = (false, eval e X.env) :: starEach es X.env := by rfl) (hpl : (backTo pos (starEach es X.env)).any (·.1) = false := by rfl) : PEv X c W (.Call (.Name x p) (e :: es) [] pos) (callE op fs) :=
  ⟨pe_mono (pe_callTy hc hg hm hv ha.pa hn hdb he hpl) (call_of ho)⟩
end
def lenS : List Sl → Option Sl
  | [x] => match x.seq? with
    | some ds => some (.val (.int ds.length))
    | none => none
  | _ => none
def absS : List Sl → Option Sl
  | [.val (.int i)] => some (.val (.int (if i < 0 then -i else i)))
  | _ => none
def intS : List Sl → Option Sl
  | [.val (.int i)] => some (.val (.int i))
  | [.val (.bl b)] => some (.val (.int (if b then 1 else 0)))
  | _ => none
def min2S : List Sl → Option Sl
  | [.val (.int i), .val (.int j)] => some (.val (.int (if j < i then j else i)))
  | _ => none
def max2S : List Sl → Option Sl
  | [.val (.int i), .val (.int j)] => some (.val (.int (if j > i then j else i)))
  | _ => none
/-- tuple(x) -/
def tupleS : List Sl → Option Sl
  | [.val (.tup ds)] => some (.val (.tup ds))
  | [x] => match x.items? with
    | some ds => some (.val (.tup ds))
    | none => none
  | _ => none
/-- list(x) -/
def listS : List Sl → Option Sl
  | [x] => match x.seq? with
    | some ds => some (.own ds)
    | none => none
  | _ => none
def D.int? : D → Option Int
  | .int i => some i
  | _ => none
def D.bl? : D → Option Bool
  | .bl i => some i
  | _ => none
def ints? (ds : List D) : Option (List Int) := ds.mapM D.int?
def bls? (ds : List D) : Option (List Bool) := ds.mapM D.bl?
theorem ints?_eq : ∀ {ds : List D} {ns : List Int}, ints? ds = some ns → ds = ns.map D.int
  | [], ns, e => by simp [ints?] at e; subst e; rfl
  | d :: ds, ns, e => by
    unfold ints? at e
    rw [List.mapM_cons] at e
    cases d with
    | int i =>
      simp only [D.int?, bind, Option.bind, pure] at e
      split at e
      · cases e
      · rename_i ms q
        cases e
        rw [List.map_cons, ← ints?_eq (ds := ds) q]
    | _ => simp [D.int?, bind, Option.bind] at e
theorem bls?_eq : ∀ {ds : List D} {ns : List Bool}, bls? ds = some ns → ds = ns.map D.bl
  | [], ns, e => by simp [bls?] at e; subst e; rfl
  | d :: ds, ns, e => by
    unfold bls? at e
    rw [List.mapM_cons] at e
    cases d with
    | bl i =>
      simp only [D.bl?, bind, Option.bind, pure] at e
      split at e
      · cases e
      · rename_i ms q
        cases e
        rw [List.map_cons, ← bls?_eq (ds := ds) q]
    | _ => simp [D.bl?, bind, Option.bind] at e
theorem ints?_map : ∀ ns : List Int, ints? (ns.map D.int) = some ns
  | [] => rfl
  | n :: r => by
    show (n :: r |>.map D.int).mapM D.int? = _
    rw [List.map_cons, List.mapM_cons]
    have := ints?_map r
    unfold ints? at this
    rw [this]
    rfl
theorem bls?_map : ∀ ns : List Bool, bls? (ns.map D.bl) = some ns
  | [] => rfl
  | n :: r => by
    show (n :: r |>.map D.bl).mapM D.bl? = _
    rw [List.map_cons, List.mapM_cons]
    have := bls?_map r
    unfold bls? at this
    rw [this]
    rfl
/-- any(..), all(..) of a list of bools; sum, max, min, sorted of a list of ints -/
def onBls (g : List Bool → Option Sl) : List Sl → Option Sl
  | [x] => (x.items?.bind bls?).bind g
  | _ => none
def onInts (g : List Int → Option Sl) : List Sl → Option Sl
  | [x] => (x.items?.bind ints?).bind g
  | _ => none
def anyS : List Sl → Option Sl := onBls fun bs => some (.val (.bl (bs.any id)))
def allS : List Sl → Option Sl := onBls fun bs => some (.val (.bl (bs.all id)))
def sumS : List Sl → Option Sl := onInts fun ns => some (.val (.int ns.sum))
def maxL : List Int → Int
  | [] => 0
  | n :: r => r.foldl max n
def minL : List Int → Int
  | [] => 0
  | n :: r => r.foldl min n
def maxS : List Sl → Option Sl := onInts fun ns => if ns = [] then none else some (.val (.int (maxL ns)))
def minS : List Sl → Option Sl := onInts fun ns => if ns = [] then none else some (.val (.int (minL ns)))
def sortI (ns : List Int) : List Int := ns.mergeSort (fun a b => decide (a ≤ b))
def sortedS : List Sl → Option Sl := onInts fun ns => some (.own ((sortI ns).map D.int))
end MP

/-! MPd: the rules of the built-ins; displays; freezing; calls of the text's own defs. -/
namespace MP
open PySem PySem.Spec PyProof.Rows L2
section
variable {K : PySem.W.Frag} {c : Ct}
theorem co_len : CallOk K c (fun xs H Q => ∃ p ys, xs = [.ref p] ∧ (SqL K H p ys ∨ SqT K H p ys) ∧ Q (.int ys.length) H) lenS := by
  intro tp H0 H vs xs z Q nv hv e k
  unfold lenS at e
  split at e
  · rename_i x
    cases hv with
    | cons h1 h2 =>
      cases h2
      split at e
      · rename_i ds es
        cases e
        obtain ⟨a, ys, rfl, hs, r⟩ := h1.seq es
        exact ⟨a, ys, rfl, hs, k _ H (Same.refl H) (by rw [r.length]; exact Rep.int _)⟩
      · cases e
  · cases e
theorem co_abs : CallOk K c (fun xs H Q => ∃ i, xs = [.int i] ∧ Q (.int (if i < 0 then -i else i)) H) absS := by
  intro tp H0 H vs xs z Q nv hv e k
  unfold absS at e
  split at e
  · cases hv with
    | cons h1 h2 =>
      cases h2
      cases e
      rw [h1.int]
      exact ⟨_, rfl, k _ H (Same.refl H) (Rep.int _)⟩
  · cases e
theorem co_int : CallOk K c (fun xs H Q => (∃ i, xs = [.int i] ∧ Q (.int i) H) ∨ ∃ k, xs = [.bl k] ∧ Q (.int (if k then 1 else 0)) H) intS := by
  intro tp H0 H vs xs z Q nv hv e k
  unfold intS at e
  split at e
  · cases hv with
    | cons h1 h2 =>
      cases h2
      cases e
      rw [h1.int]
      exact .inl ⟨_, rfl, k _ H (Same.refl H) (Rep.int _)⟩
  · cases hv with
    | cons h1 h2 =>
      cases h2
      cases e
      rw [h1.bl]
      exact .inr ⟨_, rfl, k _ H (Same.refl H) (Rep.int _)⟩
  · cases e
theorem co_min2 : CallOk K c (fun xs H Q => ∃ i j, xs = [.int i, .int j] ∧ Q (.int (if j < i then j else i)) H) min2S := by
  intro tp H0 H vs xs z Q nv hv e k
  unfold min2S at e
  split at e
  · cases hv with
    | cons h1 h2 =>
      cases h2 with
      | cons h2 h3 =>
        cases h3
        cases e
        rw [h1.int, h2.int]
        exact ⟨_, _, rfl, k _ H (Same.refl H) (Rep.int _)⟩
  · cases e
theorem co_max2 : CallOk K c (fun xs H Q => ∃ i j, xs = [.int i, .int j] ∧ Q (.int (if j > i then j else i)) H) max2S := by
  intro tp H0 H vs xs z Q nv hv e k
  unfold max2S at e
  split at e
  · cases hv with
    | cons h1 h2 =>
      cases h2 with
      | cons h2 h3 =>
        cases h3
        cases e
        rw [h1.int, h2.int]
        exact ⟨_, _, rfl, k _ H (Same.refl H) (Rep.int _)⟩
  · cases e
def rTupleA (K : PySem.W.Frag) : List V → Hp → VK → Prop := fun xs H Q => ∃ p ys, xs = [.ref p] ∧ ((SqL K H p ys ∧ ∀ l, H l = none → Q (.ref l) (upd H l (.tup ys))) ∨ (SqT K H p ys ∧ Q (.ref p) H))
theorem co_tuple : CallOk K c (rTupleA K) tupleS := by
  intro tp H0 H vs xs z Q nv hv e k
  unfold tupleS at e
  split at e
  · cases hv with
    | cons h1 h2 =>
      cases h2
      cases e
      obtain ⟨a, ys, rfl, hs, r⟩ := h1.tup
      exact ⟨a, ys, rfl, .inr ⟨hs, k _ H (Same.refl H) (Rep.tup hs r)⟩⟩
  · cases hv with
    | cons h1 h2 =>
      cases h2
      split at e
      · rename_i ds es
        cases e
        obtain ⟨a, ys, rfl, hs, r⟩ := h1.list es
        exact ⟨a, ys, rfl, .inl ⟨hs, fun l hl => k _ _ (Same.new hl) (RepV.newT hl r)⟩⟩
      · cases e
  · cases e
theorem co_list : CallOk K c (fun xs H Q => ∃ p ys, xs = [.ref p] ∧ (SqL K H p ys ∨ SqT K H p ys) ∧ ∀ l, H l = none → Q (.ref l) (upd H l (.lst ys))) listS := by
  intro tp H0 H vs xs z Q nv hv e k
  unfold listS at e
  split at e
  · cases hv with
    | cons h1 h2 =>
      cases h2
      split at e
      · rename_i ds es
        cases e
        obtain ⟨a, ys, rfl, hs, r⟩ := h1.seq es
        exact ⟨a, ys, rfl, hs, fun l hl => k _ _ (Same.new hl) (RepV.newL hl (nv l hl) r)⟩
      · cases e
  · cases e
theorem onBls_ok {g : List Bool → Option Sl} {R : List Bool → Hp → VK → Prop} (h : ∀ tp H bs z Q, (∀ a, H a = none → ¬ Vol c tp a) → g bs = some z → (∀ w H', Same H H' → RepV K c tp H H' w z → Q w H') → R bs H Q) :
    CallOk K c (fun vs H Q => ∃ (a : Addr) (bs : List Bool), vs = [V.ref a] ∧ SqL K H a (bs.map V.bl) ∧ R bs H Q) (onBls g) := by
  intro tp H0 H vs xs z Q nv hv e k
  unfold onBls at e
  split at e
  · rename_i x
    cases hv with
    | cons h1 h2 =>
      cases h2
      cases e1 : x.items? with
      | none => rw [e1] at e; cases e
      | some ds =>
        rw [e1] at e
        cases e2 : bls? ds with
        | none => simp only [Option.bind, e2] at e; cases e
        | some bs =>
          simp only [Option.bind, e2] at e
          obtain ⟨a, ys, rfl, hs, r⟩ := h1.list e1
          have ed := bls?_eq e2
          subst ed
          have ey := Reps.blsV bs r
          subst ey
          exact ⟨a, bs, rfl, hs, h tp H bs z Q nv e k⟩
  · cases e
theorem onInts_ok {g : List Int → Option Sl} {R : List Int → Hp → VK → Prop} (h : ∀ tp H bs z Q, (∀ a, H a = none → ¬ Vol c tp a) → g bs = some z → (∀ w H', Same H H' → RepV K c tp H H' w z → Q w H') → R bs H Q) :
    CallOk K c (fun vs H Q => ∃ (a : Addr) (bs : List Int), vs = [V.ref a] ∧ SqL K H a (bs.map V.int) ∧ R bs H Q) (onInts g) := by
  intro tp H0 H vs xs z Q nv hv e k
  unfold onInts at e
  split at e
  · rename_i x
    cases hv with
    | cons h1 h2 =>
      cases h2
      cases e1 : x.items? with
      | none => rw [e1] at e; cases e
      | some ds =>
        rw [e1] at e
        cases e2 : ints? ds with
        | none => simp only [Option.bind, e2] at e; cases e
        | some bs =>
          simp only [Option.bind, e2] at e
          obtain ⟨a, ys, rfl, hs, r⟩ := h1.list e1
          have ed := ints?_eq e2
          subst ed
          have ey := Reps.intsV bs r
          subst ey
          exact ⟨a, bs, rfl, hs, h tp H bs z Q nv e k⟩
  · cases e
theorem co_any : CallOk K c (rAny K) anyS := onBls_ok (R := fun bs H Q => Q (.bl (bs.any id)) H) fun tp H bs z Q nv e k => by cases e; exact k _ H (Same.refl H) (Rep.bl _)
theorem co_all : CallOk K c (rAll K) allS := onBls_ok (R := fun bs H Q => Q (.bl (bs.all id)) H) fun tp H bs z Q nv e k => by cases e; exact k _ H (Same.refl H) (Rep.bl _)
theorem co_sum : CallOk K c (rSum K) sumS := onInts_ok (R := fun bs H Q => Q (.int bs.sum) H) fun tp H bs z Q nv e k => by cases e; exact k _ H (Same.refl H) (Rep.int _)
theorem foldl_max : ∀ (r : List Int) (n : Int), n ≤ r.foldl max n ∧ (∀ y ∈ r, y ≤ r.foldl max n) ∧ (r.foldl max n = n ∨ r.foldl max n ∈ r)
  | [], n => ⟨Int.le_refl _, by simp, .inl rfl⟩
  | m :: r, n => by
    obtain ⟨h1, h2, h3⟩ := foldl_max r (max n m)
    simp only [List.foldl_cons]
    refine ⟨by omega, fun y hy => ?_, ?_⟩
    · rcases List.mem_cons.mp hy with rfl | hy
      · omega
      · exact h2 y hy
    · rcases h3 with h3 | h3
      · rw [h3]
        by_cases q : n ≤ m
        · exact .inr (by rw [Int.max_eq_right q]; exact List.mem_cons_self)
        · exact .inl (Int.max_eq_left (by omega))
      · exact .inr (List.mem_cons_of_mem _ h3)
theorem foldl_min : ∀ (r : List Int) (n : Int), r.foldl min n ≤ n ∧ (∀ y ∈ r, r.foldl min n ≤ y) ∧ (r.foldl min n = n ∨ r.foldl min n ∈ r)
  | [], n => ⟨Int.le_refl _, by simp, .inl rfl⟩
  | m :: r, n => by
    obtain ⟨h1, h2, h3⟩ := foldl_min r (min n m)
    simp only [List.foldl_cons]
    refine ⟨by omega, fun y hy => ?_, ?_⟩
    · rcases List.mem_cons.mp hy with rfl | hy
      · omega
      · exact h2 y hy
    · rcases h3 with h3 | h3
      · rw [h3]
        by_cases q : n ≤ m
        · exact .inl (Int.min_eq_left q)
        · exact .inr (by rw [Int.min_eq_right (by omega)]; exact List.mem_cons_self)
      · exact .inr (List.mem_cons_of_mem _ h3)
theorem maxL_spec {ns : List Int} (h : ns ≠ []) : maxL ns ∈ ns ∧ ∀ y ∈ ns, y ≤ maxL ns := by
  cases ns with
  | nil => exact absurd rfl h
  | cons n r =>
    obtain ⟨h1, h2, h3⟩ := foldl_max r n
    refine ⟨?_, fun y hy => ?_⟩
    · rcases h3 with h3 | h3
      · show r.foldl max n ∈ _
        rw [h3]; exact List.mem_cons_self
      · exact List.mem_cons_of_mem _ h3
    · rcases List.mem_cons.mp hy with rfl | hy
      · exact h1
      · exact h2 y hy
theorem minL_spec {ns : List Int} (h : ns ≠ []) : minL ns ∈ ns ∧ ∀ y ∈ ns, minL ns ≤ y := by
  cases ns with
  | nil => exact absurd rfl h
  | cons n r =>
    obtain ⟨h1, h2, h3⟩ := foldl_min r n
    refine ⟨?_, fun y hy => ?_⟩
    · rcases h3 with h3 | h3
      · show r.foldl min n ∈ _
        rw [h3]; exact List.mem_cons_self
      · exact List.mem_cons_of_mem _ h3
    · rcases List.mem_cons.mp hy with rfl | hy
      · exact h1
      · exact h2 y hy
theorem co_max : CallOk K c (rMax K) maxS := onInts_ok (R := fun ns H Q => 0 < ns.length ∧ ∀ m, m ∈ ns → (∀ y, y ∈ ns → y ≤ m) → Q (.int m) H) fun tp H ns z Q nv e k => by
  split at e
  · cases e
  · rename_i hn
    cases e
    refine ⟨List.length_pos_iff.mpr hn, fun m hm hle => ?_⟩
    obtain ⟨h1, h2⟩ := maxL_spec hn
    have q : m = maxL ns := Int.le_antisymm (h2 m hm) (hle _ h1)
    rw [q]
    exact k _ H (Same.refl H) (Rep.int _)
theorem co_min : CallOk K c (rMin K) minS := onInts_ok (R := fun ns H Q => 0 < ns.length ∧ ∀ m, m ∈ ns → (∀ y, y ∈ ns → m ≤ y) → Q (.int m) H) fun tp H ns z Q nv e k => by
  split at e
  · cases e
  · rename_i hn
    cases e
    refine ⟨List.length_pos_iff.mpr hn, fun m hm hle => ?_⟩
    obtain ⟨h1, h2⟩ := minL_spec hn
    have q : m = minL ns := Int.le_antisymm (hle _ h1) (h2 m hm)
    rw [q]
    exact k _ H (Same.refl H) (Rep.int _)
theorem sorted_uniq : ∀ {xs ys : List Int}, xs.Perm ys → xs.Pairwise (· ≤ ·) → ys.Pairwise (· ≤ ·) → xs = ys := fun p h1 h2 => List.Perm.eq_of_pairwise (le := (· ≤ ·)) (fun a b _ _ h h' => Int.le_antisymm h h') h1 h2 p
theorem sortI_perm (ns : List Int) : (sortI ns).Perm ns := List.mergeSort_perm _ _
theorem sortI_sorted (ns : List Int) : (sortI ns).Pairwise (· ≤ ·) := by
  have h := List.pairwise_mergeSort (le := fun (a b : Int) => decide (a ≤ b)) (fun a b c h1 h2 => by simp at *; omega) (fun a b => by simp; omega) ns
  exact h.imp fun q => of_decide_eq_true q
theorem co_sorted : CallOk K c (rSortedI K) sortedS := onInts_ok (R := fun ns H Q => _) fun tp H ns z Q nv e k => by
  cases e
  intro ns' p hp hs hn
  have q := sorted_uniq (hp.trans (sortI_perm ns).symm) hs (sortI_sorted ns)
  subst q
  exact k _ _ (Same.new hn) (RepV.newL hn (nv _ hn) (Reps.ints _))
end
end MP

/-! MPe: displays; freezing; calls of the text's own defs; statements but loops. -/
namespace MP
open PySem PySem.Spec PyProof.Rows L2
/-! ### displays -/
def vals? : List Sl → Option (List D)
  | [] => some []
  | .val d :: r => (vals? r).map (d :: ·)
  | _ :: _ => none
theorem RepVs.vals {K : PySem.W.Frag} {c : Ct} {tp : Option Addr} {H0 H : Hp} : ∀ {vs : List V} {xs : List Sl} {ds : List D}, RepVs K c tp H0 H vs xs → vals? xs = some ds → Reps K H vs ds
  | _, _, _, .nil, e => by cases e; exact .nil
  | _, _, _, .cons (x := x) (xs := xs) r t, e => by
    cases x with
    | val d =>
      unfold vals? at e
      cases q : vals? xs with
      | none => rw [q] at e; cases e
      | some es => rw [q] at e; cases e; exact .cons r (t.vals q)
    | _ => cases e
theorem vals?_length : ∀ {xs : List Sl} {ds : List D}, vals? xs = some ds → xs.length = ds.length
  | [], _, e => by cases e; rfl
  | .val d :: r, ds, e => by
    unfold vals? at e
    cases q : vals? r with
    | none => rw [q] at e; cases e
    | some es => rw [q] at e; cases e; simp [vals?_length q]
  | .un :: _, _, e => by cases e
  | .own _ :: _, _, e => by cases e
  | .bor _ :: _, _, e => by cases e
  | .tape :: _, _, e => by cases e
  | .dic _ :: _, _, e => by cases e
  | .bdc _ :: _, _, e => by cases e
def dispE (mk : List D → Sl) (fs : List Ev) : Ev := fun env ta => match evs fs env ta with
  | none => none
  | some (.error x, t) => some (.error x, t)
  | some (.ok rs, t) => (vals? rs).map fun ds => (.ok (mk ds), t)
def tupE (fs : List Ev) : Ev := dispE (fun ds => .val (.tup ds)) fs
def lstE (fs : List Ev) : Ev := dispE .own fs
section
variable {X : Cx} {c : Ct} {W : WX} {e : Expr} {es : List Expr} {f : Ev} {fs : List Ev} {pos : Pos}
theorem v_tup {k} (h : PAv X c W es fs) (hl : fs.length ≤ LIM := by decide) : PEv X c W (.Tuple es k pos) (tupE fs) := by
  refine ⟨pe_mono (pe_tup h.pa) ?_⟩
  rintro σ H Q ⟨B, tp, env, ta, RS, h⟩
  refine ⟨B, tp, env, ta, RS, ?_⟩
  unfold tupE dispE at h
  cases q : evs fs env ta with
  | none => rw [q] at h; exact h
  | some p =>
    obtain ⟨rs, t⟩ := p
    rw [q] at h
    cases rs with
    | error x => exact h
    | ok rs =>
      dsimp only at h
      intro vs H1 R1 K1 VS
      cases e : vals? rs with
      | none => rw [e] at h; exact h.elim
      | some ds =>
        rw [e] at h
        refine ⟨by rw [VS.length, evs_length q]; exact lim_line hl, fun p hp => ?_⟩
        exact EPost.same R1 (h.later K1) (Same.new hp) (RepV.newT hp (VS.vals e))
theorem v_lst (h : PAv X c W es fs) (hl : fs.length ≤ LIM := by decide) : PEv X c W (.List es pos) (lstE fs) := by
  refine ⟨pe_mono (pe_lst h.pa) ?_⟩
  rintro σ H Q ⟨B, tp, env, ta, RS, h⟩
  refine ⟨B, tp, env, ta, RS, ?_⟩
  unfold lstE dispE at h
  cases q : evs fs env ta with
  | none => rw [q] at h; exact h
  | some p =>
    obtain ⟨rs, t⟩ := p
    rw [q] at h
    cases rs with
    | error x => exact h
    | ok rs =>
      dsimp only at h
      intro vs H1 R1 K1 VS
      cases e : vals? rs with
      | none => rw [e] at h; exact h.elim
      | some ds =>
        rw [e] at h
        refine ⟨by rw [VS.length, evs_length q]; exact lim_line hl, fun p hp => ?_⟩
        exact EPost.same R1 (h.later K1) (Same.new hp) (RepV.newL hp (R1.vol hp) (VS.vals e))
end

/-! ### a list of one's own becomes a datum: it never changes any more -/
theorem stab_lst {H : Hp} {a : Addr} {xs : List V} {o : HO} (h : H a = some (.lst xs)) : Stab H (upd H a o) :=
  ⟨fun b ys e => by rw [upd_ne (fun z => by rw [z, h] at e; cases e)]; exact e, fun b ob u e => by rw [upd_ne (fun z => by rw [z, h] at e; cases e)]; exact e⟩
section
variable {K : PySem.W.Frag} {c : Ct} {tp : Option Addr} {H H0 B : Hp} {σ : L2.St} {env : SE} {ta : TapeO}
theorem TapeR.upd {a : Addr} {o : HO} {xs : List V} (h : TapeR K H tp ta) (ha : H a = some (.lst xs)) (nt : tp ≠ some a) : TapeR K (upd H a o) tp ta := by
  cases tp <;> cases ta
  · exact h
  · exact h
  · exact h
  · rename_i b t
    obtain ⟨sc, e1, e2⟩ := h
    refine ⟨sc, ?_, (stab_lst ha).fz e2⟩
    rw [upd_ne (fun z => nt (by rw [z]))]; exact e1
theorem Tabs.upd {T : List (Addr × Str)} {a : Addr} {o : HO} {xs : List V} (h : LamX.Tabs T H) (ha : H a = some (.lst xs)) : LamX.Tabs T (upd H a o) := fun p hp => by
  obtain ⟨ps, e1, e2, e3⟩ := h p hp
  refine ⟨ps, by rw [upd_ne (fun z => by rw [z, ha] at e1; cases e1)]; exact e1, e2, fun pos cv q => ?_⟩
  obtain ⟨d, e4, e5⟩ := e3 pos cv q
  refine ⟨d, e4, ?_⟩
  rw [upd_ne (fun z => by rw [z, ha] at e5; unfold LamX.CodeO at e5; cases e5)]; exact e5
/-- a list that no slot owns is frozen -/
theorem RepS.frz {a : Addr} {xs : List V} {o : Obj} (R : RepS K c B tp σ H env ta) (h : H a = some (.lst xs)) (nv : ¬ Vol c tp a) (no : ∀ i, ¬ OwnAt env σ i a) (nB : B a = none) : RepS K c B tp σ (upd H a (.frz o (.lst xs))) env ta where
  len := R.len
  slot := fun i sl e => by
    have q := R.slot i sl e
    cases sl with
    | un => exact q
    | val d => obtain ⟨v, e1, r⟩ := q; exact ⟨v, e1, r.st (stab_lst h)⟩
    | own ds =>
      obtain ⟨b, ys, e1, e2, r⟩ := q
      have hb : b ≠ a := fun z => no i ⟨⟨_, e, trivial⟩, by rw [← z]; exact e1⟩
      exact ⟨b, ys, e1, by rw [upd_ne hb]; exact e2, r.st (stab_lst h)⟩
    | bor _ => exact q
    | tape => exact q
    | dic fs =>
      obtain ⟨b, ys, e1, e2, r⟩ := q
      exact ⟨b, ys, e1, by rw [upd_ne (fun z => by rw [z, h] at e2; cases e2)]; exact e2, r.st (stab_lst h)⟩
    | bdc _ => exact q
  fresh := R.fresh
  dist := R.dist
  tape := R.tape.upd h fun z => nv (.inl z)
  tabs := Tabs.upd R.tabs h
  keep := fun b u e n => by
    rw [upd_ne (fun z => by rw [z, nB] at e; cases e)]; exact R.keep b u e n
  stab := R.stab.trans (stab_lst h)
theorem Kp.frz {H1 : Hp} {a : Addr} {xs : List V} {o : Obj} (k : Kp c tp H H1) (h : H1 a = some (.lst xs)) (n : H a = none) : Kp c tp H (upd H1 a (.frz o (.lst xs))) where
  kp := fun b u e nv => by rw [upd_ne (fun z => by rw [z, n] at e; cases e)]; exact k.kp b u e nv
  st := k.st.trans (stab_lst h)
  nn := fun b e => by
    by_cases hb : b = a
    · rw [hb, upd_same] at e; cases e
    · rw [upd_ne hb] at e; exact k.nn b e
theorem RepS.noB (R : RepS K c B tp σ H env ta) {a : Addr} (n : H a = none) : B a = none := by
  cases e : B a with
  | none => rfl
  | some o =>
    have q := R.keep a o e (R.vol n)
    rw [n] at q; cases q
theorem RepS.noOwn (R : RepS K c B tp σ H env ta) {a : Addr} (n : H a = none) (i : Nat) : ¬ OwnAt env σ i a := by
  rintro ⟨⟨s, e, so⟩, e2⟩
  have q := R.slot i _ e
  cases s with
  | own ds =>
    obtain ⟨b, ys, e1, e3, _⟩ := q
    rw [e1] at e2
    cases e2
    rw [n] at e3; cases e3
  | dic ds =>
    obtain ⟨b, ys, e1, e3, _⟩ := q
    rw [e1] at e2
    cases e2
    rw [n] at e3; cases e3
  | _ => exact so.elim
end
def escE (f : Ev) : Ev := bindE f fun x => match x with
  | .val d => fun _ t => some (.ok (.val d), t)
  | .own ds => fun _ t => some (.ok (.val (.lst ds)), t)
  | .tape => fun _ t => some (.ok .tape, t)
  | _ => fun _ _ => none
section
variable {X : Cx} {c : Ct} {W : WX} {e : Expr} {es : List Expr} {f : Ev} {fs : List Ev} {pos : Pos}
theorem v_esc (h : PEv X c W e f) : PEv X c W e (escE f) := by
  refine ⟨⟨fun pins s σ H Q I w => ?_⟩⟩
  obtain ⟨B, tp, env, ta, RS, hh⟩ := w
  refine thn (h.pe.run pins s σ H (fun v H1 => Q v H1 ∨ ∃ a xs, v = .ref a ∧ H1 a = some (.lst xs) ∧ ∀ o, Q v (upd H1 a (.frz o (.lst xs)))) I
    (tE_bind RS hh fun r t v H1 R1 K1 V1 h1 => ?_)) fun u s1 ⟨v, H1, I1, r1, q⟩ => ?_
  · split at h1
    · exact .inl (EPost.val R1 (h1.later K1) V1)
    · obtain ⟨a, xs, rfl, n, nv, hl, r⟩ := V1
      refine .inr ⟨a, xs, rfl, hl, fun o => ?_⟩
      exact h1 _ _ (R1.frz hl nv (RS.noOwn n) (RS.noB n)) (K1.frz hl n) (Rep.lst (.inl ⟨o, upd_same⟩) (r.st (stab_lst hl)))
    · exact .inl (EPost.val R1 (h1.later K1) V1)
    · exact h1.elim
  · rcases q with q | ⟨a, xs, rfl, hl, q⟩
    · exact ⟨v, H1, I1, r1, q⟩
    · obtain ⟨od, I2⟩ := I1.lock hl trivial
      exact ⟨_, _, I2, r1, q od⟩
end

/-! ### calls of the text's own defs -/
abbrev Fn := List Sl → TapeO → Option (Except Str Sl × TapeO)
def Sl.arg? : Sl → Bool
  | .val _ => true
  | .tape => true
  | _ => false
def FPost (K : PySem.W.Frag) (c : Ct) (tp : Option Addr) (H : Hp) (r : Option (Except Str Sl × TapeO)) (Q : VK) (E : XK) : Prop :=
  match r with
  | none => False
  | some (.ok z, ta') => ∀ v H', Kp c tp H H' → TapeR K H' tp ta' → LamX.Tabs c.T H' → RepV K c tp H H' v z → Q v H'
  | some (.error x, ta') => ∀ cls d H', Kp c tp H H' → TapeR K H' tp ta' → LamX.Tabs c.T H' → ErrIs c H' cls d x → E cls d H'
def FSp (K : PySem.W.Frag) (c : Ct) (n : Nat) (Φ : Fn) : Sp := fun vs H Q E => vs.length = n ∧ ∃ tp args ta, RepVs K c tp H H vs args ∧ args.all Sl.arg? = true ∧ TapeR K H tp ta ∧ LamX.Tabs c.T H ∧ FPost K c tp H (Φ args ta) Q E
def callF (Φ : Fn) (fs : List Ev) : Ev := fun env ta => match evs fs env ta with
  | none => none
  | some (.error x, t) => some (.error x, t)
  | some (.ok rs, t) => if rs.all Sl.arg? = true then Φ rs t else none
section
variable {K : PySem.W.Frag} {c : Ct} {tp : Option Addr} {H H0 H1 B : Hp} {σ : L2.St} {env : SE} {ta ta' : TapeO}
theorem RepS.kp (R : RepS K c B tp σ H env ta) (k : Kp c tp H H1) (t : TapeR K H1 tp ta') (tb : LamX.Tabs c.T H1) : RepS K c B tp σ H1 env ta' where
  len := R.len
  slot := fun i sl e => by
    have q := R.slot i sl e
    cases sl with
    | un => exact q
    | val d => obtain ⟨v, e1, r⟩ := q; exact ⟨v, e1, r.st k.st⟩
    | own ds => obtain ⟨a, xs, e1, e2, r⟩ := q; exact ⟨a, xs, e1, k.kp _ _ e2 (R.fresh i a ⟨⟨_, e, trivial⟩, e1⟩).2, r.st k.st⟩
    | bor _ => exact q
    | tape => exact q
    | dic ds => obtain ⟨a, xs, e1, e2, r⟩ := q; exact ⟨a, xs, e1, k.kp _ _ e2 (R.fresh i a ⟨⟨_, e, trivial⟩, e1⟩).2, r.st k.st⟩
    | bdc _ => exact q
  fresh := R.fresh
  dist := R.dist
  tape := t
  tabs := tb
  keep := fun a o e n => k.kp _ _ (R.keep a o e n) n
  stab := R.stab.trans k.st
theorem RepVs.args : ∀ {vs : List V} {xs : List Sl}, RepVs K c tp H0 H vs xs → xs.all Sl.arg? = true → RepVs K c tp H1 H vs xs
  | _, _, .nil, _ => .nil
  | _, _, .cons (x := x) r t, e => by
    simp only [List.all_cons, Bool.and_eq_true] at e
    refine .cons ?_ (t.args e.2)
    cases x with
    | val d => exact r
    | tape => exact r
    | _ => cases e.1
end
section
variable {X : Cx} {c : Ct} {W : WX} {e : Expr} {es : List Expr} {f : Ev} {fs : List Ev} {x : Str} {p pos : Pos} {k n : Nat} {g : Addr} {fd : FuncData} {ps : List Str} {Φ : Fn}
theorem v_call (F : FnOk X.prog X.w X.K X.mg X.base (L2.CX X.prog X.w) k g fd ps (FSp X.K c n Φ)) (tk : Takes X W) (hr : Room k X.A) (hm : X.mg x = some (.ref g)) (hk : PySem.W.keepIn X.K (.ref g) = true) (hb : Binds X.K fd ps []) (ha : PAv X c W (e :: es) fs)
    (hn : fs.length = n := by rfl) (hg : Gl X x := by rfl) (hdb : (x == ("__debug__" : Str)) = false := by decide) (he : starEach (e :: es) X.env = (false, eval e X.env) :: starEach es X.env := by rfl) (hpl : (backTo pos (starEach es X.env)).any (·.1) = false := by rfl) :
    PEv X c W (.Call (.Name x p) (e :: es) [] pos) (callF Φ fs) := by
  refine ⟨pe_mono (pe_callS F hr hg hm hk hb (fun σ => passAt tk σ) ha.pa hdb he hpl) ?_⟩
  rintro σ H Q ⟨B, tp, env, ta, RS, h⟩
  refine ⟨B, tp, env, ta, RS, ?_⟩
  unfold callF at h
  cases q : evs fs env ta with
  | none => rw [q] at h; exact h
  | some p =>
    obtain ⟨rs, t⟩ := p
    rw [q] at h
    cases rs with
    | error x => exact h
    | ok rs =>
      dsimp only at h
      intro vs H1 R1 K1 VS
      split at h
      · rename_i hall
        refine ⟨by rw [VS.length, evs_length q, hn], tp, rs, t, VS.args hall, hall, R1.tape, R1.tabs, ?_⟩
        have h2 := h.later K1
        cases e2 : Φ rs t with
        | none => rw [e2] at h2; exact h2
        | some p =>
          obtain ⟨r, t'⟩ := p
          rw [e2] at h2
          cases r with
          | error x => exact fun cls d H' K' T' B' er => h2 cls d H' (R1.kp K' T' B') K' er
          | ok z => exact fun v H' K' T' B' V' => h2 v H' (R1.kp K' T' B') K' V'
      · exact h.elim
end

/-! ### statements -/
inductive Fl where
  | nx | bk | ct | rt (r : Sl) | ex (x : Str)
abbrev Cs := SE → TapeO → Option (Fl × SE × TapeO)
def tpLe (tp tp' : Option Addr) : Prop := tp = none ∨ tp' = tp
theorem tpLe.refl (tp : Option Addr) : tpLe tp tp := .inr rfl
theorem tpLe.trans {a b d : Option Addr} (h : tpLe a b) (h' : tpLe b d) : tpLe a d := by
  rcases h with h | h
  · exact .inl h
  · subst h; exact h'
def SPost (K : PySem.W.Frag) (c : Ct) (W : WX) (B : Hp) (tp : Option Addr) (H : Hp) (D : Ends) (r : Option (Fl × SE × TapeO)) : Prop :=
  match r with
  | none => False
  | some (.nx, env, ta) => ∀ tp' σ' H', tpLe tp tp' → Stab H H' → RepS K c B tp' σ' H' env ta → D.nx σ' H'
  | some (.bk, env, ta) => ∀ tp' σ' H', tpLe tp tp' → Stab H H' → RepS K c B tp' σ' H' env ta → D.bk σ' H'
  | some (.ct, env, ta) => ∀ tp' σ' H', tpLe tp tp' → Stab H H' → RepS K c B tp' σ' H' env ta → D.ct σ' H'
  | some (.rt z, env, ta) => ∀ tp' σ' H' v, tpLe tp tp' → Stab H H' → RepS K c B tp' σ' H' env ta → RepV K c tp' B H' v z → D.rt v H'
  | some (.ex x, env, ta) => ∀ tp' σ' H' cls d, tpLe tp tp' → Stab H H' → RepS K c B tp' σ' H' env ta → ErrIs c H' cls d x → W cls d σ' H'
def tSs (K : PySem.W.Frag) (c : Ct) (W : WX) (f : Cs) : TS := fun D σ H => ∃ B tp env ta, RepS K c B tp σ H env ta ∧ SPost K c W B tp H D (f env ta)
structure PSv (X : Cx) (c : Ct) (W : WX) (st : Stmt) (f : Cs) : Prop where
  ps : PS X st (tSs X.K c W f)
structure PSsv (X : Cx) (c : Ct) (W : WX) (st : List Stmt) (f : Cs) : Prop where
  ps : PSs X st (tSs X.K c W f)
def skipC : Cs := fun env ta => some (.nx, env, ta)
def breakC : Cs := fun env ta => some (.bk, env, ta)
def contC : Cs := fun env ta => some (.ct, env, ta)
def seqC (f g : Cs) : Cs := fun env ta => match f env ta with
  | some (.nx, env', ta') => g env' ta'
  | r => r
theorem SPost.le {K : PySem.W.Frag} {c : Ct} {W : WX} {B : Hp} {tp tp' : Option Addr} {H H1 : Hp} {D : Ends} {r : Option (Fl × SE × TapeO)} (h : SPost K c W B tp H D r) (l : tpLe tp tp') (s : Stab H H1) : SPost K c W B tp' H1 D r := by
  cases r with
  | none => exact h
  | some p =>
    obtain ⟨fl, env, ta⟩ := p
    cases fl with
    | nx => exact fun tp2 σ' H' l2 s2 R => h tp2 σ' H' (l.trans l2) (s.trans s2) R
    | bk => exact fun tp2 σ' H' l2 s2 R => h tp2 σ' H' (l.trans l2) (s.trans s2) R
    | ct => exact fun tp2 σ' H' l2 s2 R => h tp2 σ' H' (l.trans l2) (s.trans s2) R
    | rt z => exact fun tp2 σ' H' v l2 s2 R V => h tp2 σ' H' v (l.trans l2) (s.trans s2) R V
    | ex x => exact fun tp2 σ' H' cls d l2 s2 R e => h tp2 σ' H' cls d (l.trans l2) (s.trans s2) R e
section
variable {X : Cx} {c : Ct} {W : WX} {st : Stmt} {rest : List Stmt} {e : Expr} {f g : Cs} {fe : Ev} {t : Tv} {pos : Pos}
theorem ss_nil : PSsv X c W [] skipC := by
  refine ⟨pss_mono L2.pss_nil ?_⟩
  rintro D σ H ⟨B, tp, env, ta, RS, h⟩
  exact h tp σ H (.refl _) (.refl _) RS
theorem ss_cons (h1 : PSv X c W st f) (h2 : PSsv X c W rest g) : PSsv X c W (st :: rest) (seqC f g) := by
  refine ⟨pss_mono (L2.pss_cons h1.ps h2.ps) ?_⟩
  rintro D σ H ⟨B, tp, env, ta, RS, h⟩
  refine ⟨B, tp, env, ta, RS, ?_⟩
  unfold seqC at h
  cases q : f env ta with
  | none => rw [q] at h; exact h
  | some p =>
    obtain ⟨fl, env', ta'⟩ := p
    rw [q] at h
    cases fl with
    | nx => exact fun tp' σ' H' l s R' => ⟨B, tp', env', ta', R', h.le l s⟩
    | _ => exact h
theorem ss_one (h1 : PSv X c W st f) : PSsv X c W [st] f := ⟨L2.pss_one h1.ps⟩
theorem s_pass : PSv X c W (.Pass pos) skipC := by
  refine ⟨ps_mono L2.ps_pass ?_⟩
  rintro D σ H ⟨B, tp, env, ta, RS, h⟩
  exact h tp σ H (.refl _) (.refl _) RS
theorem s_break : PSv X c W (.Break pos) breakC := by
  refine ⟨ps_mono L2.ps_break ?_⟩
  rintro D σ H ⟨B, tp, env, ta, RS, h⟩
  exact h tp σ H (.refl _) (.refl _) RS
theorem s_cont : PSv X c W (.Continue pos) contC := by
  refine ⟨ps_mono L2.ps_continue ?_⟩
  rintro D σ H ⟨B, tp, env, ta, RS, h⟩
  exact h tp σ H (.refl _) (.refl _) RS
theorem s_doc {x j pos pos'} : PSv X c W (.Expr (.Constant (.str x) j pos) pos') skipC := by
  refine ⟨ps_mono L2.ps_doc ?_⟩
  rintro D σ H ⟨B, tp, env, ta, RS, h⟩
  exact h tp σ H (.refl _) (.refl _) RS
end
/-! a value, then a statement's end -/
def onE (f : Ev) (k : Sl → Cs) : Cs := fun env ta => match f env ta with
  | none => none
  | some (.error x, t) => some (.ex x, env, t)
  | some (.ok r, t) => k r env t
theorem on_of {K : PySem.W.Frag} {c : Ct} {W : WX} {f : Ev} {k : Sl → Cs} {B : Hp} {tp : Option Addr} {σ : L2.St} {H : Hp} {env : SE} {ta : TapeO} {D : Ends} {R : VK} (RS : RepS K c B tp σ H env ta) (h : SPost K c W B tp H D (onE f k env ta))
    (go : ∀ r t v H1, RepS K c B tp σ H1 env t → Kp c tp H H1 → RepV K c tp H H1 v r → SPost K c W B tp H D (k r env t) → R v H1) : tE K c W f σ H R := by
  refine ⟨B, tp, env, ta, RS, ?_⟩
  unfold onE at h
  cases e : f env ta with
  | none => rw [e] at h; exact h
  | some p =>
    obtain ⟨r, t⟩ := p
    rw [e] at h
    cases r with
    | error x => exact fun cls d H' R' K' er => h tp σ H' cls d (.refl _) K'.st R' er
    | ok r => exact fun v H1 R1 K1 V1 => go r t v H1 R1 K1 V1 h
def Sl.store? : Sl → Option Sl
  | .val d => some (.val d)
  | .own ds => some (.own ds)
  | .tape => some .tape
  | .dic ds => some (.dic ds)
  | _ => none
def asgC (i : Nat) (f : Ev) : Cs := onE f fun r env t => r.store?.map fun s => (.nx, env.set i s, t)
def retC (f : Ev) : Cs := onE f fun r env t => r.store?.map fun s => (.rt s, env, t)
def retNC : Cs := fun env ta => some (.rt (.val .non), env, ta)
/-- return x, x a name -/
def retVC (i : Nat) : Cs := fun env ta => match env[i]? with
  | some (.val d) => some (.rt (.val d), env, ta)
  | some (.own ds) => some (.rt (.own ds), env, ta)
  | some .tape => some (.rt .tape, env, ta)
  | some (.dic ds) => some (.rt (.dic ds), env, ta)
  | _ => none
def dropC (f : Ev) : Cs := onE f fun _ env t => some (.nx, env, t)
def ifC (t : Tv) (f g : Cs) : Cs := fun env ta => match t env ta with
  | none => none
  | some (.error x, ta') => some (.ex x, env, ta')
  | some (.ok true, ta') => f env ta'
  | some (.ok false, ta') => g env ta'
section
variable {K : PySem.W.Frag} {c : Ct} {tp : Option Addr} {H H0 H1 B : Hp} {σ : L2.St} {env : SE} {ta ta' : TapeO}
theorem RepS.store {i : Nat} {v : V} {r s : Sl} (R0 : RepS K c B tp σ H0 env ta) (R : RepS K c B tp σ H env ta') (V : RepV K c tp H0 H v r) (e : r.store? = some s) : RepS K c B tp (σ.set i (some v)) H (env.set i s) ta' where
  len := by rw [List.length_set, List.length_set]; exact R.len
  slot := fun j sl e1 => by
    by_cases hj : i = j
    · subst hj
      have hi : i < env.length := by
        have := (List.getElem?_eq_some_iff.mp e1).1
        rwa [List.length_set] at this
      rw [List.getElem?_set_self hi] at e1
      cases e1
      have hs : (σ.set i (some v))[i]? = some (some v) := List.getElem?_set_self (by rw [← R.len]; exact hi)
      cases r with
      | val d => cases e; exact ⟨v, hs, V⟩
      | own ds => cases e; obtain ⟨a, xs, rfl, n, nv, hl, rr⟩ := V; exact ⟨a, xs, hs, hl, rr⟩
      | dic ds => cases e; obtain ⟨a, xs, rfl, n, nv, hl, rr⟩ := V; exact ⟨a, xs, hs, hl, rr⟩
      | tape => cases e; obtain ⟨a, e2, rfl⟩ := V; exact ⟨a, e2, hs⟩
      | _ => cases e
    · rw [List.getElem?_set_ne hj] at e1
      have q := R.slot j sl e1
      cases sl with
      | un => trivial
      | val d => obtain ⟨w, e2, rr⟩ := q; exact ⟨w, by rw [List.getElem?_set_ne hj]; exact e2, rr⟩
      | own ds => obtain ⟨a, xs, e2, rr⟩ := q; exact ⟨a, xs, by rw [List.getElem?_set_ne hj]; exact e2, rr⟩
      | bor _ => exact q
      | tape => obtain ⟨a, e2, e3⟩ := q; exact ⟨a, e2, by rw [List.getElem?_set_ne hj]; exact e3⟩
      | dic ds => obtain ⟨a, xs, e2, rr⟩ := q; exact ⟨a, xs, by rw [List.getElem?_set_ne hj]; exact e2, rr⟩
      | bdc _ => exact q
  fresh := fun j a o => by
    obtain ⟨⟨ds, e1, so⟩, e2⟩ := o
    by_cases hj : i = j
    · subst hj
      have hi : i < env.length := by
        have := (List.getElem?_eq_some_iff.mp e1).1
        rwa [List.length_set] at this
      rw [List.getElem?_set_self hi] at e1
      rw [List.getElem?_set_self (by rw [← R.len]; exact hi)] at e2
      cases e1
      cases e2
      cases r with
      | own es => cases e; obtain ⟨b, xs, eb, n, nv, hl, rr⟩ := V; cases eb; exact ⟨R0.noB n, nv⟩
      | dic es => cases e; obtain ⟨b, xs, eb, n, nv, hl, rr⟩ := V; cases eb; exact ⟨R0.noB n, nv⟩
      | val d => cases e; exact so.elim
      | tape => cases e; exact so.elim
      | _ => cases e
    · rw [List.getElem?_set_ne hj] at e1 e2
      exact R.fresh j a ⟨⟨ds, e1, so⟩, e2⟩
  dist := fun j1 j2 a o1 o2 => by
    have key : ∀ j, OwnAt (env.set i s) (σ.set i (some v)) j a → (i = j ∧ H0 a = none) ∨ (i ≠ j ∧ OwnAt env σ j a) := fun j o => by
      obtain ⟨⟨ds, e1, so⟩, e2⟩ := o
      by_cases hj : i = j
      · subst hj
        have hi : i < env.length := by
          have := (List.getElem?_eq_some_iff.mp e1).1
          rwa [List.length_set] at this
        rw [List.getElem?_set_self hi] at e1
        rw [List.getElem?_set_self (by rw [← R.len]; exact hi)] at e2
        cases e1
        cases e2
        cases r with
        | own es => cases e; obtain ⟨b, xs, eb, n, nv, hl, rr⟩ := V; cases eb; exact .inl ⟨rfl, n⟩
        | dic es => cases e; obtain ⟨b, xs, eb, n, nv, hl, rr⟩ := V; cases eb; exact .inl ⟨rfl, n⟩
        | val d => cases e; exact so.elim
        | tape => cases e; exact so.elim
        | _ => cases e
      · rw [List.getElem?_set_ne hj] at e1 e2
        exact .inr ⟨hj, ⟨ds, e1, so⟩, e2⟩
    rcases key j1 o1 with ⟨h1, n1⟩ | ⟨h1, q1⟩
    · rcases key j2 o2 with ⟨h2, n2⟩ | ⟨h2, q2⟩
      · rw [← h1, ← h2]
      · exact (R0.noOwn n1 j2 q2).elim
    · rcases key j2 o2 with ⟨h2, n2⟩ | ⟨h2, q2⟩
      · exact (R0.noOwn n2 j1 q1).elim
      · exact R.dist j1 j2 a q1 q2
  tape := R.tape
  tabs := R.tabs
  keep := R.keep
  stab := R.stab
theorem RepV.out {v : V} {r s : Sl} (V : RepV K c tp H0 H v r) (e : r.store? = some s) (hB : ∀ a, H0 a = none → B a = none) : RepV K c tp B H v s := by
  cases r with
  | val d => cases e; exact V
  | own ds => cases e; obtain ⟨a, xs, rfl, n, nv, hl, rr⟩ := V; exact ⟨a, xs, rfl, hB a n, nv, hl, rr⟩
  | tape => cases e; exact V
  | dic ds => cases e; obtain ⟨a, xs, rfl, n, nv, hl, rr⟩ := V; exact ⟨a, xs, rfl, hB a n, nv, hl, rr⟩
  | _ => cases e
end
section
variable {X : Cx} {c : Ct} {W : WX} {st : Stmt} {rest : List Stmt} {e : Expr} {es : List Stmt} {f g : Cs} {fe : Ev} {t : Tv} {pos : Pos}
/-- x = e -/
theorem s_asg {i : Nat} {x : Str} {pos' : Pos} (hN : X.N.Nodup) (he : PEv X c W e fe) (hi : X.N[i]? = some x := by rfl) (hx : Loc X.env.scope x := by first | exact Or.inl rfl | exact Or.inr rfl) (hs : swapsWith e (some (.Name x pos')) pos.line X.env = pure false := by rfl)
    (hf : X.fn x = true ∨ X.env.scope.names.lookup x = some .local := by first | exact .inl rfl | exact .inr rfl | assumption) : PSv X c W (.Assign [.Name x pos'] e pos) (asgC i fe) := by
  refine ⟨ps_mono (ps_set hN hi hx he.pe hs hf) ?_⟩
  rintro D σ H ⟨B, tp, env, ta, RS, h⟩
  refine on_of RS h fun r t v H1 R1 K1 V1 h1 => ?_
  cases es : r.store? with
  | none => rw [es] at h1; exact h1.elim
  | some s => rw [es] at h1; exact h1 tp _ H1 (.refl _) K1.st (RepS.store RS R1 V1 es)
theorem s_ret (he : PEv X c W e fe) : PSv X c W (.Return (some e) pos) (retC fe) := by
  refine ⟨ps_mono (L2.ps_ret he.pe) ?_⟩
  rintro D σ H ⟨B, tp, env, ta, RS, h⟩
  refine on_of RS h fun r t v H1 R1 K1 V1 h1 => ?_
  cases es : r.store? with
  | none => rw [es] at h1; exact h1.elim
  | some s => rw [es] at h1; exact h1 tp σ H1 v (.refl _) K1.st R1 (V1.out es fun a n => RS.noB n)
theorem s_retN : PSv X c W (.Return none pos) retNC := by
  refine ⟨ps_mono L2.ps_retN ?_⟩
  rintro D σ H ⟨B, tp, env, ta, RS, h⟩
  exact h tp σ H .non (.refl _) (.refl _) RS Rep.non
theorem s_retV {i : Nat} {x : Str} {p : Pos} (hN : X.N[i]? = some x := by rfl) (hv : Vis X.env.scope x := by first | exact Or.inl rfl | exact Or.inr (Or.inl rfl) | exact Or.inr (Or.inr rfl))
    (hd : (x == ("__debug__" : Str)) = false := by decide) (hcd : (x == ("__classdict__" : Str)) = false := by decide) : PSv X c W (.Return (some (.Name x p)) pos) (retVC i) := by
  refine ⟨ps_mono (L2.ps_ret (pe_var hN hv hd hcd)) ?_⟩
  rintro D σ H ⟨B, tp, env, ta, RS, h⟩
  unfold retVC at h
  cases e : env[i]? with
  | none => rw [e] at h; exact h.elim
  | some s =>
    rw [e] at h
    have q := RS.slot i s e
    cases s with
    | un => exact h.elim
    | val d => obtain ⟨v, e1, r⟩ := q; exact ⟨v, e1, h tp σ H v (.refl _) (.refl _) RS r⟩
    | own ds =>
      obtain ⟨a, xs, e1, e2, r⟩ := q
      have fr := RS.fresh i a ⟨⟨_, e, trivial⟩, e1⟩
      exact ⟨_, e1, h tp σ H _ (.refl _) (.refl _) RS ⟨a, xs, rfl, fr.1, fr.2, e2, r⟩⟩
    | bor _ => exact h.elim
    | tape => obtain ⟨a, e1, e2⟩ := q; exact ⟨_, e2, h tp σ H _ (.refl _) (.refl _) RS ⟨a, e1, rfl⟩⟩
    | dic ds =>
      obtain ⟨a, xs, e1, e2, r⟩ := q
      have fr := RS.fresh i a ⟨⟨_, e, trivial⟩, e1⟩
      exact ⟨_, e1, h tp σ H _ (.refl _) (.refl _) RS ⟨a, xs, rfl, fr.1, fr.2, e2, r⟩⟩
    | bdc _ => exact h.elim
theorem s_drop (he : PEv X c W e fe) (hs : swapsWith e none pos.line X.env = pure false := by rfl) : PSv X c W (.Expr e pos) (dropC fe) := by
  refine ⟨ps_mono (L2.ps_expr he.pe hs) ?_⟩
  rintro D σ H ⟨B, tp, env, ta, RS, h⟩
  exact on_of RS h fun r t v H1 R1 K1 V1 h1 => h1 tp σ H1 (.refl _) K1.st R1
theorem s_if {cnd : Expr} {a b : List Stmt} (hc : PTv X c W cnd t) (ha : PSsv X c W a f) (hb : PSsv X c W b g) : PSv X c W (.If cnd a b pos) (ifC t f g) := by
  refine ⟨ps_mono (L2.ps_if hc.pt ha.ps hb.ps) ?_⟩
  rintro D σ H ⟨B, tp, env, ta, RS, h⟩
  refine ⟨B, tp, env, ta, RS, ?_⟩
  unfold ifC at h
  cases e : t env ta with
  | none => rw [e] at h; exact h
  | some p =>
    obtain ⟨r, t'⟩ := p
    rw [e] at h
    cases r with
    | error x => exact fun cls d H' R' K' er => h tp σ H' cls d (.refl _) K'.st R' er
    | ok b =>
      intro H1 R1 K1
      cases b with
      | true => rw [if_pos rfl]; exact ⟨B, tp, env, t', R1, h.le (.refl _) K1.st⟩
      | false => rw [if_neg Bool.false_ne_true]; exact ⟨B, tp, env, t', R1, h.le (.refl _) K1.st⟩
/-- a statement that is never reached -/
def neverC : Cs := fun _ _ => none
theorem s_never : PSv X c W st neverC := by
  refine ⟨ps_mono L2.ps_never ?_⟩
  rintro D σ H ⟨B, tp, env, ta, RS, h⟩
  exact h
theorem ss_never {sts : List Stmt} : PSsv X c W sts neverC := by
  refine ⟨pss_mono L2.pss_never ?_⟩
  rintro D σ H ⟨B, tp, env, ta, RS, h⟩
  exact h
end
end MP

/-! MPf: lists that change; while; for; comprehensions; raise; whole defs. -/
namespace MP
open PySem PySem.Spec PyProof.Rows L2
section
variable {K : PySem.W.Frag} {c : Ct} {tp : Option Addr} {H H0 H1 B : Hp} {σ : L2.St} {env : SE} {ta ta' : TapeO}
/-- the frame's own list at slot i is changed -/
theorem RepS.mut {i : Nat} {a : Addr} {xs ys : List V} {ds es : List D} (R : RepS K c B tp σ H env ta) (ei : env[i]? = some (.own ds)) (ea : σ[i]? = some (some (.ref a))) (h : H a = some (.lst xs)) (r : Reps K H ys es) :
    RepS K c B tp σ (upd H a (.lst ys)) (env.set i (.own es)) ta := by
  have hi : i < env.length := (List.getElem?_eq_some_iff.mp ei).1
  have own : ∀ j b, OwnAt (env.set i (.own es)) σ j b → OwnAt env σ j b := fun j b o => by
    obtain ⟨⟨fs, e1, so⟩, e2⟩ := o
    by_cases hj : i = j
    · subst hj; exact ⟨⟨_, ei, trivial⟩, e2⟩
    · rw [List.getElem?_set_ne hj] at e1; exact ⟨⟨fs, e1, so⟩, e2⟩
  have fr := R.fresh i a ⟨⟨_, ei, trivial⟩, ea⟩
  refine ⟨by rw [List.length_set]; exact R.len, fun j sl e1 => ?_, fun j b o => R.fresh j b (own j b o), fun j1 j2 b o1 o2 => R.dist j1 j2 b (own _ _ o1) (own _ _ o2), R.tape.upd h fun z => fr.2 (.inl z), Tabs.upd R.tabs h, fun b u e n => ?_, R.stab.trans (stab_lst h)⟩
  · by_cases hj : i = j
    · subst hj
      rw [List.getElem?_set_self hi] at e1
      cases e1
      exact ⟨a, ys, ea, upd_same, r.st (stab_lst h)⟩
    · rw [List.getElem?_set_ne hj] at e1
      have q := R.slot j sl e1
      cases sl with
      | un => exact q
      | val d => obtain ⟨v, e2, rr⟩ := q; exact ⟨v, e2, rr.st (stab_lst h)⟩
      | own fs =>
        obtain ⟨b, zs, e2, e3, rr⟩ := q
        have hb : b ≠ a := fun z => hj (R.dist i j a ⟨⟨_, ei, trivial⟩, ea⟩ ⟨⟨_, e1, trivial⟩, by rw [← z]; exact e2⟩)
        exact ⟨b, zs, e2, by rw [upd_ne hb]; exact e3, rr.st (stab_lst h)⟩
      | bor _ => exact q
      | tape => exact q
      | dic fs =>
        obtain ⟨b, zs, e2, e3, rr⟩ := q
        exact ⟨b, zs, e2, by rw [upd_ne (fun z => by rw [z, h] at e3; cases e3)]; exact e3, rr.st (stab_lst h)⟩
      | bdc _ => exact q
  · rw [upd_ne (fun z => by rw [z, fr.1] at e; cases e)]; exact R.keep b u e n
/-- .. frozen -/
theorem RepS.frzAt {i : Nat} {a : Addr} {xs : List V} {ds : List D} {o : Obj} (R : RepS K c B tp σ H env ta) (ei : env[i]? = some (.own ds)) (ea : σ[i]? = some (some (.ref a))) (h : H a = some (.lst xs)) (r : Reps K H xs ds) :
    RepS K c B tp σ (upd H a (.frz o (.lst xs))) (env.set i (.val (.lst ds))) ta := by
  have hi : i < env.length := (List.getElem?_eq_some_iff.mp ei).1
  have own : ∀ j b, OwnAt (env.set i (.val (.lst ds))) σ j b → i ≠ j ∧ OwnAt env σ j b := fun j b o => by
    obtain ⟨⟨fs, e1, so⟩, e2⟩ := o
    by_cases hj : i = j
    · subst hj; rw [List.getElem?_set_self hi] at e1; cases e1; exact so.elim
    · rw [List.getElem?_set_ne hj] at e1; exact ⟨hj, ⟨fs, e1, so⟩, e2⟩
  have fr := R.fresh i a ⟨⟨_, ei, trivial⟩, ea⟩
  refine ⟨by rw [List.length_set]; exact R.len, fun j sl e1 => ?_, fun j b o => R.fresh j b (own j b o).2, fun j1 j2 b o1 o2 => R.dist j1 j2 b (own _ _ o1).2 (own _ _ o2).2, R.tape.upd h fun z => fr.2 (.inl z), Tabs.upd R.tabs h, fun b u e n => ?_, R.stab.trans (stab_lst h)⟩
  · by_cases hj : i = j
    · subst hj
      rw [List.getElem?_set_self hi] at e1
      cases e1
      exact ⟨_, ea, Rep.lst (.inl ⟨o, upd_same⟩) (r.st (stab_lst h))⟩
    · rw [List.getElem?_set_ne hj] at e1
      have q := R.slot j sl e1
      cases sl with
      | un => exact q
      | val d => obtain ⟨v, e2, rr⟩ := q; exact ⟨v, e2, rr.st (stab_lst h)⟩
      | own fs =>
        obtain ⟨b, zs, e2, e3, rr⟩ := q
        have hb : b ≠ a := fun z => hj (R.dist i j a ⟨⟨_, ei, trivial⟩, ea⟩ ⟨⟨_, e1, trivial⟩, by rw [← z]; exact e2⟩)
        exact ⟨b, zs, e2, by rw [upd_ne hb]; exact e3, rr.st (stab_lst h)⟩
      | bor _ => exact q
      | tape => exact q
      | dic fs =>
        obtain ⟨b, zs, e2, e3, rr⟩ := q
        exact ⟨b, zs, e2, by rw [upd_ne (fun z => by rw [z, h] at e3; cases e3)]; exact e3, rr.st (stab_lst h)⟩
      | bdc _ => exact q
  · rw [upd_ne (fun z => by rw [z, fr.1] at e; cases e)]; exact R.keep b u e n
theorem RepS.ownAt {i : Nat} {ds : List D} (R : RepS K c B tp σ H env ta) (ei : env[i]? = some (.own ds)) : ∃ a xs, σ[i]? = some (some (.ref a)) ∧ H a = some (.lst xs) ∧ Reps K H xs ds := R.slot i _ ei
end
def frzC (i : Nat) : Cs := fun env ta => match env[i]? with
  | some (.own ds) => some (.nx, env.set i (.val (.lst ds)), ta)
  | some s => some (.nx, env, ta)
  | none => none
def appC (i : Nat) (f : Ev) : Cs := fun env ta => match env[i]? with
  | some (.own ds) => onE f (fun r env t => match r with
    | .val d => if ds.length < LIM then some (.nx, env.set i (.own (ds ++ [d])), t) else none
    | _ => none) env ta
  | _ => none
def popOf (i j : Nat) (ds : List D) (k : Int) (env : SE) (t : TapeO) : Option (Fl × SE × TapeO) :=
  if ds.length ≤ LIM then (match ixN ds.length k with
    | some m => (ds[m]?).map fun d => (.nx, (env.set i (.own (ds.eraseIdx m))).set j (.val d), t)
    | none => none) else none
/-- y = x.pop(k): x slot i, y slot j -/
def popAtC (i j : Nat) (f : Ev) : Cs := fun env ta => match env[i]? with
  | some (.own ds) => onE f (fun r env t => match r with
    | .val (.int k) => popOf i j ds k env t
    | _ => none) env ta
  | _ => none
/-- x.append(y.pop(k)): x slot i, y slot j -/
def appPopC (i j : Nat) (f : Ev) : Cs := fun env ta => match env[i]?, env[j]? with
  | some (.own ds), some (.own es) => onE f (fun r env t => match r with
    | .val (.int k) => if ds.length < LIM ∧ es.length ≤ LIM ∧ i ≠ j then (match ixN es.length k with
      | some m => (es[m]?).map fun d => (.nx, (env.set j (.own (es.eraseIdx m))).set i (.own (ds ++ [d])), t)
      | none => none) else none
    | _ => none) env ta
  | _, _ => none
/-- x[k] = e -/
def setC (i : Nat) (f g : Ev) : Cs := onE f fun r env t => match env[i]? with
  | some (.own ds) => onE g (fun q env t => match r, q with
    | .val d, .val (.int k) => (ixN ds.length k).map fun m => (.nx, env.set i (.own (ds.set m d)), t)
    | _, _ => none) env t
  | _ => none
section
variable {X : Cx} {c : Ct} {W : WX} {st : Stmt} {e k : Expr} {f g : Ev} {cs : Cs} {pos : Pos}
theorem s_frz {i : Nat} (h : PSv X c W st cs) : PSv X c W st (seqC (frzC i) cs) := by
  refine ⟨⟨fun pins s σ H D I w => ?_⟩⟩
  obtain ⟨B, tp, env, ta, RS, hh⟩ := w
  unfold seqC frzC at hh
  cases q : env[i]? with
  | none => rw [q] at hh; exact hh.elim
  | some sl =>
    rw [q] at hh
    have plain : SPost X.K c W B tp H D (cs env ta) → wpAny (model X.prog X.w) X.A (exec st X.env) (SP X pins D) X.xe s := fun hh => h.ps.run pins s σ H D I ⟨B, tp, env, ta, RS, hh⟩
    cases sl with
    | own ds =>
      obtain ⟨a, xs, ea, hl, r⟩ := RS.ownAt q
      obtain ⟨od, I2⟩ := I.lock hl trivial
      exact h.ps.run pins s σ _ D I2 ⟨B, tp, _, ta, RS.frzAt q ea hl r, SPost.le hh (.refl _) (stab_lst hl)⟩
    | un => exact plain hh
    | val d => exact plain hh
    | bor d => exact plain hh
    | tape => exact plain hh
    | dic _ => exact plain hh
    | bdc _ => exact plain hh
/-- x.append(e) -/
theorem s_app {i : Nat} {x : Str} {p apos cpos : Pos} (he : PEv X c W e f) (hN : X.N[i]? = some x := by rfl) (hv : Vis X.env.scope x := by first | exact Or.inl rfl | exact Or.inr (Or.inl rfl) | exact Or.inr (Or.inr rfl))
    (hd : (x == ("__debug__" : Str)) = false := by decide) (hcd : (x == ("__classdict__" : Str)) = false := by decide)
    (hbase : attributeBase (.Name x p) "append" X.env (eval (.Name x p) X.env) = eval (.Name x p) X.env := by rfl)
    (hfew : ((backTo cpos (starEach [e] X.env)).all (fun x => !x.1) && (backToKw cpos (keywordEach [] X.env)).all (fun x => x.1.isSome)
      && decide ([e].length + ([] : List Keyword).length + (if ([] : List Keyword).isEmpty then 0 else 1) < 30)) = true := by rfl)
    (hline : (apos.endLine == cpos.line) = true := by rfl) (hs : starEach [e] X.env = (false, eval e X.env) :: starEach [] X.env := by rfl)
    (hsw : swapsWith (.Call (.Attribute (.Name x p) "append" apos) [e] [] cpos) none pos.line X.env = pure false := by rfl) :
    PSv X c W (.Expr (.Call (.Attribute (.Name x p) "append" apos) [e] [] cpos) pos) (appC i f) := by
  refine ⟨ps_mono (L2.ps_expr (pe_bm PySem.F.plainAttrs_list PySem.F.slot_list_append PySem.F.type_list_append mt_append (pe_var hN hv hd hcd) (L2.pa_cons he.pe L2.pa_nil hs) hbase hfew hline hs rfl) hsw) ?_⟩
  rintro D σ H ⟨B, tp, env, ta, RS, h⟩
  unfold appC at h
  split at h
  · rename_i ds q
    obtain ⟨a, xs, ea, hl, r⟩ := RS.ownAt q
    refine ⟨_, ea, .inl ⟨rfl, xs, SqL.of hl⟩, on_of RS h fun z t v H1 R1 K1 V1 h1 => ?_⟩
    split at h1
    · rename_i d
      split at h1
      · rename_i hlt
        obtain ⟨a', ys, ea', hl', r'⟩ := R1.ownAt q
        rw [ea] at ea'
        cases ea'
        refine ⟨a, ys, v, rfl, rfl, hl', by rw [r'.length, sizeLine_eq]; exact hlt, ?_⟩
        exact h1 tp σ _ (.refl _) (K1.st.trans (stab_lst hl')) (R1.mut q ea hl' (r'.append (.cons V1 .nil)))
      · exact h1.elim
    · exact h1.elim
  · exact h.elim
/-- y = x.pop(k) -/
theorem s_popAt {i j : Nat} {x y : Str} {p py apos cpos : Pos} (hNd : X.N.Nodup) (he : PEv X c W e f) (hN : X.N[i]? = some x := by rfl) (hv : Vis X.env.scope x := by first | exact Or.inl rfl | exact Or.inr (Or.inl rfl) | exact Or.inr (Or.inr rfl))
    (hj : X.N[j]? = some y := by rfl) (hx : Loc X.env.scope y := by first | exact Or.inl rfl | exact Or.inr rfl)
    (hd : (x == ("__debug__" : Str)) = false := by decide) (hcd : (x == ("__classdict__" : Str)) = false := by decide)
    (hbase : attributeBase (.Name x p) "pop" X.env (eval (.Name x p) X.env) = eval (.Name x p) X.env := by rfl)
    (hfew : ((backTo cpos (starEach [e] X.env)).all (fun x => !x.1) && (backToKw cpos (keywordEach [] X.env)).all (fun x => x.1.isSome)
      && decide ([e].length + ([] : List Keyword).length + (if ([] : List Keyword).isEmpty then 0 else 1) < 30)) = true := by rfl)
    (hline : (apos.endLine == cpos.line) = true := by rfl) (hs : starEach [e] X.env = (false, eval e X.env) :: starEach [] X.env := by rfl)
    (hsw : swapsWith (.Call (.Attribute (.Name x p) "pop" apos) [e] [] cpos) (some (.Name y py)) pos.line X.env = pure false := by rfl)
    (hf : X.fn y = true ∨ X.env.scope.names.lookup y = some .local := by first | exact .inl rfl | exact .inr rfl | assumption) :
    PSv X c W (.Assign [.Name y py] (.Call (.Attribute (.Name x p) "pop" apos) [e] [] cpos) pos) (popAtC i j f) := by
  refine ⟨ps_mono (ps_set hNd hj hx (pe_bm PySem.F.plainAttrs_list PySem.F.slot_list_pop PySem.F.type_list_pop mt_popAt (pe_var hN hv hd hcd) (L2.pa_cons he.pe L2.pa_nil hs) hbase hfew hline hs rfl) hsw hf) ?_⟩
  rintro D σ H ⟨B, tp, env, ta, RS, h⟩
  unfold popAtC at h
  split at h
  · rename_i ds q
    obtain ⟨a, xs, ea, hl, r⟩ := RS.ownAt q
    refine ⟨_, ea, .inl ⟨rfl, xs, SqL.of hl⟩, on_of RS h fun z t v H1 R1 K1 V1 h1 => ?_⟩
    split at h1
    · rename_i k
      unfold popOf at h1
      split at h1
      · rename_i hlim
        split at h1
        · rename_i m hm
          cases ed : ds[m]? with
          | none => rw [ed] at h1; exact h1.elim
          | some d =>
            rw [ed] at h1
            obtain ⟨a', ys, ea', hl', r'⟩ := R1.ownAt q
            rw [ea] at ea'
            cases ea'
            obtain ⟨w, hw, rw'⟩ := r'.get ed
            obtain ⟨h5, h6, h7, h8⟩ := ixN_seq hm
            have hb : (ds.length : Int) ≤ 16777216 := by have := hlim; unfold LIM at this; omega
            refine ⟨a, ys, k, m, w, rfl, by rw [V1.int], hl', by omega, by omega, by rw [r'.length]; exact h5, hw, ?_⟩
            have R2 := R1.mut q ea hl' (r'.eraseIdx m)
            have V2 : RepV X.K c tp (upd H1 a (.lst (ys.eraseIdx m))) (upd H1 a (.lst (ys.eraseIdx m))) w (.val d) := Rep.st rw' (stab_lst hl')
            exact h1 tp _ _ (.refl _) (K1.st.trans (stab_lst hl')) (RepS.store R2 R2 V2 rfl)
        · exact h1.elim
      · exact h1.elim
    · exact h1.elim
  · exact h.elim
/-- x.append(y.pop(k)) -/
theorem s_appPop {i j : Nat} {x y : Str} {p apos cpos py ypos zpos : Pos} (he : PEv X c W e f) (hN : X.N[i]? = some x := by rfl) (hv : Vis X.env.scope x := by first | exact Or.inl rfl | exact Or.inr (Or.inl rfl) | exact Or.inr (Or.inr rfl))
    (hj : X.N[j]? = some y := by rfl) (hvy : Vis X.env.scope y := by first | exact Or.inl rfl | exact Or.inr (Or.inl rfl) | exact Or.inr (Or.inr rfl))
    (hd : (x == ("__debug__" : Str)) = false := by decide) (hcd : (x == ("__classdict__" : Str)) = false := by decide) (hd2 : (y == ("__debug__" : Str)) = false := by decide) (hcd2 : (y == ("__classdict__" : Str)) = false := by decide)
    (hbase : attributeBase (.Name x p) "append" X.env (eval (.Name x p) X.env) = eval (.Name x p) X.env := by rfl)
    (hbase2 : attributeBase (.Name y py) "pop" X.env (eval (.Name y py) X.env) = eval (.Name y py) X.env := by rfl)
    (hfew : ((backTo cpos (starEach [.Call (.Attribute (.Name y py) "pop" ypos) [e] [] zpos] X.env)).all (fun x => !x.1) && (backToKw cpos (keywordEach [] X.env)).all (fun x => x.1.isSome)
      && decide (([.Call (.Attribute (.Name y py) "pop" ypos) [e] [] zpos] : List Expr).length + ([] : List Keyword).length + (if ([] : List Keyword).isEmpty then 0 else 1) < 30)) = true := by rfl)
    (hfew2 : ((backTo zpos (starEach [e] X.env)).all (fun x => !x.1) && (backToKw zpos (keywordEach [] X.env)).all (fun x => x.1.isSome)
      && decide ([e].length + ([] : List Keyword).length + (if ([] : List Keyword).isEmpty then 0 else 1) < 30)) = true := by rfl)
    (hline : (apos.endLine == cpos.line) = true := by rfl) (hline2 : (ypos.endLine == zpos.line) = true := by rfl) (hs : starEach [e] X.env = (false, eval e X.env) :: starEach [] X.env := by rfl)
    (hs2 : starEach [.Call (.Attribute (.Name y py) "pop" ypos) [e] [] zpos] X.env = (false, eval (.Call (.Attribute (.Name y py) "pop" ypos) [e] [] zpos) X.env) :: starEach [] X.env := by rfl)
    (hsw : swapsWith (.Call (.Attribute (.Name x p) "append" apos) [.Call (.Attribute (.Name y py) "pop" ypos) [e] [] zpos] [] cpos) none pos.line X.env = pure false := by rfl) :
    PSv X c W (.Expr (.Call (.Attribute (.Name x p) "append" apos) [.Call (.Attribute (.Name y py) "pop" ypos) [e] [] zpos] [] cpos) pos) (appPopC i j f) := by
  refine ⟨ps_mono (L2.ps_expr (pe_bm PySem.F.plainAttrs_list PySem.F.slot_list_append PySem.F.type_list_append mt_append (pe_var hN hv hd hcd)
    (L2.pa_cons (pe_bm PySem.F.plainAttrs_list PySem.F.slot_list_pop PySem.F.type_list_pop mt_popAt (pe_var hj hvy hd2 hcd2) (L2.pa_cons he.pe L2.pa_nil hs) hbase2 hfew2 hline2 hs rfl) L2.pa_nil hs2) hbase hfew hline hs2 rfl) hsw) ?_⟩
  rintro D σ H ⟨B, tp, env, ta, RS, h⟩
  unfold appPopC at h
  split at h
  · rename_i ds es q1 q2
    obtain ⟨a, xs, ea, hl, r⟩ := RS.ownAt q1
    obtain ⟨b, zs, eb, hlb, rb⟩ := RS.ownAt q2
    refine ⟨_, ea, .inl ⟨rfl, xs, SqL.of hl⟩, _, eb, .inl ⟨rfl, zs, SqL.of hlb⟩, on_of RS h fun z t v H1 R1 K1 V1 h1 => ?_⟩
    split at h1
    · rename_i k
      split at h1
      · rename_i hlim
        split at h1
        · rename_i m hm
          cases ed : es[m]? with
          | none => rw [ed] at h1; exact h1.elim
          | some d =>
            rw [ed] at h1
            obtain ⟨a', ys, ea', hl', r'⟩ := R1.ownAt q1
            rw [ea] at ea'
            cases ea'
            obtain ⟨b', ws, eb', hlb', rb'⟩ := R1.ownAt q2
            rw [eb] at eb'
            cases eb'
            have hab : a ≠ b := fun z => hlim.2.2 (R1.dist i j a ⟨⟨_, q1, trivial⟩, ea⟩ ⟨⟨_, q2, trivial⟩, by rw [z]; exact eb⟩)
            obtain ⟨w, hw, rw'⟩ := rb'.get ed
            obtain ⟨h5, h6, h7, h8⟩ := ixN_seq hm
            have hb : (es.length : Int) ≤ 16777216 := by have := hlim.2.1; unfold LIM at this; omega
            refine ⟨b, ws, k, m, w, rfl, by rw [V1.int], hlb', by omega, by omega, by rw [rb'.length]; exact h5, hw, ?_⟩
            have R2 := R1.mut q2 eb hlb' (rb'.eraseIdx m)
            have hl2 : upd H1 b (.lst (ws.eraseIdx m)) a = some (.lst ys) := by rw [upd_ne hab]; exact hl'
            refine ⟨a, ys, w, rfl, rfl, hl2, by rw [r'.length, sizeLine_eq]; exact hlim.1, ?_⟩
            have q1' : (env.set j (.own (es.eraseIdx m)))[i]? = some (.own ds) := by rw [List.getElem?_set_ne (Ne.symm hlim.2.2)]; exact q1
            have R3 := R2.mut q1' ea hl2 ((r'.append (.cons rw' .nil)).st (stab_lst hlb'))
            exact h1 tp σ _ (.refl _) ((K1.st.trans (stab_lst hlb')).trans (stab_lst hl2)) R3
        · exact h1.elim
      · exact h1.elim
    · exact h1.elim
  · exact h.elim
end
end MP

/-! MPg: stores by place, while, for, what is walked. -/
namespace MP
open PySem PySem.Spec PyProof.Rows L2
section
variable {X : Cx} {c : Ct} {W : WX} {st : Stmt} {e k : Expr} {f g : Ev} {cs : Cs} {pos : Pos}
theorem s_set {i : Nat} {x : Str} {p tpos : Pos} (he : PEv X c W e f) (hk : PEv X c W k g) (hN : X.N[i]? = some x := by rfl) (hv : Vis X.env.scope x := by first | exact Or.inl rfl | exact Or.inr (Or.inl rfl) | exact Or.inr (Or.inr rfl))
    (hd : (x == ("__debug__" : Str)) = false := by decide) (hcd : (x == ("__classdict__" : Str)) = false := by decide)
    (hsb : ∀ v, assign (.Subscript (.Name x p) k tpos) X.env v = (do
      let ov ← holding [v] (eval (.Name x p) X.env)
      let iv ← holding [v, ov] (eval k X.env)
      standAt tpos
      holding [v, ov, iv] (setItem ov iv v)
      release [v, ov, iv] []) := by exact fun _ => rfl)
    (hs : swapsWithSole [.Subscript (.Name x p) k tpos] e pos.line X.env = pure false := by rfl) (hw : swappedStores [.Subscript (.Name x p) k tpos] e X.env = pure none := by rfl)
    (h1 : (assignEach [.Subscript (.Name x p) k tpos] X.env).map (·.2) = [assign (.Subscript (.Name x p) k tpos) X.env] := by rfl) :
    PSv X c W (.Assign [.Subscript (.Name x p) k tpos] e pos) (setC i f g) := by
  refine ⟨ps_mono (ps_asg he.pe (pg_sub (pe_var hN hv hd hcd) hk.pe set_list hsb) hs hw h1) ?_⟩
  rintro D σ H ⟨B, tp, env, ta, RS, h⟩
  refine on_of RS h fun r t v H1 R1 K1 V1 h1 => ?_
  split at h1
  · rename_i ds q
    obtain ⟨a, xs, ea, hl, rr⟩ := R1.ownAt q
    refine ⟨_, ea, on_of R1 (h1.le (.refl _) K1.st) fun z t2 u H2 R2 K2 V2 h2 => ?_⟩
    split at h2
    · rename_i d m
      cases em : ixN ds.length m with
      | none => rw [em] at h2; exact h2.elim
      | some j =>
        rw [em] at h2
        obtain ⟨a', ys, ea', hl', r'⟩ := R2.ownAt q
        rw [ea] at ea'
        cases ea'
        refine ⟨a, ys, m, j, rfl, V2.int, hl', by rw [r'.length]; exact em, ?_⟩
        exact h2 tp σ _ (.refl _) (K2.st.trans (stab_lst hl')) (R2.mut q ea hl' (Reps.set (Rep.st V1 K2.st) j r'))
    · exact h2.elim
  · exact h1.elim
end

/-! ### while -/
def whileC (t : Tv) (f : Cs) : Nat → Cs
  | 0 => fun _ _ => none
  | n + 1 => fun env ta => match t env ta with
    | none => none
    | some (.error x, ta') => some (.ex x, env, ta')
    | some (.ok false, ta') => some (.nx, env, ta')
    | some (.ok true, ta') => match f env ta' with
      | some (.nx, e', t') => whileC t f n e' t'
      | some (.ct, e', t') => whileC t f n e' t'
      | some (.bk, e', t') => some (.nx, e', t')
      | r => r
section
variable {X : Cx} {c : Ct} {W : WX} {cnd : Expr} {body : List Stmt} {t : Tv} {f : Cs} {pos : Pos}
theorem s_while (n : Nat) (hp : PassesOwn (model X.prog X.w) X.A X.env X.xe) (hc : PTv X c W cnd t) (hb : PSsv X c W body f) : PSv X c W (.While cnd body [] pos) (whileC t f n) := by
  refine ⟨ps_mono (ps_while hp hc.pt hb.ps) ?_⟩
  rintro D σ H ⟨B, tp, env, ta, RS, h⟩
  refine ⟨fun m σ' H' => ∃ B tp env ta, RepS X.K c B tp σ' H' env ta ∧ SPost X.K c W B tp H' D (whileC t f m env ta), ⟨n, B, tp, env, ta, RS, h⟩, ?_⟩
  rintro m σ1 H1 ⟨B, tp, env, ta, RS, h⟩
  cases m with
  | zero => exact h.elim
  | succ m =>
    refine ⟨B, tp, env, ta, RS, ?_⟩
    unfold whileC at h
    cases e : t env ta with
    | none => rw [e] at h; exact h
    | some p =>
      obtain ⟨r, t'⟩ := p
      rw [e] at h
      cases r with
      | error x => exact fun cls d H' R' K' er => h tp σ1 H' cls d (.refl _) K'.st R' er
      | ok b =>
        intro H2 R2 K2
        cases b with
        | false => exact h tp σ1 H2 (.refl _) K2.st R2
        | true =>
          dsimp only at h
          refine ⟨fun σ' H' => ∃ B tp env ta, RepS X.K c B tp σ' H' env ta ∧ SPost X.K c W B tp H' D (whileC t f m env ta), fun σ' H' q => ⟨m, Nat.lt_succ_self m, q⟩, B, tp, env, t', R2, ?_⟩
          have h := h.le (.refl _) K2.st
          cases e2 : f env t' with
          | none => rw [e2] at h; exact h
          | some p =>
            obtain ⟨fl, e', t2⟩ := p
            rw [e2] at h
            cases fl with
            | nx => exact fun tp' σ' H' l s R => ⟨B, tp', e', t2, R, h.le l s⟩
            | ct => exact fun tp' σ' H' l s R => ⟨B, tp', e', t2, R, h.le l s⟩
            | bk => exact h
            | rt z => exact h
            | ex x => exact h
end

/-! ### what is walked -/
abbrev Iv := SE → TapeO → Option (Except Str (List D) × TapeO)
/-- the walk J yields ds, from H1 on, wherever Rl H1 holds -/
def JW (K : PySem.W.Frag) (Rl : Hp → Prop) (J : It) (ds : List D) : Prop := ∀ i H, Rl H → (∀ d, ds[i]? = some d → J.go i H ∧ ∀ x H', J.yld i H x H' → Same H H' ∧ Rep K H' x d) ∧ (ds.length ≤ i → J.stop i H)
/-- strong: the walk stands whatever the body changes; else whatever an expression may change -/
def IPost (K : PySem.W.Frag) (c : Ct) (W : WX) (strong : Bool) (B : Hp) (tp : Option Addr) (σ : L2.St) (H : Hp) (env : SE) (r : Option (Except Str (List D) × TapeO)) (R : It → Hp → Prop) : Prop :=
  match r with
  | none => False
  | some (.ok ds, ta') => ∀ J H', RepS K c B tp σ H' env ta' → Kp c tp H H' → JW K (fun H2 => if strong = true then Stab H' H2 else Kp c tp H' H2) J ds → R J H'
  | some (.error x, ta') => ∀ cls d H', RepS K c B tp σ H' env ta' → Kp c tp H H' → ErrIs c H' cls d x → W cls d σ H'
def tIt (K : PySem.W.Frag) (c : Ct) (W : WX) (strong : Bool) (f : Iv) : TI := fun σ H R => ∃ B tp env ta, RepS K c B tp σ H env ta ∧ IPost K c W strong B tp σ H env (f env ta) R
structure PIv (X : Cx) (c : Ct) (W : WX) (strong : Bool) (tg e : Expr) (f : Iv) : Prop where
  pi : PI X tg e (tIt X.K c W strong f)
theorem pi_mono {X : Cx} {tg e : Expr} {t t' : TI} (h : PI X tg e t) (i : ∀ σ H Q, t' σ H Q → t σ H Q) : PI X tg e t' := ⟨fun pins s σ H Q I w => h.run pins s σ H Q I (i σ H Q w)⟩
theorem pi_or {X : Cx} {tg e : Expr} {t u : TI} (h : PI X tg e t) (h' : PI X tg e u) : PI X tg e (fun σ H R => t σ H R ∨ u σ H R) := ⟨fun pins s σ H Q I w => w.elim (h.run pins s σ H Q I) (h'.run pins s σ H Q I)⟩
def seqI (f : Ev) : Iv := fun env ta => match f env ta with
  | none => none
  | some (.error x, t) => some (.error x, t)
  | some (.ok r, t) => (r.seq?).map fun ds => (.ok ds, t)
theorem jw_list {K : PySem.W.Frag} {Rl : Hp → Prop} {H1 : Hp} {a : Addr} {xs : List V} {ds : List D} (h : ∀ H, Rl H → SqL K H a xs ∧ Stab H1 H) (r : Reps K H1 xs ds) : JW K Rl (Itl K a) ds := by
  intro i H hR
  obtain ⟨hs, st⟩ := h H hR
  refine ⟨fun d e => ?_, fun hl => ⟨xs, hs, by rw [r.length]; exact hl⟩⟩
  obtain ⟨v, e1, r1⟩ := r.get e
  refine ⟨⟨xs, v, hs, e1⟩, fun x H' y => ?_⟩
  obtain ⟨rfl, y⟩ := y
  have q := y xs hs
  rw [e1] at q
  cases q
  exact ⟨Same.refl _, r1.st st⟩
theorem jw_tup {K : PySem.W.Frag} {Rl : Hp → Prop} {H1 : Hp} {a : Addr} {xs : List V} {ds : List D} (h : ∀ H, Rl H → SqT K H a xs ∧ Stab H1 H) (r : Reps K H1 xs ds) : JW K Rl (Itt K a) ds := by
  intro i H hR
  obtain ⟨hs, st⟩ := h H hR
  refine ⟨fun d e => ?_, fun hl => ⟨xs, hs, by rw [r.length]; exact hl⟩⟩
  obtain ⟨v, e1, r1⟩ := r.get e
  refine ⟨⟨xs, v, hs, e1⟩, fun x H' y => ?_⟩
  obtain ⟨rfl, y⟩ := y
  have q := y xs hs
  rw [e1] at q
  cases q
  exact ⟨Same.refl _, r1.st st⟩
section
variable {X : Cx} {c : Ct} {W : WX} {tg e : Expr} {f : Ev} {b : Bool}
/-- a list or a tuple, whose result does not change: a datum -/
def Sl.isVal? : Sl → Bool
  | .val _ => true
  | _ => false
/-- over data (frozen) -/
def seqF (f : Ev) : Iv := fun env ta => match f env ta with
  | none => none
  | some (.error x, t) => some (.error x, t)
  | some (.ok (.val (.tup ds)), t) => some (.ok ds, t)
  | some (.ok (.val (.lst ds)), t) => some (.ok ds, t)
  | _ => none
theorem i_seqF (he : PEv X c W e f) : PIv X c W b tg e (seqF f) := by
  refine ⟨pi_mono (pi_or (pi_list he.pe) (pi_tup he.pe)) ?_⟩
  rintro σ H R ⟨B, tp, env, ta, RS, h⟩
  unfold seqF at h
  cases q : f env ta with
  | none => rw [q] at h; exact h.elim
  | some p =>
    obtain ⟨r, t⟩ := p
    rw [q] at h
    cases r with
    | error x => exact .inl ⟨B, tp, env, ta, RS, by rw [q]; exact h⟩
    | ok r =>
      have st : ∀ {H1 H2 : Hp}, (if b = true then Stab H1 H2 else Kp c tp H1 H2) → Stab H1 H2 := fun {H1 H2} hh => by
        cases b with
        | true => exact hh
        | false => exact hh.st
      cases r with
      | val d =>
        cases d with
        | tup ds =>
          refine .inr ⟨B, tp, env, ta, RS, ?_⟩
          rw [q]
          intro v H1 R1 K1 V1
          obtain ⟨a, xs, rfl, hs, r⟩ := V1.tup
          exact ⟨a, rfl, ⟨xs, hs⟩, h _ H1 R1 K1 (jw_tup (fun H2 hh => ⟨(st hh).sqT hs, st hh⟩) r)⟩
        | lst ds =>
          refine .inl ⟨B, tp, env, ta, RS, ?_⟩
          rw [q]
          intro v H1 R1 K1 V1
          cases (show Rep X.K H1 v (.lst ds) from V1) with
          | lst hs r => exact ⟨_, rfl, ⟨_, hs.sq⟩, h _ H1 R1 K1 (jw_list (fun H2 hh => ⟨((st hh).fz hs).sq, st hh⟩) r)⟩
        | _ => exact h.elim
      | _ => exact h.elim
/-- over anything, in an expression -/
theorem i_seq (he : PEv X c W e f) : PIv X c W false tg e (seqI f) := by
  refine ⟨pi_mono (pi_or (pi_list he.pe) (pi_tup he.pe)) ?_⟩
  rintro σ H R ⟨B, tp, env, ta, RS, h⟩
  unfold seqI at h
  cases q : f env ta with
  | none => rw [q] at h; exact h.elim
  | some p =>
    obtain ⟨r, t⟩ := p
    rw [q] at h
    cases r with
    | error x => exact .inl ⟨B, tp, env, ta, RS, by rw [q]; exact h⟩
    | ok r =>
      dsimp only at h
      have kp : ∀ {H1 H2 : Hp}, (if false = true then Stab H1 H2 else Kp c tp H1 H2) → Kp c tp H1 H2 := fun {H1 H2} hh => hh
      cases e2 : r.seq? with
      | none => rw [e2] at h; exact h.elim
      | some ds =>
        rw [e2] at h
        cases r with
        | un => cases e2
        | val d =>
          cases d with
          | tup es =>
            cases e2
            refine .inr ⟨B, tp, env, ta, RS, ?_⟩
            rw [q]
            intro v H1 R1 K1 V1
            obtain ⟨a, xs, rfl, hs, r⟩ := V1.tup
            exact ⟨a, rfl, ⟨xs, hs⟩, h _ H1 R1 K1 (jw_tup (fun H2 hh => ⟨(kp hh).st.sqT hs, (kp hh).st⟩) r)⟩
          | lst es =>
            cases e2
            refine .inl ⟨B, tp, env, ta, RS, ?_⟩
            rw [q]
            intro v H1 R1 K1 V1
            cases (show Rep X.K H1 v (.lst ds) from V1) with
            | lst hs r => exact ⟨_, rfl, ⟨_, hs.sq⟩, h _ H1 R1 K1 (jw_list (fun H2 hh => ⟨((kp hh).st.fz hs).sq, (kp hh).st⟩) r)⟩
          | _ => cases e2
        | own es =>
          cases e2
          refine .inl ⟨B, tp, env, ta, RS, ?_⟩
          rw [q]
          intro v H1 R1 K1 V1
          obtain ⟨a, xs, rfl, n, nv, hl, r⟩ := V1
          exact ⟨a, rfl, ⟨xs, SqL.of hl⟩, h _ H1 R1 K1 (jw_list (fun H2 hh => ⟨SqL.of ((kp hh).kp _ _ hl nv), (kp hh).st⟩) r)⟩
        | bor es =>
          cases e2
          refine .inl ⟨B, tp, env, ta, RS, ?_⟩
          rw [q]
          intro v H1 R1 K1 V1
          obtain ⟨a, xs, rfl, hl, nv, r⟩ := V1
          exact ⟨a, rfl, ⟨xs, SqL.of hl⟩, h _ H1 R1 K1 (jw_list (fun H2 hh => ⟨SqL.of ((kp hh).kp _ _ hl nv), (kp hh).st⟩) r)⟩
        | tape => cases e2
        | dic _ => cases e2
        | bdc _ => cases e2
end
/-! ranges -/
def rgL (lo : Int) (n : Nat) : List D := (List.range n).map fun i => D.int (lo + (i : Nat))
def small62 (i : Int) : Bool := decide (-(2 ^ 62) ≤ i ∧ i < 2 ^ 62)
def rg1S : List Sl → Option (List D)
  | [.val (.int j)] => if small62 j = true then some (rgL 0 j.toNat) else none
  | _ => none
def rg2S : List Sl → Option (List D)
  | [.val (.int i), .val (.int j)] => if small62 i = true ∧ small62 j = true then some (rgL i (j - i).toNat) else none
  | _ => none
def rg3S : List Sl → Option (List D)
  | [.val (.int i), .val (.int j), .val (.int k)] => if small62 i = true ∧ small62 j = true ∧ k ≠ 0 ∧ k.natAbs < 1073741824 ∧ Builtin.Range.small i j k = true ∧ 0 ≤ Builtin.Range.rangeSize i j k then some ((List.range (Builtin.Range.rangeSize i j k).toNat).map fun m => D.int (i + (m : Nat) * k)) else none
  | _ => none
def argI (op : List Sl → Option (List D)) (fs : List Ev) : Iv := fun env ta => match evs fs env ta with
  | none => none
  | some (.error x, t) => some (.error x, t)
  | some (.ok rs, t) => (op rs).map fun ds => (.ok ds, t)
theorem jw_range {K : PySem.W.Frag} {Rl : Hp → Prop} {lo : Int} {n : Nat} : JW K Rl (Itr lo n) (rgL lo n) := by
  intro i H _
  unfold rgL
  refine ⟨fun d e => ?_, fun hl => ?_⟩
  · rw [List.getElem?_map] at e
    cases q : (List.range n)[i]? with
    | none => rw [q] at e; cases e
    | some j =>
      rw [q] at e
      cases e
      obtain ⟨h1, h2⟩ := List.getElem?_eq_some_iff.mp q
      rw [List.length_range] at h1
      rw [List.getElem_range] at h2
      subst h2
      refine ⟨h1, fun x H' y => ?_⟩
      obtain ⟨rfl, rfl⟩ := y
      exact ⟨Same.refl _, Rep.int _⟩
  · rw [List.length_map, List.length_range] at hl; exact hl
theorem arg_of {K : PySem.W.Frag} {c : Ct} {W : WX} {b : Bool} {op : List Sl → Option (List D)} {fs : List Ev} {B : Hp} {tp : Option Addr} {σ : L2.St} {H : Hp} {env : SE} {ta : TapeO} {R : It → Hp → Prop} {G : List V → Hp → Prop} (RS : RepS K c B tp σ H env ta) (h : IPost K c W b B tp σ H env (argI op fs env ta) R)
    (go : ∀ rs t vs H1 ds, op rs = some ds → RepS K c B tp σ H1 env t → Kp c tp H H1 → RepVs K c tp H H1 vs rs → IPost K c W b B tp σ H env (some (.ok ds, t)) R → G vs H1) : tAs K c W fs σ H G := by
  refine ⟨B, tp, env, ta, RS, ?_⟩
  unfold argI at h
  cases q : evs fs env ta with
  | none => rw [q] at h; exact h
  | some p =>
    obtain ⟨r, t⟩ := p
    rw [q] at h
    cases r with
    | error x => exact h
    | ok rs =>
      dsimp only at h
      intro vs H1 R1 K1 VS
      cases e : op rs with
      | none => rw [e] at h; exact h.elim
      | some ds => rw [e] at h; exact go rs t vs H1 ds e R1 K1 VS h
section
variable {X : Cx} {c : Ct} {W : WX} {tg a a2 a3 : Expr} {fs : List Ev} {b : Bool} {p pos : Pos}
theorem i_range1 (hm : X.mg "range" = none) (ha : PAv X c W [a] fs) (hg : Gl X "range" := by rfl) (hs : starEach [a] X.env = [(false, eval a X.env)] := by rfl) : PIv X c W b tg (.Call (.Name "range" p) [a] [] pos) (argI rg1S fs) := by
  refine ⟨pi_mono (pi_range1 hg hm ha.pa hs) ?_⟩
  rintro σ H R ⟨B, tp, env, ta, RS, h⟩
  refine arg_of RS h fun rs t vs H1 ds e R1 K1 VS h => ?_
  unfold rg1S at e
  split at e
  · rename_i j
    cases VS with
    | cons h1 h2 =>
      cases h2
      split at e
      · rename_i hj
        cases e
        have hj' := of_decide_eq_true (show decide _ = true from hj)
        exact ⟨j, by rw [h1.int], hj'.1, hj'.2, h _ H1 R1 K1 jw_range⟩
      · cases e
  · cases e
theorem i_range2 (hm : X.mg "range" = none) (ha : PAv X c W [a, a2] fs) (hg : Gl X "range" := by rfl) (hs : starEach [a, a2] X.env = [(false, eval a X.env), (false, eval a2 X.env)] := by rfl) (hs2 : starEach [a2] X.env = [(false, eval a2 X.env)] := by rfl) :
    PIv X c W b tg (.Call (.Name "range" p) [a, a2] [] pos) (argI rg2S fs) := by
  refine ⟨pi_mono (pi_range2 hg hm ha.pa hs hs2) ?_⟩
  rintro σ H R ⟨B, tp, env, ta, RS, h⟩
  refine arg_of RS h fun rs t vs H1 ds e R1 K1 VS h => ?_
  unfold rg2S at e
  split at e
  · rename_i i j
    cases VS with
    | cons h1 h2 =>
      cases h2 with
      | cons h2 h3 =>
        cases h3
        split at e
        · rename_i hj
          cases e
          have hi' := of_decide_eq_true (show decide _ = true from hj.1)
          have hj' := of_decide_eq_true (show decide _ = true from hj.2)
          exact ⟨i, j, by rw [h1.int, h2.int], ⟨hi'.1, hi'.2, hj'.1, hj'.2⟩, h _ H1 R1 K1 jw_range⟩
        · cases e
  · cases e
theorem jw_rangeC {K : PySem.W.Frag} {Rl : Hp → Prop} {lo k : Int} {n : Nat} : JW K Rl (Itc lo k n) ((List.range n).map fun m => D.int (lo + (m : Nat) * k)) := by
  intro i H _
  refine ⟨fun d e => ?_, fun hl => ?_⟩
  · rw [List.getElem?_map] at e
    cases q : (List.range n)[i]? with
    | none => rw [q] at e; cases e
    | some j =>
      rw [q] at e
      cases e
      obtain ⟨h1, h2⟩ := List.getElem?_eq_some_iff.mp q
      rw [List.length_range] at h1
      rw [List.getElem_range] at h2
      subst h2
      refine ⟨h1, fun x H' y => ?_⟩
      obtain ⟨rfl, rfl⟩ := y
      exact ⟨Same.refl _, Rep.int _⟩
  · rw [List.length_map, List.length_range] at hl; exact hl
theorem i_range3 (hm : X.mg "range" = none) (ha : PAv X c W [a, a2, a3] fs) (hg : Gl X "range" := by rfl)
    (hs : starEach [a, a2, a3] X.env = (false, eval a X.env) :: starEach [a2, a3] X.env := by rfl) (hpl : (backTo pos (starEach [a2, a3] X.env)).any (·.1) = false := by rfl) :
    PIv X c W b tg (.Call (.Name "range" p) [a, a2, a3] [] pos) (argI rg3S fs) := by
  refine ⟨pi_mono (pi_range3 hg hm ha.pa hs hpl) ?_⟩
  rintro σ H R ⟨B, tp, env, ta, RS, h⟩
  refine arg_of RS h fun rs t vs H1 ds e R1 K1 VS h => ?_
  unfold rg3S at e
  split at e
  · rename_i i j k
    cases VS with
    | cons h1 h2 =>
      cases h2 with
      | cons h2 h3 =>
        cases h3 with
        | cons h3 h4 =>
          cases h4
          split at e
          · rename_i hj
            cases e
            exact ⟨i, j, k, (Builtin.Range.rangeSize i j k).toNat, by rw [h1.int, h2.int, h3.int], ⟨hj.2.2.1, hj.2.2.2.1, hj.2.2.2.2.1, (Int.toNat_of_nonneg hj.2.2.2.2.2).symm⟩, h _ H1 R1 K1 jw_rangeC⟩
          · cases e
  · cases e
end
/-! ### the targets -/
inductive Pt where
  | nm (j : Nat) | tu (js : List Nat)
inductive Tg where
  | one (j : Nat) | tup (js : List Nat) | pat (ps : List Pt)
def gNames : List Nat → TGs
  | [] => gNil
  | j :: js => gCons (gName j) (gNames js)
def Pt.g (K : PySem.W.Frag) : Pt → TG
  | .nm j => gName j
  | .tu js => gTup K js.length (gNames js)
def gPats (K : PySem.W.Frag) : List Pt → TGs
  | [] => gNil
  | p :: ps => gCons (p.g K) (gPats K ps)
def Tg.g (K : PySem.W.Frag) : Tg → TG
  | .one j => gName j
  | .tup js => gTup K js.length (gNames js)
  | .pat ps => gTup K ps.length (gPats K ps)
def Pt.slots : Pt → List Nat
  | .nm j => [j]
  | .tu js => js
def Tg.slots : Tg → List Nat
  | .one j => [j]
  | .tup js => js
  | .pat ps => (ps.map Pt.slots).flatten
def setAll : List Nat → List D → SE → SE
  | j :: js, d :: ds, env => setAll js ds (env.set j (.val d))
  | _, _, env => env
def Pt.set : Pt → D → SE → Option SE
  | .nm j, d, env => some (env.set j (.val d))
  | .tu js, .tup ds, env => if ds.length = js.length then some (setAll js ds env) else none
  | _, _, _ => none
def setPats : List Pt → List D → SE → Option SE
  | [], [], env => some env
  | p :: ps, d :: ds, env => (p.set d env).bind (setPats ps ds)
  | _, _, _ => none
def Tg.set : Tg → D → SE → Option SE
  | .pat ps, .tup ds, env => setPats ps ds env
  | .one j, d, env => some (env.set j (.val d))
  | .tup js, .tup ds, env => if ds.length = js.length then some (setAll js ds env) else none
  | _, _, _ => none
theorem wipe_set {v : Option V} : ∀ {vs : List Nat} {σ : L2.St} {j : Nat}, j ∈ vs → wipe (σ.set j v) vs = wipe σ vs
  | [], _, _, h => by simp at h
  | i :: vs, σ, j, h => by
    show (wipe (σ.set j v) vs).set i none = (wipe σ vs).set i none
    by_cases hm : j ∈ vs
    · rw [wipe_set hm]
    · have hj : j = i := by
        rcases List.mem_cons.mp h with h | h
        · exact h
        · exact absurd h hm
      subst hj
      have e : ∀ (us : List Nat) (σ : L2.St), j ∉ us → wipe (σ.set j v) us = (wipe σ us).set j v := fun us => by
        induction us with
        | nil => intro σ _; rfl
        | cons k us ih =>
          intro σ hk
          simp only [List.mem_cons, not_or] at hk
          show (wipe (σ.set j v) us).set k none = ((wipe σ us).set k none).set j v
          rw [ih σ hk.2, List.set_comm _ _ hk.1]
      rw [e vs σ hm, List.set_set]
theorem gNames_ok {K : PySem.W.Frag} {c : Ct} {B : Hp} {tp : Option Addr} {H : Hp} {ta : TapeO} : ∀ {js : List Nat} {ds : List D} {vs : List V} {σ : L2.St} {env : SE}, RepS K c B tp σ H env ta → Reps K H vs ds → ds.length = js.length →
    ∃ σ', (∀ Q : L2.St → Hp → Prop, Q σ' H → gNames js vs σ H Q) ∧ RepS K c B tp σ' H (setAll js ds env) ta ∧ ∀ ws : List Nat, (∀ j ∈ js, j ∈ ws) → wipe σ' ws = wipe σ ws
  | [], ds, vs, σ, env, R, r, hl => by
    have e : ds = [] := List.eq_nil_of_length_eq_zero (by simpa using hl)
    subst e
    cases r
    exact ⟨σ, fun Q q => ⟨rfl, q⟩, R, fun _ _ => rfl⟩
  | j :: js, [], vs, σ, env, R, r, hl => by simp at hl
  | j :: js, d :: ds, vs, σ, env, R, r, hl => by
    cases r with
    | cons r1 r2 =>
      rename_i v vs
      have R1 : RepS K c B tp (σ.set j (some v)) H (env.set j (.val d)) ta := RepS.store (r := .val d) R R r1 rfl
      obtain ⟨σ', h1, h2, h3⟩ := gNames_ok (js := js) R1 r2 (by simpa using hl)
      refine ⟨σ', fun Q q => ⟨v, vs, rfl, h1 Q q⟩, h2, fun ws hw => ?_⟩
      rw [h3 ws fun k hk => hw k (List.mem_cons_of_mem _ hk), wipe_set (hw j List.mem_cons_self)]
theorem pt_ok {K : PySem.W.Frag} {c : Ct} {B : Hp} {tp : Option Addr} {H : Hp} {ta : TapeO} {t : Pt} {d : D} {v : V} {σ : L2.St} {env env' : SE} (R : RepS K c B tp σ H env ta) (r : Rep K H v d) (e : t.set d env = some env') :
    ∃ σ', (∀ Q : L2.St → Hp → Prop, Q σ' H → t.g K v σ H Q) ∧ RepS K c B tp σ' H env' ta ∧ ∀ ws : List Nat, (∀ j ∈ t.slots, j ∈ ws) → wipe σ' ws = wipe σ ws := by
  cases t with
  | nm j =>
    cases e
    exact ⟨σ.set j (some v), fun Q q => q, RepS.store (r := .val d) R R r rfl, fun ws hw => wipe_set (hw j (by simp [Pt.slots]))⟩
  | tu js =>
    cases d with
    | tup ds =>
      have e : (if ds.length = js.length then some (setAll js ds env) else none) = some env' := e
      split at e
      · rename_i hl
        cases e
        cases r with
        | tup hs r =>
          rename_i a xs
          obtain ⟨σ', h1, h2, h3⟩ := gNames_ok R r hl
          exact ⟨σ', fun Q q => ⟨a, xs, rfl, hs, by rw [r.length]; exact hl, h1 Q q⟩, h2, h3⟩
      · cases e
    | _ => cases e
theorem pats_ok {K : PySem.W.Frag} {c : Ct} {B : Hp} {tp : Option Addr} {H : Hp} {ta : TapeO} : ∀ {ps : List Pt} {ds : List D} {vs : List V} {σ : L2.St} {env env' : SE}, RepS K c B tp σ H env ta → Reps K H vs ds → setPats ps ds env = some env' →
    ∃ σ', (∀ Q : L2.St → Hp → Prop, Q σ' H → gPats K ps vs σ H Q) ∧ RepS K c B tp σ' H env' ta ∧ (∀ ws : List Nat, (∀ j ∈ (ps.map Pt.slots).flatten, j ∈ ws) → wipe σ' ws = wipe σ ws) ∧ ds.length = ps.length
  | [], [], _, σ, env, env', R, r, e => by
    cases r; cases e
    exact ⟨σ, fun Q q => ⟨rfl, q⟩, R, fun _ _ => rfl, rfl⟩
  | [], _ :: _, _, _, _, _, _, _, e => by cases e
  | _ :: _, [], _, _, _, _, _, _, e => by cases e
  | p :: ps, d :: ds, _, σ, env, env', R, r, e => by
    cases r with
    | cons r1 r2 =>
      rename_i v vs
      have e : (p.set d env).bind (setPats ps ds) = some env' := e
      cases e1 : p.set d env with
      | none => rw [e1] at e; cases e
      | some env1 =>
        rw [e1] at e
        obtain ⟨σ1, a1, a2, a3⟩ := pt_ok R r1 e1
        obtain ⟨σ2, b1, b2, b3, b4⟩ := pats_ok a2 r2 e
        refine ⟨σ2, fun Q q => ⟨v, vs, rfl, a1 _ (b1 Q q)⟩, b2, fun ws hw => ?_, by simp [b4]⟩
        rw [b3 ws fun j hj => hw j (by rw [List.map_cons, List.flatten_cons]; exact List.mem_append_right _ hj), a3 ws fun j hj => hw j (by rw [List.map_cons, List.flatten_cons]; exact List.mem_append_left _ hj)]
theorem tg_ok {K : PySem.W.Frag} {c : Ct} {B : Hp} {tp : Option Addr} {H : Hp} {ta : TapeO} {t : Tg} {d : D} {v : V} {σ : L2.St} {env env' : SE} (R : RepS K c B tp σ H env ta) (r : Rep K H v d) (e : t.set d env = some env') :
    ∃ σ', (∀ Q : L2.St → Hp → Prop, Q σ' H → t.g K v σ H Q) ∧ RepS K c B tp σ' H env' ta ∧ ∀ ws : List Nat, (∀ j ∈ t.slots, j ∈ ws) → wipe σ' ws = wipe σ ws := by
  cases t with
  | one j =>
    cases e
    exact ⟨σ.set j (some v), fun Q q => q, RepS.store (r := .val d) R R r rfl, fun ws hw => wipe_set (hw j (by simp [Tg.slots]))⟩
  | tup js =>
    cases d with
    | tup ds =>
      have e : (if ds.length = js.length then some (setAll js ds env) else none) = some env' := e
      split at e
      · rename_i hl
        cases e
        cases r with
        | tup hs r =>
          rename_i a xs
          obtain ⟨σ', h1, h2, h3⟩ := gNames_ok R r hl
          exact ⟨σ', fun Q q => ⟨a, xs, rfl, hs, by rw [r.length]; exact hl, h1 Q q⟩, h2, h3⟩
      · cases e
    | _ => cases e
  | pat ps =>
    cases d with
    | tup ds =>
      cases r with
      | tup hs r =>
        rename_i a xs
        obtain ⟨σ', h1, h2, h3, h4⟩ := pats_ok R r (show setPats ps ds env = some env' from e)
        exact ⟨σ', fun Q q => ⟨a, xs, rfl, hs, by rw [r.length]; exact h4, h1 Q q⟩, h2, h3⟩
    | _ => cases e
/-! ### for -/
def forL (t : Tg) (f : Cs) : List D → Cs
  | [] => fun env ta => some (.nx, env, ta)
  | d :: ds => fun env ta => match t.set d env with
    | none => none
    | some env1 => match f env1 ta with
      | some (.nx, e', t') => forL t f ds e' t'
      | some (.ct, e', t') => forL t f ds e' t'
      | some (.bk, e', t') => some (.nx, e', t')
      | r => r
def forC (it : Iv) (t : Tg) (f : Cs) : Cs := fun env ta => match it env ta with
  | none => none
  | some (.error x, t') => some (.ex x, env, t')
  | some (.ok ds, t') => forL t f ds env t'
section
variable {X : Cx} {c : Ct} {W : WX} {tg e : Expr} {body : List Stmt} {t : Tg} {it : Iv} {f : Cs} {pos : Pos}
theorem s_for (hp : PassesOwn (model X.prog X.w) X.A X.env X.xe) (hi : PIv X c W true tg e it) (hg : PG X tg (t.g X.K)) (hb : PSsv X c W body f) (hc : X.calm = true := by rfl)
    (hs : ∀ x, foldedSetIterable e X.env x = pure x := by exact fun _ => rfl) : PSv X c W (.For tg e body [] pos) (forC it t f) := by
  refine ⟨ps_mono (ps_for hp hc hi.pi hg hb.ps hs) ?_⟩
  rintro D σ H ⟨B, tp, env, ta, RS, h⟩
  refine ⟨B, tp, env, ta, RS, ?_⟩
  unfold forC at h
  cases q : it env ta with
  | none => rw [q] at h; exact h
  | some p =>
    obtain ⟨r, t0⟩ := p
    rw [q] at h
    cases r with
    | error x => exact fun cls d H' R' K' er => h tp σ H' cls d (.refl _) K'.st R' er
    | ok ds =>
      intro J H1 R1 K1 jw
      dsimp only at h
      refine ⟨fun i m σ' H' => Stab H1 H' ∧ m = ds.length - i ∧ i ≤ ds.length ∧ ∃ tp' env ta, RepS X.K c B tp' σ' H' env ta ∧ SPost X.K c W B tp' H' D (forL t f (ds.drop i) env ta),
        ⟨ds.length, .refl _, by simp, Nat.zero_le _, tp, env, t0, R1, by rw [List.drop_zero]; exact h.le (.refl _) K1.st⟩, ?_⟩
      rintro i m σ2 H2 ⟨st, rfl, hi, tp2, env2, ta2, R2, h2⟩
      obtain ⟨jgo, jstop⟩ := jw i H2 st
      by_cases hlt : i < ds.length
      · have e1 : ds[i]? = some ds[i] := by simp [hlt]
        obtain ⟨go, yl⟩ := jgo ds[i] e1
        refine .inr ⟨go, fun σ' H' => Stab H1 H' ∧ ∃ tp' env ta, RepS X.K c B tp' σ' H' env ta ∧ SPost X.K c W B tp' H' D (forL t f (ds.drop (i + 1)) env ta),
          fun σ' H' ⟨s', q'⟩ => ⟨ds.length - (i + 1), by omega, s', rfl, hlt, q'⟩, fun x H3 y => ?_⟩
        obtain ⟨s3, r3⟩ := yl x H3 y
        have R3 := R2.grow s3
        rw [List.drop_eq_getElem_cons hlt] at h2
        unfold forL at h2
        cases e2 : t.set ds[i] env2 with
        | none => rw [e2] at h2; exact h2.elim
        | some env3 =>
          rw [e2] at h2
          obtain ⟨σ3, g1, g2, _⟩ := tg_ok R3 r3 e2
          refine g1 _ ⟨B, tp2, env3, ta2, g2, ?_⟩
          have h3 := h2.le (.refl _) (Stab.of_same s3)
          have st3 : Stab H1 H3 := st.trans (.of_same s3)
          dsimp only at h3
          cases e4 : f env3 ta2 with
          | none => rw [e4] at h3; exact h3
          | some p =>
            obtain ⟨fl, e', t'⟩ := p
            rw [e4] at h3
            cases fl with
            | nx => exact fun tp' σ' H' l s R => ⟨st3.trans s, tp', e', t', R, h3.le l s⟩
            | ct => exact fun tp' σ' H' l s R => ⟨st3.trans s, tp', e', t', R, h3.le l s⟩
            | bk => exact h3
            | rt z => exact h3
            | ex x => exact h3
      · have e1 : ds.drop i = [] := List.drop_eq_nil_of_le (by omega)
        rw [e1] at h2
        exact .inl ⟨jstop (by omega), h2 tp2 σ2 H2 (.refl _) (.refl _) R2⟩
end
end MP

/-! MPh: comprehensions, unpacking, whole defs. -/
namespace MP
open PySem PySem.Spec PyProof.Rows L2
section
variable {K : PySem.W.Frag} {c : Ct} {tp : Option Addr} {H H0 H1 B : Hp} {σ : L2.St} {env : SE} {ta ta' : TapeO}
/-- a list that no slot owns is changed -/
theorem RepS.updL {a : Addr} {xs : List V} {o : HO} (R : RepS K c B tp σ H env ta) (h : H a = some (.lst xs)) (nv : ¬ Vol c tp a) (no : ∀ i, ¬ OwnAt env σ i a) (nB : B a = none) : RepS K c B tp σ (upd H a o) env ta where
  len := R.len
  slot := fun i sl e => by
    have q := R.slot i sl e
    cases sl with
    | un => exact q
    | val d => obtain ⟨v, e1, r⟩ := q; exact ⟨v, e1, r.st (stab_lst h)⟩
    | own ds =>
      obtain ⟨b, ys, e1, e2, r⟩ := q
      have hb : b ≠ a := fun z => no i ⟨⟨_, e, trivial⟩, by rw [← z]; exact e1⟩
      exact ⟨b, ys, e1, by rw [upd_ne hb]; exact e2, r.st (stab_lst h)⟩
    | bor _ => exact q
    | tape => exact q
    | dic fs =>
      obtain ⟨b, ys, e1, e2, r⟩ := q
      exact ⟨b, ys, e1, by rw [upd_ne (fun z => by rw [z, h] at e2; cases e2)]; exact e2, r.st (stab_lst h)⟩
    | bdc _ => exact q
  fresh := R.fresh
  dist := R.dist
  tape := R.tape.upd h fun z => nv (.inl z)
  tabs := Tabs.upd R.tabs h
  keep := fun b u e n => by
    rw [upd_ne (fun z => by rw [z, nB] at e; cases e)]; exact R.keep b u e n
  stab := R.stab.trans (stab_lst h)
theorem Kp.updL {a : Addr} {xs : List V} {o : HO} (k : Kp c tp H H1) (h : H1 a = some (.lst xs)) (n : H a = none) : Kp c tp H (upd H1 a o) where
  kp := fun b u e nv => by rw [upd_ne (fun z => by rw [z, n] at e; cases e)]; exact k.kp b u e nv
  st := k.st.trans (stab_lst h)
  nn := fun b e => by
    by_cases hb : b = a
    · rw [hb, upd_same] at e; cases e
    · rw [upd_ne hb] at e; exact k.nn b e
def wipeE (env : SE) : List Nat → SE
  | [] => env
  | v :: vs => (wipeE env vs).set v .un
theorem RepS.unset (R : RepS K c B tp σ H env ta) (i : Nat) : RepS K c B tp (σ.set i none) H (env.set i .un) ta := by
  have own : ∀ j b, OwnAt (env.set i .un) (σ.set i none) j b → i ≠ j ∧ OwnAt env σ j b := fun j b o => by
    obtain ⟨⟨fs, e1, so⟩, e2⟩ := o
    by_cases hj : i = j
    · subst hj
      by_cases hi : i < env.length
      · rw [List.getElem?_set_self hi] at e1; cases e1; exact so.elim
      · rw [List.getElem?_eq_none (by simp; omega)] at e1; cases e1
    · rw [List.getElem?_set_ne hj] at e1 e2; exact ⟨hj, ⟨fs, e1, so⟩, e2⟩
  refine ⟨by rw [List.length_set, List.length_set]; exact R.len, fun j sl e1 => ?_, fun j b o => R.fresh j b (own j b o).2, fun j1 j2 b o1 o2 => R.dist j1 j2 b (own _ _ o1).2 (own _ _ o2).2, R.tape, R.tabs, R.keep, R.stab⟩
  by_cases hj : i = j
  · subst hj
    by_cases hi : i < env.length
    · rw [List.getElem?_set_self hi] at e1; cases e1; trivial
    · rw [List.getElem?_eq_none (by simp; omega)] at e1; cases e1
  · rw [List.getElem?_set_ne hj] at e1
    have q := R.slot j sl e1
    cases sl with
    | un => trivial
    | val d => obtain ⟨w, e2, rr⟩ := q; exact ⟨w, by rw [List.getElem?_set_ne hj]; exact e2, rr⟩
    | own ds => obtain ⟨a, xs, e2, rr⟩ := q; exact ⟨a, xs, by rw [List.getElem?_set_ne hj]; exact e2, rr⟩
    | bor _ => exact q
    | tape => obtain ⟨a, e2, e3⟩ := q; exact ⟨a, e2, by rw [List.getElem?_set_ne hj]; exact e3⟩
    | dic ds => obtain ⟨a, xs, e2, rr⟩ := q; exact ⟨a, xs, by rw [List.getElem?_set_ne hj]; exact e2, rr⟩
    | bdc _ => exact q
theorem RepS.wipe (R : RepS K c B tp σ H env ta) : ∀ vs : List Nat, RepS K c B tp (L2.wipe σ vs) H (wipeE env vs) ta
  | [] => R
  | v :: vs => (R.wipe vs).unset v
/-- the frame's slots at another environment of the same frame: what is known of the heap -/
theorem RepS.move {σ' : L2.St} {env' : SE} (R : RepS K c B tp σ' H env' ta) (R0 : RepS K c B tp σ H0 env ta') (k : Kp c tp H0 H) : RepS K c B tp σ H env ta := R0.kp k R.tape R.tabs
end
/-! ### comprehensions -/
abbrev W0 : WX := fun _ _ _ _ => False
def yesT : Tv := fun _ ta => some (.ok true, ta)
def compL (t : Tg) (cnd : Tv) (elt : Ev) : List D → SE → TapeO → Option (List D × TapeO)
  | [], _, ta => some ([], ta)
  | d :: ds, env, ta => match t.set d env with
    | none => none
    | some env1 => match cnd env1 ta with
      | some (.ok true, t1) => match elt env1 t1 with
        | some (.ok (.val y), t2) => (compL t cnd elt ds env t2).map fun p => (y :: p.1, p.2)
        | _ => none
      | some (.ok false, t1) => compL t cnd elt ds env t1
      | _ => none
def compE (it : Iv) (vs : List Nat) (t : Tg) (cnd : Tv) (elt : Ev) : Ev := fun env ta => match it env ta with
  | none => none
  | some (.error x, t1) => some (.error x, t1)
  | some (.ok ds, t1) => if ds.length < LIM then (compL t cnd elt ds (wipeE env vs) t1).map fun p => (.ok (.own p.1), p.2) else none
section
variable {K : PySem.W.Frag} {c : Ct} {W : WX} {it : Iv} {t : Tg} {cnd : Tv} {elt : Ev} {vs : List Nat}
theorem comp_of (hv : ∀ j ∈ t.slots, j ∈ vs) : ∀ σ H Q, tE K c W (compE it vs t cnd elt) σ H Q → tLc (tIt K c W false it) (t.g K) (tTt K c W0 cnd) (tE K c W0 elt) vs σ H Q := by
  rintro σ H Q ⟨B, tp, env, ta, RS, h⟩
  refine ⟨B, tp, env, ta, RS, ?_⟩
  unfold compE at h
  cases q : it env ta with
  | none => rw [q] at h; exact h
  | some p =>
    obtain ⟨r, t0⟩ := p
    rw [q] at h
    cases r with
    | error x => exact h
    | ok ds =>
      dsimp only at h
      intro J H1 R1 K1 jw D0 hD
      by_cases hlim : ds.length < LIM
      · rw [if_pos hlim] at h
        cases ec : compL t cnd elt ds (wipeE env vs) t0 with
        | none => rw [ec] at h; exact h.elim
        | some fin =>
          rw [ec] at h
          have nvD : ¬ Vol c tp D0 := R1.vol hD
          have nD0 : H D0 = none := K1.nn _ hD
          have noD := RS.noOwn nD0
          have nBD := RS.noB nD0
          refine ⟨fun i m H' => m = ds.length - i ∧ i ≤ ds.length ∧ ∃ acc accD ta' rest t2, H' D0 = some (.lst acc) ∧ Reps K H' acc accD ∧ acc.length ≤ i ∧ RepS K c B tp σ H' env ta' ∧ Kp c tp H1 H' ∧
            compL t cnd elt (ds.drop i) (wipeE env vs) ta' = some (rest, t2) ∧ fin = (accD ++ rest, t2),
            ⟨ds.length, by simp, Nat.zero_le _, [], [], t0, fin.1, fin.2, upd_same, .nil, Nat.le_refl _, R1.grow (Same.new hD), .same (Same.new hD), by rw [List.drop_zero]; exact ec, rfl⟩, ?_⟩
          rintro i m H2 ⟨rfl, hi, acc, accD, ta2, rest, t2, hacc, racc, hla, R2, K2, ed, ef⟩
          obtain ⟨jgo, jstop⟩ := jw i H2 K2
          by_cases hlt : i < ds.length
          · have e1 : ds[i]? = some ds[i] := by simp [hlt]
            obtain ⟨go, yl⟩ := jgo ds[i] e1
            refine .inr ⟨go, fun H' => ∃ acc accD ta' rest t2, H' D0 = some (.lst acc) ∧ Reps K H' acc accD ∧ acc.length ≤ i + 1 ∧ RepS K c B tp σ H' env ta' ∧ Kp c tp H1 H' ∧
              compL t cnd elt (ds.drop (i + 1)) (wipeE env vs) ta' = some (rest, t2) ∧ fin = (accD ++ rest, t2), fun H' q' => ⟨ds.length - (i + 1), by omega, rfl, hlt, q'⟩, fun x H3 y => ?_⟩
            obtain ⟨s3, r3⟩ := yl x H3 y
            have R3 := R2.grow s3
            have K3 : Kp c tp H1 H3 := K2.trans (.same s3)
            rw [List.drop_eq_getElem_cons hlt] at ed
            unfold compL at ed
            cases e2 : t.set ds[i] (wipeE env vs) with
            | none => rw [e2] at ed; cases ed
            | some env3 =>
              rw [e2] at ed
              dsimp only at ed
              obtain ⟨σ3, g1, g2, g3⟩ := tg_ok (R3.wipe vs) r3 e2
              refine g1 _ ⟨?_, ?_⟩
              · rw [g3 vs hv]
                have : ∀ (us ws : List Nat), (∀ j ∈ us, j ∈ ws) → L2.wipe (L2.wipe σ ws) us = L2.wipe σ ws := by
                  intro us ws hw
                  induction us with
                  | nil => rfl
                  | cons k us ih =>
                    show (L2.wipe (L2.wipe σ ws) us).set k none = L2.wipe σ ws
                    rw [ih fun j hj => hw j (List.mem_cons_of_mem _ hj)]
                    have hk := hw k List.mem_cons_self
                    clear ih hw
                    induction ws with
                    | nil => simp at hk
                    | cons l ws ih2 =>
                      show ((L2.wipe σ ws).set l none).set k none = (L2.wipe σ ws).set l none
                      by_cases hm : k ∈ ws
                      · by_cases hkl : k = l
                        · subst hkl; rw [List.set_set]
                        · rw [List.set_comm _ _ (Ne.symm hkl), ih2 hm]
                      · have hkl : k = l := by
                          rcases List.mem_cons.mp hk with z | z
                          · exact z
                          · exact absurd z hm
                        subst hkl; rw [List.set_set]
                exact this vs vs fun j hj => hj
              · refine ⟨B, tp, env3, ta2, g2, ?_⟩
                cases e3 : cnd env3 ta2 with
                | none => rw [e3] at ed; cases ed
                | some p =>
                  obtain ⟨r, t4⟩ := p
                  rw [e3] at ed
                  cases r with
                  | error x => cases ed
                  | ok b =>
                    intro H4 R4 K4
                    have hD4 : H4 D0 = some (.lst acc) := K4.kp _ _ (s3 _ _ hacc) nvD
                    have K4' : Kp c tp H1 H4 := K3.trans K4
                    have R4' : RepS K c B tp σ H4 env t4 := R4.move R3 K4
                    cases b with
                    | false =>
                      rw [if_neg Bool.false_ne_true]
                      exact ⟨acc, accD, t4, rest, t2, hD4, (racc.st (.of_same s3)).st K4.st, Nat.le_succ_of_le hla, R4', K4', ed, ef⟩
                    | true =>
                      rw [if_pos rfl]
                      dsimp only at ed
                      refine ⟨B, tp, env3, t4, R4, ?_⟩
                      cases e5 : elt env3 t4 with
                      | none => rw [e5] at ed; cases ed
                      | some p =>
                        obtain ⟨r, t5⟩ := p
                        rw [e5] at ed
                        cases r with
                        | error x => cases ed
                        | ok z =>
                          intro v H5 R5 K5 V5
                          cases z with
                          | val yd =>
                            dsimp only at ed
                            cases e6 : compL t cnd elt (ds.drop (i + 1)) (wipeE env vs) t5 with
                            | none => rw [e6] at ed; cases ed
                            | some p =>
                              rw [e6] at ed
                              cases ed
                              have hD5 : H5 D0 = some (.lst acc) := K5.kp _ _ hD4 nvD
                              have R5' : RepS K c B tp σ H5 env t5 := R5.move R4' K5
                              refine ⟨acc, hD5, by rw [sizeLine_eq]; unfold LIM at hlim; omega, acc ++ [v], accD ++ [yd], t5, p.1, p.2, upd_same, ?_, by simp; exact hla, R5'.updL hD5 nvD noD nBD, (K4'.trans K5).updL hD5 hD, by rw [e6], by rw [ef, List.append_assoc]; rfl⟩
                              exact ((((racc.st (.of_same s3)).st K4.st).st K5.st).append (.cons V5 .nil)).st (stab_lst hD5)
                          | _ => cases ed
          · have e1 : ds.drop i = [] := List.drop_eq_nil_of_le (by omega)
            rw [e1] at ed
            cases ed
            rw [List.append_nil] at ef
            subst ef
            exact .inl ⟨jstop (by omega), h _ H2 R2 (K1.trans K2) ⟨D0, acc, rfl, nD0, nvD, hacc, racc⟩⟩
      · rw [if_neg hlim] at h; exact h.elim
end
section
variable {X : Cx} {c : Ct} {W : WX} {elt tg iter : Expr} {ifs : List Expr} {scope : Scope} {own : List (Str × Nat)} {pos : Pos} {it : Iv} {t : Tg} {cnd : Tv} {fe : Ev}
/-- the tests of a comprehension -/
structure PCn (X : Cx) (c : Ct) (ifs : List Expr) (cnd : Tv) : Prop where
  pts : PTs X ifs (tTt X.K c W0 cnd)
theorem c_nil : PCn X c [] yesT := ⟨⟨fun pins s σ H Q I h => pts_nil.run pins s σ H Q I (by
  obtain ⟨B, tp, env, ta, RS, h⟩ := h
  exact TPost.val RS h)⟩⟩
theorem c_one {e : Expr} (h : PTv X c W0 e cnd) : PCn X c [e] cnd := ⟨pts_one h.pt⟩
/-- [elt for tg in iter if ..] -/
theorem v_comp (hN : X.N.Nodup) (hi : PIv X c W false tg iter it) (own : List (Str × Nat)) (ok : blkC X.N X.env.scope scope own = true)
    (hg : ∀ (s : Shared) (H : Hp) (C : Addr) (cl : List (Str × Addr)) (fp : List Addr), PG (X.blk s H scope (compEnvC scope cl C X.env) fp) tg (t.g X.K))
    (ht : ∀ (s : Shared) (H : Hp) (C : Addr) (cl : List (Str × Addr)) (fp : List Addr), PCn (X.blk s H scope (compEnvC scope cl C X.env) fp) c ifs cnd)
    (he : ∀ (s : Shared) (H : Hp) (C : Addr) (cl : List (Str × Addr)) (fp : List Addr), PEv (X.blk s H scope (compEnvC scope cl C X.env) fp) c W0 elt fe)
    (hv : ∀ j ∈ t.slots, j ∈ own.map (·.2) := by decide) (hc : X.calm = true := by rfl) (hs : ∀ x, foldedSetIterable iter X.env x = pure x := by exact fun _ => rfl) :
    PEv X c W (.ListComp elt [⟨tg, iter, ifs, 0⟩] scope pos) (compE it (own.map (·.2)) t cnd fe) :=
  ⟨pe_mono (pe_lc (te := tE X.K c W0 fe) (tt := tTt X.K c W0 cnd) hc hN hi.pi (blkOk_by ok) hg (fun s H C cl fp => (ht s H C cl fp).pts) (fun s H C cl fp => (he s H C cl fp).pe) hs) (comp_of hv)⟩
/-- y = [..] on one line, y a local -/
theorem s_asgComp {i : Nat} {y : Str} {py spos : Pos} (hN : X.N.Nodup) (hi : PIv X c W false tg iter it) (own : List (Str × Nat)) (ok : blkC X.N X.env.scope scope own = true)
    (hg : ∀ (s : Shared) (H : Hp) (C : Addr) (cl : List (Str × Addr)) (fp : List Addr), PG (X.blk s H scope (compEnvC scope cl C X.env) fp) tg (t.g X.K))
    (ht : ∀ (s : Shared) (H : Hp) (C : Addr) (cl : List (Str × Addr)) (fp : List Addr), PCn (X.blk s H scope (compEnvC scope cl C X.env) fp) c ifs cnd)
    (he : ∀ (s : Shared) (H : Hp) (C : Addr) (cl : List (Str × Addr)) (fp : List Addr), PEv (X.blk s H scope (compEnvC scope cl C X.env) fp) c W0 elt fe)
    (hsw : swapsWith (.ListComp elt [⟨tg, iter, ifs, 0⟩] scope pos) (some (.Name y py)) spos.line X.env = pure true) (hyl : X.env.scope.names.lookup y = some .local := by rfl) (hy : X.N[i]? = some y := by rfl)
    (hv : ∀ j ∈ t.slots, j ∈ own.map (·.2) := by decide) (hc : X.calm = true := by rfl) (hs : ∀ x, foldedSetIterable iter X.env x = pure x := by exact fun _ => rfl) :
    PSv X c W (.Assign [.Name y py] (.ListComp elt [⟨tg, iter, ifs, 0⟩] scope pos) spos) (asgC i (compE it (own.map (·.2)) t cnd fe)) := by
  refine ⟨ps_mono (ps_setLc (te := tE X.K c W0 fe) (tt := tTt X.K c W0 cnd) hc hN hy hyl hsw hi.pi (blkOk_by ok) hg (fun s H C cl fp => (ht s H C cl fp).pts) (fun s H C cl fp => (he s H C cl fp).pe) hs) ?_⟩
  rintro D σ H ⟨B, tp, env, ta, RS, h⟩
  refine comp_of hv σ H _ (on_of RS h fun r t v H1 R1 K1 V1 h1 => ?_)
  cases es : r.store? with
  | none => rw [es] at h1; exact h1.elim
  | some s => rw [es] at h1; exact h1 tp _ H1 (.refl _) K1.st (RepS.store RS R1 V1 es)
end
/-! ### targets of several names -/
def unpC (js : List Nat) (f : Ev) : Cs := onE f fun r env t => match r with
  | .val (.tup ds) => if ds.length = js.length then some (.nx, setAll js ds env, t) else none
  | _ => none
section
variable {X : Cx} {c : Ct} {W : WX} {e : Expr} {f : Ev} {pos : Pos}
/-- a, b = e -/
theorem s_unp {js : List Nat} {es : List Expr} {k : Nat} {tpos : Pos} (he : PEv X c W e f) (hg : PG X (.Tuple es k tpos) (gTup X.K js.length (gNames js))) (hs : swapsWithSole [.Tuple es k tpos] e pos.line X.env = pure false := by rfl) (hw : swappedStores [.Tuple es k tpos] e X.env = pure none := by rfl)
    (h1 : (assignEach [.Tuple es k tpos] X.env).map (·.2) = [assign (.Tuple es k tpos) X.env] := by rfl) : PSv X c W (.Assign [.Tuple es k tpos] e pos) (unpC js f) := by
  refine ⟨ps_mono (ps_asg he.pe hg hs hw h1) ?_⟩
  rintro D σ H ⟨B, tp, env, ta, RS, h⟩
  refine on_of RS h fun r t v H1 R1 K1 V1 h1 => ?_
  split at h1
  · rename_i ds
    split at h1
    · rename_i hl
      obtain ⟨a, xs, rfl, hs, r⟩ := V1.tup
      obtain ⟨σ', g1, g2, _⟩ := gNames_ok R1 r hl
      exact ⟨a, xs, rfl, hs, by rw [r.length]; exact hl, g1 _ (h1 tp σ' H1 (.refl _) K1.st g2)⟩
    · exact h1.elim
  · exact h1.elim
/-- a, b = x, y: two locals -/
def par2C (i j : Nat) (fs : List Ev) : Cs := fun env ta => match evs fs env ta with
  | none => none
  | some (.error x, t) => some (.ex x, env, t)
  | some (.ok [p, q], t) => match p.store?, q with
    | some s, .val d => some (.nx, (env.set i s).set j (.val d), t)
    | _, _ => none
  | _ => none
end

/-! ### whole defs -/
def defF (n : Nat) (cs : Cs) : Fn := fun args ta => match cs (args ++ List.replicate (n - args.length) .un) ta with
  | some (.nx, _, t) => if t.isSome = ta.isSome then some (.ok (.val .non), t) else none
  | some (.rt z, _, t) => if t.isSome = ta.isSome then some (.ok z, t) else none
  | some (.ex x, _, t) => if t.isSome = ta.isSome then some (.error x, t) else none
  | _ => none
section
variable {K : PySem.W.Frag} {c : Ct} {tp : Option Addr} {H H0 H1 B : Hp} {ta ta' : TapeO}
theorem RepVs.get : ∀ {vs : List V} {xs : List Sl} {i : Nat} {x : Sl}, RepVs K c tp H0 H vs xs → xs[i]? = some x → ∃ v, vs[i]? = some v ∧ RepV K c tp H0 H v x
  | _, _, i, x, .nil, h => by simp at h
  | _, _, 0, x, .cons h1 h2, h => by simp at h; subst h; exact ⟨_, rfl, h1⟩
  | _, _, i + 1, x, .cons h1 h2, h => by
    obtain ⟨v, e, r⟩ := RepVs.get (i := i) h2 (by simpa using h)
    exact ⟨v, by simpa using e, r⟩
theorem rep_start {N : List Str} {vs : List V} {args : List Sl} (hl : vs.length ≤ N.length) (VS : RepVs K c tp H H vs args) (ok : args.all Sl.arg? = true) (t : TapeR K H tp ta) (tb : LamX.Tabs c.T H) :
    RepS K c H tp (L2.start N vs) H (args ++ List.replicate (N.length - args.length) .un) ta := by
  have hlen := VS.length
  have noOwn : ∀ i a, ¬ OwnAt (args ++ List.replicate (N.length - args.length) Sl.un) (L2.start N vs) i a := fun i a ⟨⟨ds, e, so⟩, _⟩ => by
    rw [List.getElem?_append] at e
    split at e
    · have hm := List.all_eq_true.mp ok _ (List.mem_of_getElem? e)
      cases ds with
      | own _ => cases hm
      | dic _ => cases hm
      | _ => exact so.elim
    · rw [List.getElem?_replicate] at e
      split at e
      · cases e; exact so.elim
      · cases e
  refine ⟨by unfold L2.start; simp; omega, fun i sl e => ?_, fun i a o => (noOwn i a o).elim, fun i j a o _ => (noOwn i a o).elim, t, tb, fun _ _ e _ => e, .refl _⟩
  rw [List.getElem?_append] at e
  split at e
  · rename_i hi
    obtain ⟨v, e1, r⟩ := VS.get e
    have e2 : (L2.start N vs)[i]? = some (some v) := by
      unfold L2.start
      rw [List.getElem?_append_left (by rw [List.length_map]; omega), List.getElem?_map, e1]
      rfl
    have hm := List.all_eq_true.mp ok _ (List.mem_of_getElem? e)
    cases sl with
    | val d => exact ⟨v, e2, r⟩
    | tape => obtain ⟨a, e3, rfl⟩ := r; exact ⟨a, e3, e2⟩
    | _ => cases hm
  · rw [List.getElem?_replicate] at e
    split at e
    · cases e; trivial
    · cases e
theorem RepS.out {σ : L2.St} {env : SE} {tp' : Option Addr} (R : RepS K c H tp' σ H1 env ta') (l : tpLe tp tp') (t : TapeR K H tp ta) (e : ta'.isSome = ta.isSome) : tp' = tp ∧ Kp c tp H H1 := by
  have ht : tp' = tp := by
    rcases l with l | l
    · subst l
      cases ta with
      | some _ => exact t.elim
      | none =>
        cases ta' with
        | some _ => cases e
        | none =>
          cases tp' with
          | none => rfl
          | some _ => exact R.tape.elim
    · exact l
  subst ht
  refine ⟨rfl, R.keep, R.stab, fun a n => ?_⟩
  cases q : H a with
  | none => rfl
  | some o =>
    have := R.keep a o q (R.vol n)
    rw [n] at this; cases this
end
section
variable {P : Program} {w : World} {K : PySem.W.Frag} {mg : Str → Option Value} {base : Heap} {c : Ct}
theorem fn_def {x qual : Str} {st : Stmt} {f : Addr} {fd : FuncData} {N ps : List Str} {k : Nat} {cs : Cs} (F : Fun K x qual st f fd) (S : FnScope N ps (defScope st)) (hNl : ps.length ≤ N.length)
    (hbody : ∀ (cdv : Value) (A : Around) (outer : List Env) (s : Shared) (H : Hp) (E : XK), Room k (A.deeper (envOfC qual (defScope st) s.heap.objs.size f cdv)) →
      PSsv (cxOf (L2.CX P w) P w K mg base N qual (defScope st) f cdv A outer s H E) c (fun cls d _ H' => E cls d H') (defBody st) cs) :
    FnOk P w K mg base (L2.CX P w) (k + 1) f fd ps (FSp K c ps.length (defF N.length cs)) := by
  refine F.okX S (fun vs H Q E h => h.1) fun cdv A outer s H vs Q E hr h => ?_
  obtain ⟨hl, tp, args, ta, VS, ok, t, tb, post⟩ := h
  refine ⟨_, (hbody cdv A outer s H E hr).ps, H, tp, _, ta, rep_start (by rw [hl]; exact hNl) VS ok t tb, ?_⟩
  unfold defF at post
  cases e : cs (args ++ List.replicate (N.length - args.length) .un) ta with
  | none => rw [e] at post; exact post
  | some p =>
    obtain ⟨fl, env, ta'⟩ := p
    rw [e] at post
    cases fl with
    | nx =>
      dsimp only at post
      split at post
      · rename_i ht
        intro tp' σ' H' l st R
        obtain ⟨rfl, k1⟩ := R.out l t ht
        exact post .non H' k1 R.tape R.tabs Rep.non
      · exact post.elim
    | rt z =>
      dsimp only at post
      split at post
      · rename_i ht
        intro tp' σ' H' v l st R V
        obtain ⟨rfl, k1⟩ := R.out l t ht
        exact post v H' k1 R.tape R.tabs V
      · exact post.elim
    | ex x =>
      dsimp only at post
      split at post
      · rename_i ht
        intro tp' σ' H' cls d l st R er
        obtain ⟨rfl, k1⟩ := R.out l t ht
        exact post cls d H' k1 R.tape R.tabs er
      · exact post.elim
    | bk => exact post.elim
    | ct => exact post.elim
end
end MP

/-! MPi: x op= e, pairs of names, the tape. -/
namespace MP
open PySem PySem.Spec PyProof.Rows L2
section
variable {K : PySem.W.Frag} {c : Ct}
def iaddS : Sl → Sl → Option Sl := opI (fun _ _ => true) fun i j => .int (i + j)
def imulS : Sl → Sl → Option Sl := opI mulOk fun i j => .int (i * j)
theorem ok_iadd : OpOk K c (rI0 fun i j => .int (i + j)) iaddS := opI0_ok fun _ _ _ => .int _
theorem iop_mulW {X : Cx} : OpR X (inplaceOp .Mult) (rI CMulW fun i j => .int (i * j)) := L2.opI fun _ _ _ _ _ _ _ hc q => imul_int q (CMulW.ok hc)
theorem var_of {W : WX} {i : Nat} {σ : L2.St} {H : Hp} {Q : VK} (h : tE K c W (varE i) σ H Q) : ∃ v, σ[i]? = some (some v) ∧ Q v H := by
  obtain ⟨B, tp, env, ta, RS, h⟩ := h
  unfold varE at h
  have sl := fun s e => RS.slot i s e
  cases e : env[i]? with
  | none => rw [e] at h; exact h.elim
  | some s =>
    rw [e] at h
    have q := sl s e
    cases s with
    | un => exact h.elim
    | val d => obtain ⟨v, e1, r⟩ := q; exact ⟨v, e1, EPost.val RS h r⟩
    | own ds =>
      obtain ⟨a, xs, e1, e2, r⟩ := q
      exact ⟨_, e1, EPost.val RS h ⟨a, xs, rfl, e2, (RS.fresh i a ⟨⟨_, e, trivial⟩, e1⟩).2, r⟩⟩
    | bor _ => exact h.elim
    | tape => obtain ⟨a, e1, e2⟩ := q; exact ⟨_, e2, EPost.val RS h ⟨a, e1, rfl⟩⟩
    | dic ds =>
      obtain ⟨a, xs, e1, e2, r⟩ := q
      exact ⟨_, e1, EPost.val RS h ⟨a, xs, rfl, e2, (RS.fresh i a ⟨⟨_, e, trivial⟩, e1⟩).2, r⟩⟩
    | bdc _ => exact h.elim
end
def augC (i : Nat) (op : Sl → Sl → Option Sl) (f : Ev) : Cs := asgC i (binE op (varE i) f)
section
variable {X : Cx} {c : Ct} {W : WX} {e : Expr} {fe : Ev} {pos : Pos}
/-- x op= e -/
theorem s_aug {i : Nat} {x : Str} {op : Operator} {r : R2} {o : Sl → Sl → Option Sl} {pos' : Pos} (hr : OpR X (inplaceOp op) r) (ho : OpOk X.K c r o) (hN : X.N.Nodup) (he : PEv X c W e fe) (hi : X.N[i]? = some x := by rfl) (hx : Loc X.env.scope x := by first | exact Or.inl rfl | exact Or.inr rfl)
    (hf : X.fn x = true ∨ X.env.scope.names.lookup x = some .local := by first | exact .inl rfl | exact .inr rfl | assumption) : PSv X c W (.AugAssign (.Name x pos') op e pos) (augC i o fe) := by
  refine ⟨ps_mono (ps_aug hN hi hx he.pe (ti := r) hr hf) ?_⟩
  rintro D σ H ⟨B, tp, env, ta, RS, h⟩
  have h2 := bin_of ho _ _ _ (on_of (f := binE o (varE i) fe) (k := fun r env t => r.store?.map fun s => (.nx, env.set i s, t)) (D := D) (R := fun v H1 => D.nx (σ.set i (some v)) H1) RS h fun r t v H1 R1 K1 V1 h1 => by
    cases es : r.store? with
    | none => rw [es] at h1; exact h1.elim
    | some s => rw [es] at h1; exact h1 tp _ H1 (.refl _) K1.st (RepS.store RS R1 V1 es))
  exact var_of h2
/-- x, y = a, b: two locals -/
theorem s_par2 {i j : Nat} {x y : Str} {a b : Expr} {fs : List Ev} {px py pt : Pos} {kt k2 pt2} (hN : X.N.Nodup) (ha : PAv X c W [a, b] fs)
    (hw : swappedStores [.Tuple [.Name x px, .Name y py] kt pt] (.Tuple [a, b] k2 pt2) X.env = pure (some [x, y])) (hi : X.N[i]? = some x := by rfl) (hj : X.N[j]? = some y := by rfl) (hij : i ≠ j := by decide) (hc : X.calm = true := by rfl)
    (hx : X.env.scope.names.lookup x = some .local := by rfl) (hy : X.env.scope.names.lookup y = some .local := by rfl)
    (hs : swapsWithSole [.Tuple [.Name x px, .Name y py] kt pt] (.Tuple [a, b] k2 pt2) pos.line X.env = pure false := by rfl) :
    PSv X c W (.Assign [.Tuple [.Name x px, .Name y py] kt pt] (.Tuple [a, b] k2 pt2) pos) (par2C i j fs) := by
  refine ⟨ps_mono (ps_par hc hN hi hj hij hx hy ha.pa hw hs) ?_⟩
  rintro D σ H ⟨B, tp, env, ta, RS, h⟩
  refine ⟨B, tp, env, ta, RS, ?_⟩
  unfold par2C at h
  cases q : evs fs env ta with
  | none => rw [q] at h; exact h
  | some p =>
    obtain ⟨r, t⟩ := p
    rw [q] at h
    cases r with
    | error x => exact fun cls d H' R' K' er => h tp σ H' cls d (.refl _) K'.st R' er
    | ok zs =>
      intro vs H1 R1 K1 V1
      split at h
      · rename_i e; cases e
      · rename_i e; cases e
      · rename_i p q' t' e
        cases e
        cases V1 with
        | cons V1 V2 =>
          cases V2 with
          | cons V2 V3 =>
            cases V3
            rename_i v w
            refine ⟨v, w, rfl, ?_⟩
            split at h
            · rename_i s d hs
              have ra := RepS.store (i := i) RS R1 V1 hs
              have rb := RepS.store (i := j) (r := .val d) ra ra V2 rfl
              exact h tp _ H1 (.refl _) K1.st rb
            · exact h.elim
      · exact h.elim
def listOf : Sl → Option (List D)
  | .val (.lst ds) => some ds
  | .own ds => some ds
  | _ => none
def unpLC (js : List Nat) (f : Ev) : Cs := onE f fun r env t => match listOf r with
  | some ds => if ds.length = js.length then some (.nx, setAll js ds env, t) else none
  | none => none
/-- a, b = a list -/
theorem s_unpL {js : List Nat} {es : List Expr} {k : Nat} {tpos : Pos} (he : PEv X c W e fe) (hg : PG X (.Tuple es k tpos) (gLst X.K js.length (gNames js))) (hs : swapsWithSole [.Tuple es k tpos] e pos.line X.env = pure false := by rfl) (hw : swappedStores [.Tuple es k tpos] e X.env = pure none := by rfl)
    (h1 : (assignEach [.Tuple es k tpos] X.env).map (·.2) = [assign (.Tuple es k tpos) X.env] := by rfl) : PSv X c W (.Assign [.Tuple es k tpos] e pos) (unpLC js fe) := by
  refine ⟨ps_mono (ps_asg he.pe hg hs hw h1) ?_⟩
  rintro D σ H ⟨B, tp, env, ta, RS, h⟩
  refine on_of RS h fun r t v H1 R1 K1 V1 h1 => ?_
  cases el : listOf r with
  | none => rw [el] at h1; exact h1.elim
  | some ds =>
    rw [el] at h1
    dsimp only at h1
    split at h1
    · rename_i hl
      have e2 : r.items? = some ds := by
        cases r with
        | val d => cases d <;> first | exact el | cases el
        | own ds => exact el
        | _ => cases el
      obtain ⟨a, xs, rfl, hs, r⟩ := V1.list e2
      obtain ⟨σ', g1, g2, _⟩ := gNames_ok R1 r hl
      exact ⟨a, xs, rfl, hs, by rw [r.length]; exact hl, g1 _ (h1 tp σ' H1 (.refl _) K1.st g2)⟩
    · exact h1.elim
end

/-! ### the tape -/
def Tape.get (t : Tape) : Nat → Option D
  | 0 => some (.lst (t.scr.map D.int))
  | 1 => some (.int t.pos)
  | 2 => some (.int t.left)
  | 3 => some (.int t.seed)
  | _ => none
def Tape.put (t : Tape) (v : Int) : Nat → Option Tape
  | 1 => if 0 ≤ v then some { t with pos := v.toNat } else none
  | 2 => some { t with left := v }
  | 3 => some { t with seed := v }
  | _ => none
def tgetE (i k : Nat) : Ev := fun env ta => match env[i]?, ta with
  | some .tape, some t => (t.get k).map fun d => (.ok (.val d), ta)
  | _, _ => none
def tsetC (i k : Nat) (f : Ev) : Cs := onE f fun r env ta => match env[i]?, ta, r with
  | some .tape, some t, .val (.int v) => (t.put v k).map fun t' => (.nx, env, some t')
  | _, _, _ => none
def tpS (env : SE) (i : Nat) (s : Option Sl) (ta : TapeO) : Option (Fl × SE × TapeO) := match s, ta with
  | some (.own [.lst ds, .int p, .int l, .int s]), none => match ints? ds with
    | some ns => if 0 ≤ p then some (.nx, env.set i .tape, some ⟨ns, p.toNat, l, s⟩) else none
    | none => none
  | _, _ => none
def tapeC (i : Nat) : Cs := fun env ta => tpS env i env[i]? ta
section
variable {K : PySem.W.Frag} {c : Ct} {tp : Option Addr} {H H0 H1 B : Hp} {σ : L2.St} {env : SE} {ta ta' : TapeO}
theorem RepS.tput {a : Addr} {xs : List V} {o : HO} {t' : Tape} (R : RepS K c B (some a) σ H env ta) (h : H a = some (.lst xs)) (ht : TapeAt K (upd H a o) a t') : RepS K c B (some a) σ (upd H a o) env (some t') where
  len := R.len
  slot := fun i sl e => by
    have q := R.slot i sl e
    cases sl with
    | un => exact q
    | val d => obtain ⟨v, e1, r⟩ := q; exact ⟨v, e1, r.st (stab_lst h)⟩
    | own ds =>
      obtain ⟨b, ys, e1, e2, r⟩ := q
      have hb : b ≠ a := fun z => (R.fresh i b ⟨⟨_, e, trivial⟩, e1⟩).2 (.inl (by rw [z]))
      exact ⟨b, ys, e1, by rw [upd_ne hb]; exact e2, r.st (stab_lst h)⟩
    | bor _ => exact q
    | tape => exact q
    | dic fs =>
      obtain ⟨b, ys, e1, e2, r⟩ := q
      exact ⟨b, ys, e1, by rw [upd_ne (fun z => by rw [z, h] at e2; cases e2)]; exact e2, r.st (stab_lst h)⟩
    | bdc _ => exact q
  fresh := R.fresh
  dist := R.dist
  tape := ht
  tabs := Tabs.upd R.tabs h
  keep := fun b u e n => by
    rw [upd_ne (fun z => n (.inl (by rw [z])))]; exact R.keep b u e n
  stab := R.stab.trans (stab_lst h)
theorem RepS.toTape {i : Nat} {ds : List D} {ns : List Int} {p l s : Int} (R : RepS K c B tp σ H env none) (e : env[i]? = some (.own [.lst ds, .int p, .int l, .int s])) (en : ints? ds = some ns) (hp : 0 ≤ p) :
    ∃ a, RepS K c B (some a) σ H (env.set i .tape) (some ⟨ns, p.toNat, l, s⟩) := by
  obtain ⟨a, xs, ea, hl, r⟩ := R.ownAt e
  have hi : i < env.length := (List.getElem?_eq_some_iff.mp e).1
  have htp : tp = none := by
    have := R.tape
    cases tp with
    | none => rfl
    | some _ => exact this.elim
  subst htp
  have own : ∀ j b, OwnAt (env.set i .tape) σ j b → i ≠ j ∧ OwnAt env σ j b := fun j b o => by
    obtain ⟨⟨fs, e1, so⟩, e2⟩ := o
    by_cases hj : i = j
    · subst hj; rw [List.getElem?_set_self hi] at e1; cases e1; exact so.elim
    · rw [List.getElem?_set_ne hj] at e1; exact ⟨hj, ⟨fs, e1, so⟩, e2⟩
  have fr := R.fresh i a ⟨⟨_, e, trivial⟩, ea⟩
  have vol : ∀ b, ¬ Vol c (some a) b → ¬ Vol c none b := fun b n v => n (v.elim (fun z => by cases z) .inr)
  refine ⟨a, ⟨by rw [List.length_set]; exact R.len, fun j sl e1 => ?_, fun j b o => ?_, fun j1 j2 b o1 o2 => R.dist j1 j2 b (own _ _ o1).2 (own _ _ o2).2, ?_, R.tabs, fun b u e1 n => R.keep b u e1 (vol b n), R.stab⟩⟩
  · by_cases hj : i = j
    · subst hj
      rw [List.getElem?_set_self hi] at e1
      cases e1
      exact ⟨a, rfl, ea⟩
    · rw [List.getElem?_set_ne hj] at e1
      have q := R.slot j sl e1
      cases sl with
      | un => exact q
      | val d => exact q
      | own fs => exact q
      | bor _ => exact q
      | tape => obtain ⟨b, e2, _⟩ := q; cases e2
      | dic _ => exact q
      | bdc _ => exact q
  · obtain ⟨hij, o'⟩ := own j b o
    have f2 := R.fresh j b o'
    refine ⟨f2.1, fun v => ?_⟩
    rcases v with v | v
    · cases v; exact hij (R.dist i j a ⟨⟨_, e, trivial⟩, ea⟩ o')
    · exact f2.2 (.inr v)
  · cases r with
    | cons r0 r =>
      cases r with
      | cons r1 r =>
        cases r with
        | cons r2 r =>
          cases r with
          | cons r3 r =>
            cases r
            cases r1
            cases r2
            cases r3
            cases r0 with
            | lst hz rz =>
              rw [ints?_eq en] at rz
              have := Reps.intsV _ rz
              subst this
              exact ⟨_, by rw [hl, Int.toNat_of_nonneg hp], hz⟩
end
section
variable {X : Cx} {c : Ct} {W : WX} {e : Expr} {f : Ev} {st : Stmt} {cs : Cs} {pos : Pos}
theorem s_tape {i : Nat} (h : PSv X c W st cs) : PSv X c W st (seqC (tapeC i) cs) := by
  refine ⟨⟨fun pins s σ H D I w => ?_⟩⟩
  obtain ⟨B, tp, env, ta, RS, hh⟩ := w
  unfold seqC at hh
  cases q : tapeC i env ta with
  | none => rw [q] at hh; exact hh.elim
  | some z =>
    rw [q] at hh
    unfold tapeC tpS at q
    split at q
    · rename_i ds p l s' e1
      split at q
      · rename_i ns en
        split at q
        · rename_i hp
          cases q
          have htp : tp = none := by
            have := RS.tape
            cases tp with
            | none => rfl
            | some _ => exact this.elim
          subst htp
          obtain ⟨a, R2⟩ := RS.toTape e1 en hp
          refine h.ps.run pins s σ H D I ⟨B, some a, _, _, R2, SPost.le (tp := none) hh (.inl rfl) (.refl _)⟩
        · cases q
      · cases q
    · cases q
/-- d[k], the tape -/
theorem v_tget {i : Nat} {x : Str} {k : Nat} {p kp : Pos} {jj} (hN : X.N[i]? = some x := by rfl) (hv : Vis X.env.scope x := by first | exact Or.inl rfl | exact Or.inr (Or.inl rfl) | exact Or.inr (Or.inr rfl))
    (hd : (x == ("__debug__" : Str)) = false := by decide) (hcd : (x == ("__classdict__" : Str)) = false := by decide) : PEv X c W (.Subscript (.Name x p) (.Constant (.int (k : Int)) jj kp) pos) (tgetE i k) := by
  refine ⟨pe_mono (pe_ix ix_list (pe_var hN hv hd hcd) pe_int (fun _ _ => rfl)) ?_⟩
  rintro σ H Q ⟨B, tp, env, ta, RS, h⟩
  unfold tgetE at h
  split at h
  · rename_i t e1
    obtain ⟨a, e2, e3⟩ := RS.slot i _ e1
    subst e2
    obtain ⟨sc, h1, h2⟩ := RS.tape
    have sz : ∀ (k : Nat) (d : D) (v : V), atI [V.ref sc, .int (t.pos : Int), .int t.left, .int t.seed] (k : Int) = some v → Rep X.K H v d → EPost X.K c W B (some a) σ H env (some (.ok (.val d), some t)) Q →
      ∃ x, σ[i]? = some (some x) ∧ rIxL X.K x (.int (k : Int)) H Q := fun k d v e r hh => ⟨_, e3, a, _, (k : Int), _, rfl, rfl, SqL.of h1, e, EPost.val RS hh r⟩
    match k, h with
    | 0, h => exact sz 0 _ _ rfl (Rep.lst h2 (Reps.ints t.scr)) h
    | 1, h => exact sz 1 _ _ rfl (.int _) h
    | 2, h => exact sz 2 _ _ rfl (.int _) h
    | 3, h => exact sz 3 _ _ rfl (.int _) h
    | _ + 4, h => exact h.elim
  · exact h.elim
/-- d[k] = e, the tape -/
theorem s_tset {i : Nat} {x : Str} {k : Nat} {p tpos kp : Pos} {jj} (he : PEv X c W e f) (hN : X.N[i]? = some x := by rfl) (hv : Vis X.env.scope x := by first | exact Or.inl rfl | exact Or.inr (Or.inl rfl) | exact Or.inr (Or.inr rfl))
    (hd : (x == ("__debug__" : Str)) = false := by decide) (hcd : (x == ("__classdict__" : Str)) = false := by decide)
    (hsb : ∀ v, assign (.Subscript (.Name x p) (.Constant (.int (k : Int)) jj kp) tpos) X.env v = (do
      let ov ← holding [v] (eval (.Name x p) X.env)
      let iv ← holding [v, ov] (eval (.Constant (.int (k : Int)) jj kp) X.env)
      standAt tpos
      holding [v, ov, iv] (setItem ov iv v)
      release [v, ov, iv] []) := by exact fun _ => rfl)
    (hs : swapsWithSole [.Subscript (.Name x p) (.Constant (.int (k : Int)) jj kp) tpos] e pos.line X.env = pure false := by rfl) (hw : swappedStores [.Subscript (.Name x p) (.Constant (.int (k : Int)) jj kp) tpos] e X.env = pure none := by rfl)
    (h1 : (assignEach [.Subscript (.Name x p) (.Constant (.int (k : Int)) jj kp) tpos] X.env).map (·.2) = [assign (.Subscript (.Name x p) (.Constant (.int (k : Int)) jj kp) tpos) X.env] := by rfl) :
    PSv X c W (.Assign [.Subscript (.Name x p) (.Constant (.int (k : Int)) jj kp) tpos] e pos) (tsetC i k f) := by
  refine ⟨ps_mono (ps_asg he.pe (pg_sub (pe_var hN hv hd hcd) pe_int set_list hsb) hs hw h1) ?_⟩
  rintro D σ H ⟨B, tp, env, ta, RS, h⟩
  refine on_of RS h fun r t v H1 R1 K1 V1 h1 => ?_
  split at h1
  · rename_i tt z e1
    obtain ⟨a, e2, e3⟩ := R1.slot i _ e1
    subst e2
    obtain ⟨sc, g1, g2⟩ := R1.tape
    have hv := V1.int
    subst hv
    refine ⟨_, e3, a, _, (k : Int), k, rfl, rfl, g1, ?_⟩
    have fin : ∀ (t' : Tape) (m : Nat) (ys : List V), ys = [.ref sc, .int (t'.pos : Int), .int t'.left, .int t'.seed] → t'.scr = tt.scr → SPost X.K c W B (some a) H D (some (.nx, env, some t')) → D.nx σ (upd H1 a (.lst ys)) := by
      intro t' m ys ey es hh
      subst ey
      exact hh (some a) σ _ (.refl _) (K1.st.trans (stab_lst g1)) (R1.tput g1 ⟨sc, upd_same, (stab_lst g1).fz (by rw [es]; exact g2)⟩)
    match k, h1 with
    | 0, h => exact h.elim
    | 1, h =>
      refine ⟨rfl, ?_⟩
      have h : SPost X.K c W B (some a) H D (Option.map (fun t' => (Fl.nx, env, some t')) (if 0 ≤ z then some { tt with pos := z.toNat } else none)) := h
      by_cases hz : 0 ≤ z
      · rw [if_pos hz] at h
        exact fin { tt with pos := z.toNat } 1 _ (by show [V.ref sc, V.int z, _, _] = _; dsimp only; rw [Int.toNat_of_nonneg hz]) rfl h
      · rw [if_neg hz] at h; exact h.elim
    | 2, h => exact ⟨rfl, fin { tt with left := z } 2 _ rfl rfl h⟩
    | 3, h => exact ⟨rfl, fin { tt with seed := z } 3 _ rfl rfl h⟩
    | _ + 4, h => exact h.elim
  · exact h1.elim
end
end MP

/-! MPj: small things, the end. -/
namespace MP
open PySem PySem.Spec PyProof.Rows L2
def mulS : Sl → Sl → Option Sl := opI mulOk fun i j => .int (i * j)
theorem ok_mul {K : PySem.W.Frag} {c : Ct} : OpOk K c (rI CMulW fun i j => .int (i * j)) mulS := ok_mulI
theorem hu65 {k : Nat} {A : Around} (r : Room k A) : A.units + 65 < cLine := by have := r.un; omega
theorem FzL.of_only {K : PySem.W.Frag} {H : Hp} {a : Addr} {xs : List V} (h : Only H) (s : SqL K H a xs) : FzL K H a xs := by
  rcases s with (e | ⟨o, e⟩) | e
  · rcases h a with n | ⟨o, ys, n⟩
    · rw [n] at e; cases e
    · rw [n] at e; cases e
  · exact .inl ⟨o, e⟩
  · exact .inr e
/-- the promise of law: True comes out -/
def LSp (K : PySem.W.Frag) (c : Ct) (n : Nat) (cs : Cs) : Sp := fun vs H Q E => ∃ args, vs.length = 1 ∧ RepVs K c none H H vs args ∧ args.all Sl.arg? = true ∧ LamX.Tabs c.T H ∧
  (∃ env t, cs (args ++ List.replicate (n - args.length) .un) none = some (.rt (.val (.bl true)), env, t)) ∧ ∀ H', Q (.bl true) H'
section
variable {P : Program} {w : World} {K : PySem.W.Frag} {mg : Str → Option Value} {base : Heap} {c : Ct}
theorem fn_law {x qual : Str} {st : Stmt} {f : Addr} {fd : FuncData} {N ps : List Str} {k : Nat} {cs : Cs} (F : Fun K x qual st f fd) (S : FnScope N ps (defScope st)) (hNl : ps.length ≤ N.length) (hps : ps.length = 1)
    (hbody : ∀ (cdv : Value) (A : Around) (outer : List Env) (s : Shared) (H : Hp) (E : XK), Room k (A.deeper (envOfC qual (defScope st) s.heap.objs.size f cdv)) →
      PSsv (cxOf (L2.CX P w) P w K mg base N qual (defScope st) f cdv A outer s H E) c (fun cls d _ H' => E cls d H') (defBody st) cs) :
    FnOk P w K mg base (L2.CX P w) (k + 1) f fd ps (LSp K c N.length cs) := by
  refine F.okX S (fun vs H Q E h => by obtain ⟨_, h, _⟩ := h; rw [hps]; exact h) fun cdv A outer s H vs Q E hr h => ?_
  obtain ⟨args, hl, VS, ok, tb, ⟨env, t, e⟩, post⟩ := h
  refine ⟨_, (hbody cdv A outer s H E hr).ps, H, none, _, none, rep_start (by rw [hl, ← hps]; exact hNl) VS ok trivial tb, ?_⟩
  rw [e]
  intro tp' σ' H' v l st R V
  rw [RepV.bl V]
  exact post H'
end
theorem lsp_law {K : PySem.W.Frag} {n : Nat} {cs : Cs} {H : Hp} {a : Addr} {ns : List Int} (hO : Only H) (hS : SqL K H a (ns.map V.int)) (hΦ : ∃ env t, cs ([.val (.lst (ns.map D.int))] ++ List.replicate (n - 1) .un) none = some (.rt (.val (.bl true)), env, t)) :
    LSp K ⟨[], 0⟩ n cs [.ref a] H (fun v _ => v = .bl true) fun _ _ _ => False :=
  ⟨[.val (.lst (ns.map D.int))], rfl, .cons (Rep.lst (FzL.of_only hO hS) (Reps.ints ns)) .nil, rfl, (fun p hp => by cases hp), hΦ, fun _ => rfl⟩
theorem cx_false {P : Program} {w : World} {H : Hp} {s : Shared} {e : Value} {s' : Shared} (h : L2.CX P w [] H s (fun _ _ _ => False) e s') : False := by
  obtain ⟨_, _, _, _, _, _, _, _, _, _, _, _, z⟩ := h
  exact z
end MP

/-! MPk: how the plain meaning is reckoned; the tape's two defs. -/
namespace MP
open PySem PySem.Spec PyProof.Rows L2
abbrev I (i : Int) : Sl := .val (.int i)
abbrev Bo (b : Bool) : Sl := .val (.bl b)
theorem while_step {t : Tv} {f : Cs} {n : Nat} {env : SE} {ta : TapeO} : whileC t f (n + 1) env ta = (match t env ta with
    | none => none
    | some (.error x, ta') => some (.ex x, env, ta')
    | some (.ok false, ta') => some (.nx, env, ta')
    | some (.ok true, ta') => match f env ta' with
      | some (.nx, e', t') => whileC t f n e' t'
      | some (.ct, e', t') => whileC t f n e' t'
      | some (.bk, e', t') => some (.nx, e', t')
      | r => r) := rfl
/-! ### the steps of the plain meaning -/
section
variable {α β : Type}
def kX (r : Option (Except Str α × TapeO)) (k : α → TapeO → Option (Except Str β × TapeO)) : Option (Except Str β × TapeO) := match r with
  | none => none
  | some (.error x, t) => some (.error x, t)
  | some (.ok a, t) => k a t
@[simp] theorem kX_ok {a : α} {t : TapeO} {k : α → TapeO → Option (Except Str β × TapeO)} : kX (some (.ok a, t)) k = k a t := Eq.trans rfl rfl
@[simp] theorem kX_none {k : α → TapeO → Option (Except Str β × TapeO)} : kX none k = none := Eq.trans rfl rfl
@[simp] theorem kX_err {x : Str} {t : TapeO} {k : α → TapeO → Option (Except Str β × TapeO)} : kX (some (.error x, t)) k = some (.error x, t) := Eq.trans rfl rfl
def kS (r : Option (Except Str α × TapeO)) (env : SE) (k : α → TapeO → Option (Fl × SE × TapeO)) : Option (Fl × SE × TapeO) := match r with
  | none => none
  | some (.error x, t) => some (.ex x, env, t)
  | some (.ok a, t) => k a t
@[simp] theorem kS_ok {a : α} {t : TapeO} {env : SE} {k : α → TapeO → Option (Fl × SE × TapeO)} : kS (some (.ok a, t)) env k = k a t := Eq.trans rfl rfl
@[simp] theorem kS_none {env : SE} {k : α → TapeO → Option (Fl × SE × TapeO)} : kS none env k = none := Eq.trans rfl rfl
@[simp] theorem kS_err {x : Str} {t : TapeO} {env : SE} {k : α → TapeO → Option (Fl × SE × TapeO)} : kS (some (.error x, t)) env k = some (.ex x, env, t) := Eq.trans rfl rfl
def kQ (r : Option (Fl × SE × TapeO)) (k : SE → TapeO → Option (Fl × SE × TapeO)) : Option (Fl × SE × TapeO) := match r with
  | some (.nx, e, t) => k e t
  | r => r
@[simp] theorem kQ_nx {e : SE} {t : TapeO} {k : SE → TapeO → Option (Fl × SE × TapeO)} : kQ (some (.nx, e, t)) k = k e t := Eq.trans rfl rfl
@[simp] theorem kQ_none {k : SE → TapeO → Option (Fl × SE × TapeO)} : kQ none k = none := Eq.trans rfl rfl
@[simp] theorem kQ_rt {z : Sl} {e : SE} {t : TapeO} {k : SE → TapeO → Option (Fl × SE × TapeO)} : kQ (some (.rt z, e, t)) k = some (.rt z, e, t) := Eq.trans rfl rfl
@[simp] theorem kQ_bk {e : SE} {t : TapeO} {k : SE → TapeO → Option (Fl × SE × TapeO)} : kQ (some (.bk, e, t)) k = some (.bk, e, t) := Eq.trans rfl rfl
@[simp] theorem kQ_ct {e : SE} {t : TapeO} {k : SE → TapeO → Option (Fl × SE × TapeO)} : kQ (some (.ct, e, t)) k = some (.ct, e, t) := Eq.trans rfl rfl
@[simp] theorem kQ_ex {x : Str} {e : SE} {t : TapeO} {k : SE → TapeO → Option (Fl × SE × TapeO)} : kQ (some (.ex x, e, t)) k = some (.ex x, e, t) := Eq.trans rfl rfl
/-- a turn of a loop -/
def kL (r : Option (Fl × SE × TapeO)) (k : SE → TapeO → Option (Fl × SE × TapeO)) : Option (Fl × SE × TapeO) := match r with
  | some (.nx, e, t) => k e t
  | some (.ct, e, t) => k e t
  | some (.bk, e, t) => some (.nx, e, t)
  | r => r
@[simp] theorem kL_nx {e : SE} {t : TapeO} {k : SE → TapeO → Option (Fl × SE × TapeO)} : kL (some (.nx, e, t)) k = k e t := Eq.trans rfl rfl
@[simp] theorem kL_ct {e : SE} {t : TapeO} {k : SE → TapeO → Option (Fl × SE × TapeO)} : kL (some (.ct, e, t)) k = k e t := Eq.trans rfl rfl
@[simp] theorem kL_bk {e : SE} {t : TapeO} {k : SE → TapeO → Option (Fl × SE × TapeO)} : kL (some (.bk, e, t)) k = some (.nx, e, t) := Eq.trans rfl rfl
@[simp] theorem kL_none {k : SE → TapeO → Option (Fl × SE × TapeO)} : kL none k = none := Eq.trans rfl rfl
@[simp] theorem kL_rt {z : Sl} {e : SE} {t : TapeO} {k : SE → TapeO → Option (Fl × SE × TapeO)} : kL (some (.rt z, e, t)) k = some (.rt z, e, t) := Eq.trans rfl rfl
@[simp] theorem kL_ex {x : Str} {e : SE} {t : TapeO} {k : SE → TapeO → Option (Fl × SE × TapeO)} : kL (some (.ex x, e, t)) k = some (.ex x, e, t) := Eq.trans rfl rfl
/-- the end of a def -/
def kR (ta : TapeO) (r : Option (Fl × SE × TapeO)) : Option (Except Str Sl × TapeO) := match r with
  | some (.nx, _, t) => if t.isSome = ta.isSome then some (.ok (.val .non), t) else none
  | some (.rt z, _, t) => if t.isSome = ta.isSome then some (.ok z, t) else none
  | some (.ex x, _, t) => if t.isSome = ta.isSome then some (.error x, t) else none
  | _ => none
@[simp] theorem kR_nx {e : SE} {t ta : TapeO} : kR ta (some (.nx, e, t)) = if t.isSome = ta.isSome then some (.ok (.val .non), t) else none := Eq.trans rfl rfl
@[simp] theorem kR_rt {z : Sl} {e : SE} {t ta : TapeO} : kR ta (some (.rt z, e, t)) = if t.isSome = ta.isSome then some (.ok z, t) else none := Eq.trans rfl rfl
@[simp] theorem kR_ex {x : Str} {e : SE} {t ta : TapeO} : kR ta (some (.ex x, e, t)) = if t.isSome = ta.isSome then some (.error x, t) else none := Eq.trans rfl rfl
@[simp] theorem kR_none {ta : TapeO} : kR ta none = none := Eq.trans rfl rfl
def rdS (s : Option Sl) (ta : TapeO) : Option (Except Str Sl × TapeO) := match s with
  | some (.val d) => some (.ok (.val d), ta)
  | some (.own ds) => some (.ok (.bor ds), ta)
  | some .tape => some (.ok .tape, ta)
  | some (.dic ks) => some (.ok (.bdc ks), ta)
  | _ => none
@[simp] theorem rdS_dic {ks : List (Key × D)} {ta : TapeO} : rdS (some (.dic ks)) ta = some (.ok (.bdc ks), ta) := Eq.trans rfl rfl
@[simp] theorem rdS_val {d : D} {ta : TapeO} : rdS (some (.val d)) ta = some (.ok (.val d), ta) := Eq.trans rfl rfl
@[simp] theorem rdS_own {d : List D} {ta : TapeO} : rdS (some (.own d)) ta = some (.ok (.bor d), ta) := Eq.trans rfl rfl
@[simp] theorem rdS_tape {ta : TapeO} : rdS (some .tape) ta = some (.ok .tape, ta) := Eq.trans rfl rfl
def rtS (s : Option Sl) (env : SE) (ta : TapeO) : Option (Fl × SE × TapeO) := match s with
  | some (.val d) => some (.rt (.val d), env, ta)
  | some (.own ds) => some (.rt (.own ds), env, ta)
  | some .tape => some (.rt .tape, env, ta)
  | some (.dic ks) => some (.rt (.dic ks), env, ta)
  | _ => none
@[simp] theorem rtS_dic {ks : List (Key × D)} {env : SE} {ta : TapeO} : rtS (some (.dic ks)) env ta = some (.rt (.dic ks), env, ta) := Eq.trans rfl rfl
@[simp] theorem rtS_val {d : D} {env : SE} {ta : TapeO} : rtS (some (.val d)) env ta = some (.rt (.val d), env, ta) := Eq.trans rfl rfl
@[simp] theorem rtS_own {d : List D} {env : SE} {ta : TapeO} : rtS (some (.own d)) env ta = some (.rt (.own d), env, ta) := Eq.trans rfl rfl
@[simp] theorem rtS_tape {env : SE} {ta : TapeO} : rtS (some .tape) env ta = some (.rt .tape, env, ta) := Eq.trans rfl rfl
def escS : Sl → TapeO → Option (Except Str Sl × TapeO)
  | .val d, t => some (.ok (.val d), t)
  | .own ds, t => some (.ok (.val (.lst ds)), t)
  | .tape, t => some (.ok .tape, t)
  | _, _ => none
@[simp] theorem escS_val {d : D} {t : TapeO} : escS (.val d) t = some (.ok (.val d), t) := Eq.trans rfl rfl
@[simp] theorem escS_own {d : List D} {t : TapeO} : escS (.own d) t = some (.ok (.val (.lst d)), t) := Eq.trans rfl rfl
end
section
variable {f g h : Ev} {t u : Tv} {op op' : Sl → Sl → Option Sl} {fs : List Ev} {env : SE} {ta : TapeO} {i j n : Nat} {cs ds : Cs} {it : Iv} {tg : Tg}
@[simp] theorem varE_ap : varE i env ta = rdS env[i]? ta := by
  unfold varE
  rcases env[i]? with _ | s
  · rfl
  · cases s <;> rfl
@[simp] theorem cstE_ap {d : D} : cstE d env ta = some (.ok (.val d), ta) := Eq.trans rfl rfl
theorem bindE_ap {k : Sl → Ev} : bindE f k env ta = kX (f env ta) fun r t => k r env t := by
  unfold bindE
  rcases f env ta with _ | ⟨_ | _, _⟩ <;> rfl
theorem bindT_ap {k : Bool → Tv} : bindT t k env ta = kX (t env ta) fun r t => k r env t := by
  unfold bindT
  rcases t env ta with _ | ⟨_ | _, _⟩ <;> rfl
theorem onE_ap {k : Sl → Cs} : onE f k env ta = kS (f env ta) env fun r t => k r env t := by
  unfold onE
  rcases f env ta with _ | ⟨_ | _, _⟩ <;> rfl
theorem kX_ext {α β : Type} {r : Option (Except Str α × TapeO)} {k k' : α → TapeO → Option (Except Str β × TapeO)} (h : ∀ a t, k a t = k' a t) : kX r k = kX r k' := by
  have : k = k' := funext fun a => funext fun t => h a t
  rw [this]
theorem kS_ext {α : Type} {r : Option (Except Str α × TapeO)} {env : SE} {k k' : α → TapeO → Option (Fl × SE × TapeO)} (h : ∀ a t, k a t = k' a t) : kS r env k = kS r env k' := by
  have : k = k' := funext fun a => funext fun t => h a t
  rw [this]
theorem binE_ap0 : binE op f g env ta = kX (f env ta) fun x t => kX (g env t) fun y t2 => (op x y).map fun z => (.ok z, t2) := by
  unfold binE
  rw [bindE_ap]
  refine kX_ext fun x t => ?_
  rw [bindE_ap]
theorem unE_ap0 {o : Sl → Option Sl} : unE o f env ta = kX (f env ta) fun x t => (o x).map fun z => (.ok z, t) := by
  unfold unE
  rw [bindE_ap]
theorem ofE_ap0 : ofE f env ta = kX (f env ta) fun r t => (truthS r).map fun b => (.ok b, t) := by
  unfold ofE
  rcases f env ta with _ | ⟨_ | _, _⟩ <;> rfl
theorem notT_ap0 : notT t env ta = kX (t env ta) fun b t1 => some (.ok (!b), t1) := by
  unfold notT
  rw [bindT_ap]
theorem andT_ap0 : andT t u env ta = kX (t env ta) fun b t1 => if b = true then u env t1 else some (.ok false, t1) := by
  unfold andT
  rw [bindT_ap]
  refine kX_ext fun b t1 => ?_
  cases b <;> rfl
theorem orT_ap0 : orT t u env ta = kX (t env ta) fun b t1 => if b = true then some (.ok true, t1) else u env t1 := by
  unfold orT
  rw [bindT_ap]
  refine kX_ext fun b t1 => ?_
  cases b <;> rfl
def blS : Sl → Option Bool
  | .val (.bl b) => some b
  | _ => none
@[simp] theorem blS_bl {b : Bool} : blS (.val (.bl b)) = some b := rfl
def kO {α β : Type} (r : Option α) (k : α → Option β) : Option β := match r with
  | some a => k a
  | none => none
@[simp] theorem kO_some {α β : Type} {a : α} {k : α → Option β} : kO (some a) k = k a := Eq.trans rfl rfl
@[simp] theorem kO_none {α β : Type} {k : α → Option β} : kO none k = none := Eq.trans rfl rfl
theorem notE_ap0 : notE f env ta = kX (f env ta) fun x t1 => kO (blS x) fun b => some (.ok (.val (.bl (!b))), t1) := by
  unfold notE
  rw [bindE_ap]
  refine kX_ext fun x t1 => ?_
  rcases x with _ | d | _ | _ | _ <;> first | rfl | (cases d <;> rfl)
theorem andE_ap0 : andE f g env ta = kX (f env ta) fun x t1 => kO (blS x) fun b => if b = true then g env t1 else some (.ok (.val (.bl false)), t1) := by
  unfold andE
  rw [bindE_ap]
  refine kX_ext fun x t1 => ?_
  rcases x with _ | d | _ | _ | _ <;> first | rfl | (rcases d with _ | b | _ | _ | _ | _ <;> first | rfl | (cases b <;> rfl))
theorem orE_ap0 : orE f g env ta = kX (f env ta) fun x t1 => kO (blS x) fun b => if b = true then some (.ok (.val (.bl true)), t1) else g env t1 := by
  unfold orE
  rw [bindE_ap]
  refine kX_ext fun x t1 => ?_
  rcases x with _ | d | _ | _ | _ <;> first | rfl | (rcases d with _ | b | _ | _ | _ | _ <;> first | rfl | (cases b <;> rfl))
theorem ifE_ap0 : ifE t f g env ta = kX (t env ta) fun b t1 => if b = true then f env t1 else g env t1 := by
  unfold ifE
  rcases t env ta with _ | ⟨_ | b, _⟩ <;> first | rfl | (cases b <;> rfl)
@[simp] theorem evs_nil : evs [] env ta = some (.ok [], ta) := Eq.trans rfl rfl
theorem evs_cons0 : evs (f :: fs) env ta = kX (f env ta) fun r t1 => kX (evs fs env t1) fun rs t2 => some (.ok (r :: rs), t2) := by
  rw [evs]
  rcases f env ta with _ | ⟨_ | a, t⟩
  · rfl
  · rfl
  · show _ = kX (evs fs env t) _
    dsimp only
    rcases evs fs env t with _ | ⟨_ | _, _⟩ <;> rfl
theorem callE_ap0 {o : List Sl → Option Sl} : callE o fs env ta = kX (evs fs env ta) fun rs t1 => (o rs).map fun z => (.ok z, t1) := by
  unfold callE
  rcases evs fs env ta with _ | ⟨_ | _, _⟩ <;> rfl
theorem callF_ap0 {Φ : Fn} : callF Φ fs env ta = kX (evs fs env ta) fun rs t1 => if rs.all Sl.arg? = true then Φ rs t1 else none := by
  unfold callF
  rcases evs fs env ta with _ | ⟨_ | _, _⟩ <;> rfl
theorem lstE_ap0 : lstE fs env ta = kX (evs fs env ta) fun rs t1 => (vals? rs).map fun ds => (.ok (.own ds), t1) := by
  unfold lstE dispE
  rcases evs fs env ta with _ | ⟨_ | _, _⟩ <;> rfl
theorem tupE_ap0 : tupE fs env ta = kX (evs fs env ta) fun rs t1 => (vals? rs).map fun ds => (.ok (.val (.tup ds)), t1) := by
  unfold tupE dispE
  rcases evs fs env ta with _ | ⟨_ | _, _⟩ <;> rfl
@[simp] theorem vals_nil : vals? [] = some [] := rfl
@[simp] theorem vals_cons {d : D} {r : List Sl} : vals? (.val d :: r) = (vals? r).map (d :: ·) := rfl
@[simp] theorem arg_val {d : D} : Sl.arg? (.val d) = true := rfl
@[simp] theorem arg_tape : Sl.arg? .tape = true := rfl
theorem escE_ap0 : escE f env ta = kX (f env ta) escS := by
  unfold escE
  rw [bindE_ap]
  refine kX_ext fun x t1 => ?_
  cases x <;> rfl
theorem chainE_ap0 : chainE op op' f g h env ta = kX (f env ta) fun x t1 => kX (g env t1) fun y t2 => kO ((op x y).bind blS) fun b => if b = true then kX (h env t2) fun z t3 => (op' y z).map fun w => (.ok w, t3) else some (.ok (.val (.bl false)), t2) := by
  unfold chainE
  rw [bindE_ap]
  refine kX_ext fun x t1 => ?_
  rw [bindE_ap]
  refine kX_ext fun y t2 => ?_
  rcases op x y with _ | z
  · rfl
  · rcases z with _ | d | _ | _ | _ <;> first | rfl | skip
    rcases d with _ | b | _ | _ | _ | _ <;> first | rfl | skip
    cases b
    · rfl
    · dsimp only
      rw [bindE_ap]
      rfl
@[simp] theorem store_val {d : D} : Sl.store? (.val d) = some (.val d) := rfl
@[simp] theorem store_own {d : List D} : Sl.store? (.own d) = some (.own d) := rfl
@[simp] theorem store_tape : Sl.store? .tape = some .tape := rfl
@[simp] theorem store_dic {ks : List (Key × D)} : Sl.store? (.dic ks) = some (.dic ks) := rfl
theorem asgC_ap0 : asgC i f env ta = kS (f env ta) env fun r t1 => r.store?.map fun s => (.nx, env.set i s, t1) := by
  unfold asgC; rw [onE_ap]
theorem augC_ap0 : augC i op f env ta = kS (binE op (varE i) f env ta) env fun r t1 => r.store?.map fun s => (.nx, env.set i s, t1) := by unfold augC; rw [asgC_ap0]
theorem retC_ap0 : retC f env ta = kS (f env ta) env fun r t1 => r.store?.map fun s => (.rt s, env, t1) := by
  unfold retC; rw [onE_ap]
@[simp] theorem retNC_ap : retNC env ta = some (.rt (.val .non), env, ta) := Eq.trans rfl rfl
@[simp] theorem retVC_ap : retVC i env ta = rtS env[i]? env ta := by
  unfold retVC
  rcases env[i]? with _ | s
  · rfl
  · cases s <;> rfl
theorem dropC_ap0 : dropC f env ta = kS (f env ta) env fun _ t1 => some (.nx, env, t1) := by
  unfold dropC; rw [onE_ap]
@[simp] theorem skipC_ap : skipC env ta = some (.nx, env, ta) := Eq.trans rfl rfl
@[simp] theorem breakC_ap : breakC env ta = some (.bk, env, ta) := Eq.trans rfl rfl
@[simp] theorem contC_ap : contC env ta = some (.ct, env, ta) := Eq.trans rfl rfl
@[simp] theorem neverC_ap : neverC env ta = none := Eq.trans rfl rfl
@[simp] theorem seqC_ap : seqC cs ds env ta = kQ (cs env ta) ds := by
  unfold seqC
  rcases cs env ta with _ | ⟨fl, _, _⟩
  · rfl
  · cases fl <;> rfl
theorem ifC_ap0 : ifC t cs ds env ta = kS (t env ta) env fun b t1 => if b = true then cs env t1 else ds env t1 := by
  unfold ifC
  rcases t env ta with _ | ⟨_ | b, _⟩ <;> first | rfl | (cases b <;> rfl)
theorem while_ap0 : whileC t cs (n + 1) env ta = kS (t env ta) env fun b t1 => if b = true then kL (cs env t1) (whileC t cs n) else some (.nx, env, t1) := by
  rw [while_step]
  rcases t env ta with _ | ⟨_ | b, t1⟩
  · rfl
  · rfl
  · cases b
    · rfl
    · show _ = kL (cs env t1) _
      dsimp only
      rcases cs env t1 with _ | ⟨fl, _, _⟩
      · rfl
      · cases fl <;> rfl
theorem forC_ap0 : forC it tg cs env ta = kS (it env ta) env fun ds t1 => forL tg cs ds env t1 := by
  unfold forC
  rcases it env ta with _ | ⟨_ | _, _⟩ <;> rfl
@[simp] theorem forL_nil : forL tg cs [] env ta = some (.nx, env, ta) := Eq.trans rfl rfl
theorem forL_cons0 {d : D} {l : List D} : forL tg cs (d :: l) env ta = kO (tg.set d env) fun env1 => kL (cs env1 ta) (forL tg cs l) := by
  rw [forL]
  dsimp only
  rcases tg.set d env with _ | env1
  · rfl
  · show _ = kL (cs env1 ta) _
    (try dsimp only)
    rcases cs env1 ta with _ | ⟨fl, _, _⟩
    · rfl
    · cases fl <;> rfl
@[simp] theorem set_one {d : D} : Tg.set (.one j) d env = some (env.set j (.val d)) := rfl
@[simp] theorem set_tup {js : List Nat} {l : List D} : Tg.set (.tup js) (.tup l) env = if l.length = js.length then some (setAll js l env) else none := rfl
@[simp] theorem setAll_nil {l : List D} : setAll [] l env = env := by cases l <;> rfl
@[simp] theorem setAll_cons {js : List Nat} {d : D} {l : List D} : setAll (j :: js) (d :: l) env = setAll js l (env.set j (.val d)) := rfl
def frzOf : Sl → Option (List D)
  | .val (.tup ds) => some ds
  | .val (.lst ds) => some ds
  | _ => none
@[simp] theorem frzOf_tup {l : List D} : frzOf (.val (.tup l)) = some l := rfl
@[simp] theorem frzOf_lst {l : List D} : frzOf (.val (.lst l)) = some l := rfl
theorem seqF_ap0 : seqF f env ta = kX (f env ta) fun r t1 => (frzOf r).map fun l => (.ok l, t1) := by
  unfold seqF
  rcases f env ta with _ | ⟨_ | r, _⟩
  · rfl
  · rfl
  · rcases r with _ | d | _ | _ | _ <;> first | rfl | (cases d <;> rfl)
@[simp] theorem seq_tup {l : List D} : Sl.seq? (.val (.tup l)) = some l := rfl
@[simp] theorem seq_lst {l : List D} : Sl.seq? (.val (.lst l)) = some l := rfl
@[simp] theorem seq_own {l : List D} : Sl.seq? (.own l) = some l := rfl
@[simp] theorem seq_bor {l : List D} : Sl.seq? (.bor l) = some l := rfl
@[simp] theorem items_lst {l : List D} : Sl.items? (.val (.lst l)) = some l := rfl
@[simp] theorem items_own {l : List D} : Sl.items? (.own l) = some l := rfl
@[simp] theorem items_bor {l : List D} : Sl.items? (.bor l) = some l := rfl
@[simp] theorem dat_val {d : D} : Sl.dat? (.val d) = some d := rfl
@[simp] theorem dat_own {l : List D} : Sl.dat? (.own l) = some (.lst l) := rfl
@[simp] theorem dat_bor {l : List D} : Sl.dat? (.bor l) = some (.lst l) := rfl
theorem seqI_ap0 : seqI f env ta = kX (f env ta) fun r t1 => r.seq?.map fun l => (.ok l, t1) := by
  unfold seqI
  rcases f env ta with _ | ⟨_ | _, _⟩ <;> rfl
theorem argI_ap0 {o : List Sl → Option (List D)} : argI o fs env ta = kX (evs fs env ta) fun rs t1 => (o rs).map fun l => (.ok l, t1) := by
  unfold argI
  rcases evs fs env ta with _ | ⟨_ | _, _⟩ <;> rfl
def tupOf : Sl → Option (List D)
  | .val (.tup ds) => some ds
  | _ => none
@[simp] theorem tupOf_tup {l : List D} : tupOf (.val (.tup l)) = some l := rfl
theorem unpC_ap0 {js : List Nat} : unpC js f env ta = kS (f env ta) env fun r t1 => kO (tupOf r) fun l => if l.length = js.length then some (.nx, setAll js l env, t1) else none := by
  unfold unpC
  rw [onE_ap]
  refine kS_ext fun r t1 => ?_
  rcases r with _ | d | _ | _ | _ <;> first | rfl | (cases d <;> rfl)
theorem unpLC_ap0 {js : List Nat} : unpLC js f env ta = kS (f env ta) env fun r t1 => kO (listOf r) fun l => if l.length = js.length then some (.nx, setAll js l env, t1) else none := by
  unfold unpLC
  rw [onE_ap]
  refine kS_ext fun r t1 => ?_
  rcases listOf r with _ | _ <;> rfl
@[simp] theorem listOf_own {l : List D} : listOf (.own l) = some l := rfl
@[simp] theorem listOf_lst {l : List D} : listOf (.val (.lst l)) = some l := rfl
def parS (i j : Nat) (env : SE) (rs : List Sl) (t : TapeO) : Option (Fl × SE × TapeO) := match rs with
  | [p, .val d] => p.store?.map fun s => (.nx, (env.set i s).set j (.val d), t)
  | _ => none
@[simp] theorem parS_two {p : Sl} {d : D} : parS i j env [p, .val d] ta = p.store?.map fun s => (.nx, (env.set i s).set j (.val d), ta) := Eq.trans rfl rfl
theorem par2C_ap0 : par2C i j fs env ta = kS (evs fs env ta) env (parS i j env) := by
  unfold par2C
  rcases evs fs env ta with _ | ⟨_ | rs, t⟩
  · rfl
  · rfl
  · show _ = parS i j env rs t
    (try dsimp only)
    match rs with
    | [] => rfl
    | [_] => rfl
    | [p, q] =>
      dsimp only
      cases hp : p.store? <;> cases q <;> simp [parS, hp]
    | a :: b :: c :: l => cases b <;> rfl
@[simp] theorem yesT_ap : yesT env ta = some (.ok true, ta) := Eq.trans rfl rfl
@[simp] theorem compL_nil : compL tg t f [] env ta = some ([], ta) := Eq.trans rfl rfl
def kC {β : Type} (r : Option (Except Str Sl × TapeO)) (k : D → TapeO → Option β) : Option β := match r with
  | some (.ok (.val d), t) => k d t
  | _ => none
@[simp] theorem kC_val {β : Type} {d : D} {t : TapeO} {k : D → TapeO → Option β} : kC (some (.ok (.val d), t)) k = k d t := Eq.trans rfl rfl
def kD {β : Type} (r : Option (Except Str Bool × TapeO)) (k : Bool → TapeO → Option β) : Option β := match r with
  | some (.ok b, t) => k b t
  | _ => none
@[simp] theorem kD_ok {β : Type} {b : Bool} {t : TapeO} {k : Bool → TapeO → Option β} : kD (some (.ok b, t)) k = k b t := Eq.trans rfl rfl
theorem compL_cons0 {d : D} {l : List D} : compL tg t f (d :: l) env ta = kO (tg.set d env) fun env1 => kD (t env1 ta) fun b t1 => if b = true then kC (f env1 t1) fun y t2 => (compL tg t f l env t2).map fun p => (y :: p.1, p.2) else compL tg t f l env t1 := by
  rw [compL]
  rcases tg.set d env with _ | env1
  · rfl
  · show _ = kD (t env1 ta) _
    (try dsimp only)
    rcases t env1 ta with _ | ⟨_ | b, t1⟩
    · rfl
    · rfl
    · cases b
      · rfl
      · show _ = kC (f env1 t1) _
        (try dsimp only)
        rcases f env1 t1 with _ | ⟨_ | r, t2⟩
        · rfl
        · rfl
        · cases r <;> rfl
theorem compE_ap0 {vs : List Nat} : compE it vs tg t f env ta = kX (it env ta) fun l t1 => if l.length < LIM then (compL tg t f l (wipeE env vs) t1).map fun p => (.ok (.own p.1), p.2) else none := by
  unfold compE
  rcases it env ta with _ | ⟨_ | _, _⟩ <;> rfl
@[simp] theorem wipe_nil : wipeE env [] = env := rfl
@[simp] theorem wipe_cons {v : Nat} {vs : List Nat} : wipeE env (v :: vs) = (wipeE env vs).set v .un := rfl
theorem defF_ap {args : List Sl} : defF n cs args ta = kR ta (cs (args ++ List.replicate (n - args.length) .un) ta) := by
  unfold defF
  rcases cs (args ++ List.replicate (n - args.length) .un) ta with _ | ⟨fl, _, _⟩
  · rfl
  · cases fl <;> rfl
def frzS (env : SE) (i : Nat) (s : Option Sl) (ta : TapeO) : Option (Fl × SE × TapeO) := match s with
  | some (.own ds) => some (.nx, env.set i (.val (.lst ds)), ta)
  | some _ => some (.nx, env, ta)
  | none => none
@[simp] theorem frzS_own {l : List D} : frzS env i (some (.own l)) ta = some (.nx, env.set i (.val (.lst l)), ta) := Eq.trans rfl rfl
@[simp] theorem frzS_val {d : D} : frzS env i (some (.val d)) ta = some (.nx, env, ta) := Eq.trans rfl rfl
@[simp] theorem frzS_tape : frzS env i (some .tape) ta = some (.nx, env, ta) := Eq.trans rfl rfl
@[simp] theorem frzS_un : frzS env i (some .un) ta = some (.nx, env, ta) := Eq.trans rfl rfl
@[simp] theorem frzC_ap : frzC i env ta = frzS env i env[i]? ta := by
  unfold frzC
  rcases env[i]? with _ | s
  · rfl
  · cases s <;> rfl
def ownOf : Option Sl → Option (List D)
  | some (.own l) => some l
  | _ => none
@[simp] theorem ownOf_own {l : List D} : ownOf (some (.own l)) = some l := rfl
def valOf : Sl → Option D
  | .val d => some d
  | _ => none
@[simp] theorem valOf_val {d : D} : valOf (.val d) = some d := rfl
def intOf : Sl → Option Int
  | .val (.int i) => some i
  | _ => none
@[simp] theorem intOf_int {i : Int} : intOf (.val (.int i)) = some i := rfl
theorem appC_ap0 : appC i f env ta = kO (ownOf env[i]?) fun l => kS (f env ta) env fun r t1 => kO (valOf r) fun d => if l.length < LIM then some (.nx, env.set i (.own (l ++ [d])), t1) else none := by
  unfold appC
  rcases env[i]? with _ | s
  · rfl
  · cases s <;> first | rfl | skip
    show onE _ _ _ _ = kS _ _ _
    rw [onE_ap]
    refine kS_ext fun r t1 => ?_
    cases r <;> rfl
theorem setC_ap0 : setC i f g env ta = kS (f env ta) env fun r t1 => kO (ownOf env[i]?) fun l => kS (g env t1) env fun q t2 => kO (valOf r) fun d => kO (intOf q) fun k => (ixN l.length k).map fun m => (.nx, env.set i (.own (l.set m d)), t2) := by
  unfold setC
  rw [onE_ap]
  refine kS_ext fun r t1 => ?_
  (try dsimp only)
  rcases env[i]? with _ | s
  · rfl
  · cases s <;> first | rfl | skip
    show onE _ _ _ _ = kS _ _ _
    rw [onE_ap]
    refine kS_ext fun q t2 => ?_
    rcases r with _ | d | _ | _ | _ <;> first | rfl | (rcases q with _ | d2 | _ | _ | _ <;> first | rfl | (cases d2 <;> rfl))
def tgS (k : Nat) (s : Option Sl) (ta : TapeO) : Option (Except Str Sl × TapeO) := match s, ta with
  | some .tape, some t => (t.get k).map fun d => (.ok (.val d), ta)
  | _, _ => none
@[simp] theorem tgS_tape {k : Nat} {t : Tape} : tgS k (some .tape) (some t) = (t.get k).map fun d => (.ok (.val d), some t) := Eq.trans rfl rfl
@[simp] theorem tgetE_ap {k : Nat} : tgetE i k env ta = tgS k env[i]? ta := by
  unfold tgetE
  rcases env[i]? with _ | s
  · rfl
  · cases s <;> cases ta <;> rfl
def tsS (k : Nat) (env : SE) (s : Option Sl) (r : Sl) (ta : TapeO) : Option (Fl × SE × TapeO) := match s, ta, r with
  | some .tape, some t, .val (.int v) => (t.put v k).map fun t' => (.nx, env, some t')
  | _, _, _ => none
@[simp] theorem tsS_tape {k : Nat} {t : Tape} {v : Int} : tsS k env (some .tape) (.val (.int v)) (some t) = (t.put v k).map fun t' => (.nx, env, some t') := Eq.trans rfl rfl
theorem tsetC_ap0 {k : Nat} : tsetC i k f env ta = kS (f env ta) env fun r t1 => tsS k env env[i]? r t1 := by
  unfold tsetC
  rw [onE_ap]
  refine kS_ext fun r t1 => ?_
  (try dsimp only)
  rcases env[i]? with _ | s
  · rfl
  · cases s <;> cases t1 <;> rcases r with _ | d2 | _ | _ | _ <;> first | rfl | (cases d2 <;> rfl)
@[simp] theorem tapeC_ap : tapeC i env ta = tpS env i env[i]? ta := rfl
@[simp] theorem tpS_own {ns : List Int} {p l s : Int} : tpS env i (some (.own [.lst (ns.map D.int), .int p, .int l, .int s])) none = if 0 ≤ p then some (.nx, env.set i .tape, some ⟨ns, p.toNat, l, s⟩) else none := by
  unfold tpS
  dsimp only
  rw [ints?_map]
end
/-! ### the steps without a bound name: what simp reads -/
section
variable {f g h : Ev} {t u : Tv} {op op' : Sl → Sl → Option Sl} {fs : List Ev} {env env1 : SE} {ta t1 : TapeO} {i j n : Nat} {cs ds : Cs} {it : Iv} {tg : Tg} {x y : Sl} {e : Str} {b : Bool} {l : List D} {js vs : List Nat}
abbrev RE := Option (Except Str Sl × TapeO)
abbrev RB := Option (Except Str Bool × TapeO)
abbrev RA := Option (Except Str (List Sl) × TapeO)
abbrev RD := Option (Except Str (List D) × TapeO)
abbrev RC := Option (Fl × SE × TapeO)
def binK2 (op : Sl → Sl → Option Sl) (x : Sl) (r : RE) : RE := kX r fun y t1 => (op x y).map fun z => (.ok z, t1)
@[simp] theorem binK2_ok {op : Sl → Sl → Option Sl} {x : Sl} {y : Sl} {t1 : TapeO} : binK2 op x (some (.ok y, t1)) = (op x y).map fun z => (.ok z, t1) := Eq.trans rfl rfl
@[simp] theorem binK2_none {op : Sl → Sl → Option Sl} {x : Sl} : binK2 op x none = none := Eq.trans rfl rfl
@[simp] theorem binK2_err {op : Sl → Sl → Option Sl} {x : Sl} {e : Str} {t1 : TapeO} : binK2 op x (some (.error e, t1)) = some (.error e, t1) := Eq.trans rfl rfl
def binK1 (op : Sl → Sl → Option Sl) (g : Ev) (env : SE) (r : RE) : RE := kX r fun x t1 => binK2 op x (g env t1)
@[simp] theorem binK1_ok {op : Sl → Sl → Option Sl} {g : Ev} {env : SE} {x : Sl} {t1 : TapeO} : binK1 op g env (some (.ok x, t1)) = binK2 op x (g env t1) := Eq.trans rfl rfl
@[simp] theorem binK1_none {op : Sl → Sl → Option Sl} {g : Ev} {env : SE} : binK1 op g env none = none := Eq.trans rfl rfl
@[simp] theorem binK1_err {op : Sl → Sl → Option Sl} {g : Ev} {env : SE} {e : Str} {t1 : TapeO} : binK1 op g env (some (.error e, t1)) = some (.error e, t1) := Eq.trans rfl rfl
@[simp] theorem binE_ap : binE op f g env ta = binK1 op g env (f env ta) := binE_ap0
def unK (o : Sl → Option Sl) (r : RE) : RE := kX r fun x t1 => (o x).map fun z => (.ok z, t1)
@[simp] theorem unK_ok {o : Sl → Option Sl} {x : Sl} {t1 : TapeO} : unK o (some (.ok x, t1)) = (o x).map fun z => (.ok z, t1) := Eq.trans rfl rfl
@[simp] theorem unK_none {o : Sl → Option Sl} : unK o none = none := Eq.trans rfl rfl
@[simp] theorem unK_err {o : Sl → Option Sl} {e : Str} {t1 : TapeO} : unK o (some (.error e, t1)) = some (.error e, t1) := Eq.trans rfl rfl
@[simp] theorem unE_ap {o : Sl → Option Sl} : unE o f env ta = unK o (f env ta) := unE_ap0
def ofK  (r : RE) : RB := kX r fun x t1 => (truthS x).map fun b => (.ok b, t1)
@[simp] theorem ofK_ok  {x : Sl} {t1 : TapeO} : ofK  (some (.ok x, t1)) = (truthS x).map fun b => (.ok b, t1) := Eq.trans rfl rfl
@[simp] theorem ofK_none  : ofK  none = none := Eq.trans rfl rfl
@[simp] theorem ofK_err  {e : Str} {t1 : TapeO} : ofK  (some (.error e, t1)) = some (.error e, t1) := Eq.trans rfl rfl
@[simp] theorem ofE_ap : ofE f env ta = ofK (f env ta) := ofE_ap0
def notK  (r : RB) : RB := kX r fun b t1 => some (.ok (!b), t1)
@[simp] theorem notK_ok  {b : Bool} {t1 : TapeO} : notK  (some (.ok b, t1)) = some (.ok (!b), t1) := Eq.trans rfl rfl
@[simp] theorem notK_none  : notK  none = none := Eq.trans rfl rfl
@[simp] theorem notK_err  {e : Str} {t1 : TapeO} : notK  (some (.error e, t1)) = some (.error e, t1) := Eq.trans rfl rfl
@[simp] theorem notT_ap : notT t env ta = notK (t env ta) := notT_ap0
def andK (u : Tv) (env : SE) (r : RB) : RB := kX r fun b t1 => if b = true then u env t1 else some (.ok false, t1)
@[simp] theorem andK_ok {u : Tv} {env : SE} {b : Bool} {t1 : TapeO} : andK u env (some (.ok b, t1)) = if b = true then u env t1 else some (.ok false, t1) := Eq.trans rfl rfl
@[simp] theorem andK_none {u : Tv} {env : SE} : andK u env none = none := Eq.trans rfl rfl
@[simp] theorem andK_err {u : Tv} {env : SE} {e : Str} {t1 : TapeO} : andK u env (some (.error e, t1)) = some (.error e, t1) := Eq.trans rfl rfl
@[simp] theorem andT_ap : andT t u env ta = andK u env (t env ta) := andT_ap0
def orK (u : Tv) (env : SE) (r : RB) : RB := kX r fun b t1 => if b = true then some (.ok true, t1) else u env t1
@[simp] theorem orK_ok {u : Tv} {env : SE} {b : Bool} {t1 : TapeO} : orK u env (some (.ok b, t1)) = if b = true then some (.ok true, t1) else u env t1 := Eq.trans rfl rfl
@[simp] theorem orK_none {u : Tv} {env : SE} : orK u env none = none := Eq.trans rfl rfl
@[simp] theorem orK_err {u : Tv} {env : SE} {e : Str} {t1 : TapeO} : orK u env (some (.error e, t1)) = some (.error e, t1) := Eq.trans rfl rfl
@[simp] theorem orT_ap : orT t u env ta = orK u env (t env ta) := orT_ap0
def notEK  (r : RE) : RE := kX r fun x t1 => (blS x).map fun b => (.ok (.val (.bl (!b))), t1)
@[simp] theorem notEK_ok  {x : Sl} {t1 : TapeO} : notEK  (some (.ok x, t1)) = (blS x).map fun b => (.ok (.val (.bl (!b))), t1) := Eq.trans rfl rfl
@[simp] theorem notEK_none  : notEK  none = none := Eq.trans rfl rfl
@[simp] theorem notEK_err  {e : Str} {t1 : TapeO} : notEK  (some (.error e, t1)) = some (.error e, t1) := Eq.trans rfl rfl
@[simp] theorem notE_ap : notE f env ta = notEK (f env ta) := by
  rw [notE_ap0]
  unfold notEK
  refine kX_ext fun x t1 => ?_
  cases blS x <;> rfl
def andB (g : Ev) (env : SE) (t1 : TapeO) (o : Option Bool) : RE := kO o fun b => if b = true then g env t1 else some (.ok (.val (.bl false)), t1)
@[simp] theorem andB_some {g : Ev} {env : SE} {t1 : TapeO} {b : Bool} : andB g env t1 (some b) = if b = true then g env t1 else some (.ok (.val (.bl false)), t1) := Eq.trans rfl rfl
def orB (g : Ev) (env : SE) (t1 : TapeO) (o : Option Bool) : RE := kO o fun b => if b = true then some (.ok (.val (.bl true)), t1) else g env t1
@[simp] theorem orB_some {g : Ev} {env : SE} {t1 : TapeO} {b : Bool} : orB g env t1 (some b) = if b = true then some (.ok (.val (.bl true)), t1) else g env t1 := Eq.trans rfl rfl
def andEK (g : Ev) (env : SE) (r : RE) : RE := kX r fun x t1 => andB g env t1 (blS x)
@[simp] theorem andEK_ok {g : Ev} {env : SE} {x : Sl} {t1 : TapeO} : andEK g env (some (.ok x, t1)) = andB g env t1 (blS x) := Eq.trans rfl rfl
@[simp] theorem andEK_none {g : Ev} {env : SE} : andEK g env none = none := Eq.trans rfl rfl
@[simp] theorem andEK_err {g : Ev} {env : SE} {e : Str} {t1 : TapeO} : andEK g env (some (.error e, t1)) = some (.error e, t1) := Eq.trans rfl rfl
@[simp] theorem andE_ap : andE f g env ta = andEK g env (f env ta) := andE_ap0
def orEK (g : Ev) (env : SE) (r : RE) : RE := kX r fun x t1 => orB g env t1 (blS x)
@[simp] theorem orEK_ok {g : Ev} {env : SE} {x : Sl} {t1 : TapeO} : orEK g env (some (.ok x, t1)) = orB g env t1 (blS x) := Eq.trans rfl rfl
@[simp] theorem orEK_none {g : Ev} {env : SE} : orEK g env none = none := Eq.trans rfl rfl
@[simp] theorem orEK_err {g : Ev} {env : SE} {e : Str} {t1 : TapeO} : orEK g env (some (.error e, t1)) = some (.error e, t1) := Eq.trans rfl rfl
@[simp] theorem orE_ap : orE f g env ta = orEK g env (f env ta) := orE_ap0
def ifEK (f g : Ev) (env : SE) (r : RB) : RE := kX r fun b t1 => if b = true then f env t1 else g env t1
@[simp] theorem ifEK_ok {f g : Ev} {env : SE} {b : Bool} {t1 : TapeO} : ifEK f g env (some (.ok b, t1)) = if b = true then f env t1 else g env t1 := Eq.trans rfl rfl
@[simp] theorem ifEK_none {f g : Ev} {env : SE} : ifEK f g env none = none := Eq.trans rfl rfl
@[simp] theorem ifEK_err {f g : Ev} {env : SE} {e : Str} {t1 : TapeO} : ifEK f g env (some (.error e, t1)) = some (.error e, t1) := Eq.trans rfl rfl
@[simp] theorem ifE_ap : ifE t f g env ta = ifEK f g env (t env ta) := ifE_ap0
def evK2 (x : Sl) (r : RA) : RA := kX r fun rs t1 => some (.ok (x :: rs), t1)
@[simp] theorem evK2_ok {x : Sl} {rs : List Sl} {t1 : TapeO} : evK2 x (some (.ok rs, t1)) = some (.ok (x :: rs), t1) := Eq.trans rfl rfl
@[simp] theorem evK2_none {x : Sl} : evK2 x none = none := Eq.trans rfl rfl
@[simp] theorem evK2_err {x : Sl} {e : Str} {t1 : TapeO} : evK2 x (some (.error e, t1)) = some (.error e, t1) := Eq.trans rfl rfl
def evK1 (fs : List Ev) (env : SE) (r : RE) : RA := kX r fun x t1 => evK2 x (evs fs env t1)
@[simp] theorem evK1_ok {fs : List Ev} {env : SE} {x : Sl} {t1 : TapeO} : evK1 fs env (some (.ok x, t1)) = evK2 x (evs fs env t1) := Eq.trans rfl rfl
@[simp] theorem evK1_none {fs : List Ev} {env : SE} : evK1 fs env none = none := Eq.trans rfl rfl
@[simp] theorem evK1_err {fs : List Ev} {env : SE} {e : Str} {t1 : TapeO} : evK1 fs env (some (.error e, t1)) = some (.error e, t1) := Eq.trans rfl rfl
@[simp] theorem evs_cons : evs (f :: fs) env ta = evK1 fs env (f env ta) := evs_cons0
def callEK (o : List Sl → Option Sl) (r : RA) : RE := kX r fun rs t1 => (o rs).map fun z => (.ok z, t1)
@[simp] theorem callEK_ok {o : List Sl → Option Sl} {rs : List Sl} {t1 : TapeO} : callEK o (some (.ok rs, t1)) = (o rs).map fun z => (.ok z, t1) := Eq.trans rfl rfl
@[simp] theorem callEK_none {o : List Sl → Option Sl} : callEK o none = none := Eq.trans rfl rfl
@[simp] theorem callEK_err {o : List Sl → Option Sl} {e : Str} {t1 : TapeO} : callEK o (some (.error e, t1)) = some (.error e, t1) := Eq.trans rfl rfl
@[simp] theorem callE_ap {o : List Sl → Option Sl} : callE o fs env ta = callEK o (evs fs env ta) := callE_ap0
def callFK (Φ : Fn) (r : RA) : RE := kX r fun rs t1 => if rs.all Sl.arg? = true then Φ rs t1 else none
@[simp] theorem callFK_ok {Φ : Fn} {rs : List Sl} {t1 : TapeO} : callFK Φ (some (.ok rs, t1)) = if rs.all Sl.arg? = true then Φ rs t1 else none := Eq.trans rfl rfl
@[simp] theorem callFK_none {Φ : Fn} : callFK Φ none = none := Eq.trans rfl rfl
@[simp] theorem callFK_err {Φ : Fn} {e : Str} {t1 : TapeO} : callFK Φ (some (.error e, t1)) = some (.error e, t1) := Eq.trans rfl rfl
@[simp] theorem callF_ap {Φ : Fn} : callF Φ fs env ta = callFK Φ (evs fs env ta) := callF_ap0
def lstK  (r : RA) : RE := kX r fun rs t1 => (vals? rs).map fun ds => (.ok (.own ds), t1)
@[simp] theorem lstK_ok  {rs : List Sl} {t1 : TapeO} : lstK  (some (.ok rs, t1)) = (vals? rs).map fun ds => (.ok (.own ds), t1) := Eq.trans rfl rfl
@[simp] theorem lstK_none  : lstK  none = none := Eq.trans rfl rfl
@[simp] theorem lstK_err  {e : Str} {t1 : TapeO} : lstK  (some (.error e, t1)) = some (.error e, t1) := Eq.trans rfl rfl
@[simp] theorem lstE_ap : lstE fs env ta = lstK (evs fs env ta) := lstE_ap0
def tupK  (r : RA) : RE := kX r fun rs t1 => (vals? rs).map fun ds => (.ok (.val (.tup ds)), t1)
@[simp] theorem tupK_ok  {rs : List Sl} {t1 : TapeO} : tupK  (some (.ok rs, t1)) = (vals? rs).map fun ds => (.ok (.val (.tup ds)), t1) := Eq.trans rfl rfl
@[simp] theorem tupK_none  : tupK  none = none := Eq.trans rfl rfl
@[simp] theorem tupK_err  {e : Str} {t1 : TapeO} : tupK  (some (.error e, t1)) = some (.error e, t1) := Eq.trans rfl rfl
@[simp] theorem tupE_ap : tupE fs env ta = tupK (evs fs env ta) := tupE_ap0
def escK  (r : RE) : RE := kX r fun x t1 => escS x t1
@[simp] theorem escK_ok  {x : Sl} {t1 : TapeO} : escK  (some (.ok x, t1)) = escS x t1 := Eq.trans rfl rfl
@[simp] theorem escK_none  : escK  none = none := Eq.trans rfl rfl
@[simp] theorem escK_err  {e : Str} {t1 : TapeO} : escK  (some (.error e, t1)) = some (.error e, t1) := Eq.trans rfl rfl
@[simp] theorem escE_ap : escE f env ta = escK (f env ta) := escE_ap0
def chK4 (op' : Sl → Sl → Option Sl) (y : Sl) (r : RE) : RE := kX r fun z t1 => (op' y z).map fun w => (.ok w, t1)
@[simp] theorem chK4_ok {op' : Sl → Sl → Option Sl} {y : Sl} {z : Sl} {t1 : TapeO} : chK4 op' y (some (.ok z, t1)) = (op' y z).map fun w => (.ok w, t1) := Eq.trans rfl rfl
@[simp] theorem chK4_none {op' : Sl → Sl → Option Sl} {y : Sl} : chK4 op' y none = none := Eq.trans rfl rfl
@[simp] theorem chK4_err {op' : Sl → Sl → Option Sl} {y : Sl} {e : Str} {t1 : TapeO} : chK4 op' y (some (.error e, t1)) = some (.error e, t1) := Eq.trans rfl rfl
def chK3 (op' : Sl → Sl → Option Sl) (h : Ev) (env : SE) (y : Sl) (t2 : TapeO) (o : Option Bool) : RE := kO o fun b => if b = true then chK4 op' y (h env t2) else some (.ok (.val (.bl false)), t2)
@[simp] theorem chK3_some {op' : Sl → Sl → Option Sl} {h : Ev} {env : SE} {y : Sl} {t2 : TapeO} {b : Bool} : chK3 op' h env y t2 (some b) = if b = true then chK4 op' y (h env t2) else some (.ok (.val (.bl false)), t2) := Eq.trans rfl rfl
def chK2 (op op' : Sl → Sl → Option Sl) (x : Sl) (h : Ev) (env : SE) (r : RE) : RE := kX r fun y t1 => chK3 op' h env y t1 ((op x y).bind blS)
@[simp] theorem chK2_ok {op op' : Sl → Sl → Option Sl} {x : Sl} {h : Ev} {env : SE} {y : Sl} {t1 : TapeO} : chK2 op op' x h env (some (.ok y, t1)) = chK3 op' h env y t1 ((op x y).bind blS) := Eq.trans rfl rfl
@[simp] theorem chK2_none {op op' : Sl → Sl → Option Sl} {x : Sl} {h : Ev} {env : SE} : chK2 op op' x h env none = none := Eq.trans rfl rfl
@[simp] theorem chK2_err {op op' : Sl → Sl → Option Sl} {x : Sl} {h : Ev} {env : SE} {e : Str} {t1 : TapeO} : chK2 op op' x h env (some (.error e, t1)) = some (.error e, t1) := Eq.trans rfl rfl
def chK1 (op op' : Sl → Sl → Option Sl) (g h : Ev) (env : SE) (r : RE) : RE := kX r fun x t1 => chK2 op op' x h env (g env t1)
@[simp] theorem chK1_ok {op op' : Sl → Sl → Option Sl} {g h : Ev} {env : SE} {x : Sl} {t1 : TapeO} : chK1 op op' g h env (some (.ok x, t1)) = chK2 op op' x h env (g env t1) := Eq.trans rfl rfl
@[simp] theorem chK1_none {op op' : Sl → Sl → Option Sl} {g h : Ev} {env : SE} : chK1 op op' g h env none = none := Eq.trans rfl rfl
@[simp] theorem chK1_err {op op' : Sl → Sl → Option Sl} {g h : Ev} {env : SE} {e : Str} {t1 : TapeO} : chK1 op op' g h env (some (.error e, t1)) = some (.error e, t1) := Eq.trans rfl rfl
@[simp] theorem chainE_ap : chainE op op' f g h env ta = chK1 op op' g h env (f env ta) := chainE_ap0
def asgK (i : Nat) (env : SE) (r : RE) : RC := kS r env fun x t1 => x.store?.map fun s => (.nx, env.set i s, t1)
@[simp] theorem asgK_ok {i : Nat} {env : SE} {x : Sl} {t1 : TapeO} : asgK i env (some (.ok x, t1)) = x.store?.map fun s => (.nx, env.set i s, t1) := Eq.trans rfl rfl
@[simp] theorem asgK_none {i : Nat} {env : SE} : asgK i env none = none := Eq.trans rfl rfl
@[simp] theorem asgK_err {i : Nat} {env : SE} {e : Str} {t1 : TapeO} : asgK i env (some (.error e, t1)) = some (.ex e, env, t1) := Eq.trans rfl rfl
@[simp] theorem asgC_ap : asgC i f env ta = asgK i env (f env ta) := asgC_ap0
@[simp] theorem augC_ap : augC i op f env ta = asgK i env (binE op (varE i) f env ta) := augC_ap0
def retK (env : SE) (r : RE) : RC := kS r env fun x t1 => x.store?.map fun s => (.rt s, env, t1)
@[simp] theorem retK_ok {env : SE} {x : Sl} {t1 : TapeO} : retK env (some (.ok x, t1)) = x.store?.map fun s => (.rt s, env, t1) := Eq.trans rfl rfl
@[simp] theorem retK_none {env : SE} : retK env none = none := Eq.trans rfl rfl
@[simp] theorem retK_err {env : SE} {e : Str} {t1 : TapeO} : retK env (some (.error e, t1)) = some (.ex e, env, t1) := Eq.trans rfl rfl
@[simp] theorem retC_ap : retC f env ta = retK env (f env ta) := retC_ap0
def dropK (env : SE) (r : RE) : RC := kS r env fun x t1 => some (.nx, env, t1)
@[simp] theorem dropK_ok {env : SE} {x : Sl} {t1 : TapeO} : dropK env (some (.ok x, t1)) = some (.nx, env, t1) := Eq.trans rfl rfl
@[simp] theorem dropK_none {env : SE} : dropK env none = none := Eq.trans rfl rfl
@[simp] theorem dropK_err {env : SE} {e : Str} {t1 : TapeO} : dropK env (some (.error e, t1)) = some (.ex e, env, t1) := Eq.trans rfl rfl
@[simp] theorem dropC_ap : dropC f env ta = dropK env (f env ta) := dropC_ap0
def ifK (cs ds : Cs) (env : SE) (r : RB) : RC := kS r env fun b t1 => if b = true then cs env t1 else ds env t1
@[simp] theorem ifK_ok {cs ds : Cs} {env : SE} {b : Bool} {t1 : TapeO} : ifK cs ds env (some (.ok b, t1)) = if b = true then cs env t1 else ds env t1 := Eq.trans rfl rfl
@[simp] theorem ifK_none {cs ds : Cs} {env : SE} : ifK cs ds env none = none := Eq.trans rfl rfl
@[simp] theorem ifK_err {cs ds : Cs} {env : SE} {e : Str} {t1 : TapeO} : ifK cs ds env (some (.error e, t1)) = some (.ex e, env, t1) := Eq.trans rfl rfl
@[simp] theorem ifC_ap : ifC t cs ds env ta = ifK cs ds env (t env ta) := ifC_ap0
def whK (cs k : Cs) (env : SE) (r : RB) : RC := kS r env fun b t1 => if b = true then kL (cs env t1) k else some (.nx, env, t1)
@[simp] theorem whK_ok {cs k : Cs} {env : SE} {b : Bool} {t1 : TapeO} : whK cs k env (some (.ok b, t1)) = if b = true then kL (cs env t1) k else some (.nx, env, t1) := Eq.trans rfl rfl
@[simp] theorem whK_none {cs k : Cs} {env : SE} : whK cs k env none = none := Eq.trans rfl rfl
@[simp] theorem whK_err {cs k : Cs} {env : SE} {e : Str} {t1 : TapeO} : whK cs k env (some (.error e, t1)) = some (.ex e, env, t1) := Eq.trans rfl rfl
theorem while_ap : whileC t cs (n + 1) env ta = whK cs (whileC t cs n) env (t env ta) := while_ap0
def forK (tg : Tg) (cs : Cs) (env : SE) (r : RD) : RC := kS r env fun l t1 => forL tg cs l env t1
@[simp] theorem forK_ok {tg : Tg} {cs : Cs} {env : SE} {l : List D} {t1 : TapeO} : forK tg cs env (some (.ok l, t1)) = forL tg cs l env t1 := Eq.trans rfl rfl
@[simp] theorem forK_none {tg : Tg} {cs : Cs} {env : SE} : forK tg cs env none = none := Eq.trans rfl rfl
@[simp] theorem forK_err {tg : Tg} {cs : Cs} {env : SE} {e : Str} {t1 : TapeO} : forK tg cs env (some (.error e, t1)) = some (.ex e, env, t1) := Eq.trans rfl rfl
@[simp] theorem forC_ap : forC it tg cs env ta = forK tg cs env (it env ta) := forC_ap0
def forK1 (tg : Tg) (cs : Cs) (l : List D) (ta : TapeO) (o : Option SE) : RC := kO o fun env1 => kL (cs env1 ta) (forL tg cs l)
@[simp] theorem forK1_some : forK1 tg cs l ta (some env1) = kL (cs env1 ta) (forL tg cs l) := Eq.trans rfl rfl
theorem forL_cons {d : D} : forL tg cs (d :: l) env ta = forK1 tg cs l ta (tg.set d env) := forL_cons0
def seqFK  (r : RE) : RD := kX r fun x t1 => (frzOf x).map fun l => (.ok l, t1)
@[simp] theorem seqFK_ok  {x : Sl} {t1 : TapeO} : seqFK  (some (.ok x, t1)) = (frzOf x).map fun l => (.ok l, t1) := Eq.trans rfl rfl
@[simp] theorem seqFK_none  : seqFK  none = none := Eq.trans rfl rfl
@[simp] theorem seqFK_err  {e : Str} {t1 : TapeO} : seqFK  (some (.error e, t1)) = some (.error e, t1) := Eq.trans rfl rfl
@[simp] theorem seqF_ap : seqF f env ta = seqFK (f env ta) := seqF_ap0
def seqIK  (r : RE) : RD := kX r fun x t1 => x.seq?.map fun l => (.ok l, t1)
@[simp] theorem seqIK_ok  {x : Sl} {t1 : TapeO} : seqIK  (some (.ok x, t1)) = x.seq?.map fun l => (.ok l, t1) := Eq.trans rfl rfl
@[simp] theorem seqIK_none  : seqIK  none = none := Eq.trans rfl rfl
@[simp] theorem seqIK_err  {e : Str} {t1 : TapeO} : seqIK  (some (.error e, t1)) = some (.error e, t1) := Eq.trans rfl rfl
@[simp] theorem seqI_ap : seqI f env ta = seqIK (f env ta) := seqI_ap0
def argK (o : List Sl → Option (List D)) (r : RA) : RD := kX r fun rs t1 => (o rs).map fun l => (.ok l, t1)
@[simp] theorem argK_ok {o : List Sl → Option (List D)} {rs : List Sl} {t1 : TapeO} : argK o (some (.ok rs, t1)) = (o rs).map fun l => (.ok l, t1) := Eq.trans rfl rfl
@[simp] theorem argK_none {o : List Sl → Option (List D)} : argK o none = none := Eq.trans rfl rfl
@[simp] theorem argK_err {o : List Sl → Option (List D)} {e : Str} {t1 : TapeO} : argK o (some (.error e, t1)) = some (.error e, t1) := Eq.trans rfl rfl
@[simp] theorem argI_ap {o : List Sl → Option (List D)} : argI o fs env ta = argK o (evs fs env ta) := argI_ap0
def unpB (js : List Nat) (env : SE) (t1 : TapeO) (o : Option (List D)) : RC := kO o fun l => if l.length = js.length then some (.nx, setAll js l env, t1) else none
@[simp] theorem unpB_some : unpB js env t1 (some l) = if l.length = js.length then some (.nx, setAll js l env, t1) else none := Eq.trans rfl rfl
def unpK (js : List Nat) (env : SE) (r : RE) : RC := kS r env fun x t1 => unpB js env t1 (tupOf x)
@[simp] theorem unpK_ok {js : List Nat} {env : SE} {x : Sl} {t1 : TapeO} : unpK js env (some (.ok x, t1)) = unpB js env t1 (tupOf x) := Eq.trans rfl rfl
@[simp] theorem unpK_none {js : List Nat} {env : SE} : unpK js env none = none := Eq.trans rfl rfl
@[simp] theorem unpK_err {js : List Nat} {env : SE} {e : Str} {t1 : TapeO} : unpK js env (some (.error e, t1)) = some (.ex e, env, t1) := Eq.trans rfl rfl
@[simp] theorem unpC_ap : unpC js f env ta = unpK js env (f env ta) := unpC_ap0
def unpLK (js : List Nat) (env : SE) (r : RE) : RC := kS r env fun x t1 => unpB js env t1 (listOf x)
@[simp] theorem unpLK_ok {js : List Nat} {env : SE} {x : Sl} {t1 : TapeO} : unpLK js env (some (.ok x, t1)) = unpB js env t1 (listOf x) := Eq.trans rfl rfl
@[simp] theorem unpLK_none {js : List Nat} {env : SE} : unpLK js env none = none := Eq.trans rfl rfl
@[simp] theorem unpLK_err {js : List Nat} {env : SE} {e : Str} {t1 : TapeO} : unpLK js env (some (.error e, t1)) = some (.ex e, env, t1) := Eq.trans rfl rfl
@[simp] theorem unpLC_ap : unpLC js f env ta = unpLK js env (f env ta) := unpLC_ap0
def parK (i j : Nat) (env : SE) (r : RA) : RC := kS r env fun rs t1 => parS i j env rs t1
@[simp] theorem parK_ok {i j : Nat} {env : SE} {rs : List Sl} {t1 : TapeO} : parK i j env (some (.ok rs, t1)) = parS i j env rs t1 := Eq.trans rfl rfl
@[simp] theorem parK_none {i j : Nat} {env : SE} : parK i j env none = none := Eq.trans rfl rfl
@[simp] theorem parK_err {i j : Nat} {env : SE} {e : Str} {t1 : TapeO} : parK i j env (some (.error e, t1)) = some (.ex e, env, t1) := Eq.trans rfl rfl
@[simp] theorem par2C_ap : par2C i j fs env ta = parK i j env (evs fs env ta) := par2C_ap0
def cK2 (tg : Tg) (t : Tv) (f : Ev) (l : List D) (env : SE) (r : RE) : Option (List D × TapeO) := kC r fun y t2 => (compL tg t f l env t2).map fun p => (y :: p.1, p.2)
@[simp] theorem cK2_ok {d : D} : cK2 tg t f l env (some (.ok (.val d), t1)) = (compL tg t f l env t1).map fun p => (d :: p.1, p.2) := Eq.trans rfl rfl
def cK1 (tg : Tg) (t : Tv) (f : Ev) (l : List D) (env env1 : SE) (r : RB) : Option (List D × TapeO) := kD r fun b t1 => if b = true then cK2 tg t f l env (f env1 t1) else compL tg t f l env t1
@[simp] theorem cK1_ok : cK1 tg t f l env env1 (some (.ok b, t1)) = if b = true then cK2 tg t f l env (f env1 t1) else compL tg t f l env t1 := Eq.trans rfl rfl
def cK0 (tg : Tg) (t : Tv) (f : Ev) (l : List D) (env : SE) (ta : TapeO) (o : Option SE) : Option (List D × TapeO) := kO o fun env1 => cK1 tg t f l env env1 (t env1 ta)
@[simp] theorem cK0_some : cK0 tg t f l env ta (some env1) = cK1 tg t f l env env1 (t env1 ta) := Eq.trans rfl rfl
theorem compL_cons {d : D} : compL tg t f (d :: l) env ta = cK0 tg t f l env ta (tg.set d env) := compL_cons0
def compK (vs : List Nat) (tg : Tg) (t : Tv) (f : Ev) (env : SE) (r : RD) : RE := kX r fun l t1 => if l.length < LIM then (compL tg t f l (wipeE env vs) t1).map fun p => (.ok (.own p.1), p.2) else none
@[simp] theorem compK_ok {vs : List Nat} {tg : Tg} {t : Tv} {f : Ev} {env : SE} {l : List D} {t1 : TapeO} : compK vs tg t f env (some (.ok l, t1)) = if l.length < LIM then (compL tg t f l (wipeE env vs) t1).map fun p => (.ok (.own p.1), p.2) else none := Eq.trans rfl rfl
@[simp] theorem compK_none {vs : List Nat} {tg : Tg} {t : Tv} {f : Ev} {env : SE} : compK vs tg t f env none = none := Eq.trans rfl rfl
@[simp] theorem compK_err {vs : List Nat} {tg : Tg} {t : Tv} {f : Ev} {env : SE} {e : Str} {t1 : TapeO} : compK vs tg t f env (some (.error e, t1)) = some (.error e, t1) := Eq.trans rfl rfl
@[simp] theorem compE_ap : compE it vs tg t f env ta = compK vs tg t f env (it env ta) := compE_ap0
def appB (i : Nat) (env : SE) (l : List D) (t1 : TapeO) (o : Option D) : RC := kO o fun d => if l.length < LIM then some (.nx, env.set i (.own (l ++ [d])), t1) else none
@[simp] theorem appB_some {d : D} : appB i env l t1 (some d) = if l.length < LIM then some (.nx, env.set i (.own (l ++ [d])), t1) else none := Eq.trans rfl rfl
def appK2 (i : Nat) (env : SE) (l : List D) (r : RE) : RC := kS r env fun x t1 => appB i env l t1 (valOf x)
@[simp] theorem appK2_ok {i : Nat} {env : SE} {l : List D} {x : Sl} {t1 : TapeO} : appK2 i env l (some (.ok x, t1)) = appB i env l t1 (valOf x) := Eq.trans rfl rfl
@[simp] theorem appK2_none {i : Nat} {env : SE} {l : List D} : appK2 i env l none = none := Eq.trans rfl rfl
@[simp] theorem appK2_err {i : Nat} {env : SE} {l : List D} {e : Str} {t1 : TapeO} : appK2 i env l (some (.error e, t1)) = some (.ex e, env, t1) := Eq.trans rfl rfl
def appK1 (i : Nat) (f : Ev) (env : SE) (ta : TapeO) (o : Option (List D)) : RC := kO o fun l => appK2 i env l (f env ta)
@[simp] theorem appK1_some : appK1 i f env ta (some l) = appK2 i env l (f env ta) := Eq.trans rfl rfl
@[simp] theorem appC_ap : appC i f env ta = appK1 i f env ta (ownOf env[i]?) := appC_ap0
def setB (i : Nat) (env : SE) (l : List D) (d : Option D) (k : Option Int) (t2 : TapeO) : RC := kO d fun d => kO k fun k => (ixN l.length k).map fun m => (.nx, env.set i (.own (l.set m d)), t2)
@[simp] theorem setB_some {d : D} {k : Int} : setB i env l (some d) (some k) t1 = (ixN l.length k).map fun m => (.nx, env.set i (.own (l.set m d)), t1) := Eq.trans rfl rfl
def setK2 (i : Nat) (env : SE) (l : List D) (x : Sl) (r : RE) : RC := kS r env fun q t1 => setB i env l (valOf x) (intOf q) t1
@[simp] theorem setK2_ok {i : Nat} {env : SE} {l : List D} {x : Sl} {q : Sl} {t1 : TapeO} : setK2 i env l x (some (.ok q, t1)) = setB i env l (valOf x) (intOf q) t1 := Eq.trans rfl rfl
@[simp] theorem setK2_none {i : Nat} {env : SE} {l : List D} {x : Sl} : setK2 i env l x none = none := Eq.trans rfl rfl
@[simp] theorem setK2_err {i : Nat} {env : SE} {l : List D} {x : Sl} {e : Str} {t1 : TapeO} : setK2 i env l x (some (.error e, t1)) = some (.ex e, env, t1) := Eq.trans rfl rfl
def setK1 (i : Nat) (g : Ev) (env : SE) (x : Sl) (t1 : TapeO) (o : Option (List D)) : RC := kO o fun l => setK2 i env l x (g env t1)
@[simp] theorem setK1_some : setK1 i g env x t1 (some l) = setK2 i env l x (g env t1) := Eq.trans rfl rfl
def setK (i : Nat) (g : Ev) (env : SE) (r : RE) : RC := kS r env fun x t1 => setK1 i g env x t1 (ownOf env[i]?)
@[simp] theorem setK_ok {i : Nat} {g : Ev} {env : SE} {x : Sl} {t1 : TapeO} : setK i g env (some (.ok x, t1)) = setK1 i g env x t1 (ownOf env[i]?) := Eq.trans rfl rfl
@[simp] theorem setK_none {i : Nat} {g : Ev} {env : SE} : setK i g env none = none := Eq.trans rfl rfl
@[simp] theorem setK_err {i : Nat} {g : Ev} {env : SE} {e : Str} {t1 : TapeO} : setK i g env (some (.error e, t1)) = some (.ex e, env, t1) := Eq.trans rfl rfl
@[simp] theorem setC_ap : setC i f g env ta = setK i g env (f env ta) := setC_ap0
def tsetK (k : Nat) (env : SE) (s : Option Sl) (r : RE) : RC := kS r env fun x t1 => tsS k env s x t1
@[simp] theorem tsetK_ok {k : Nat} {env : SE} {s : Option Sl} {x : Sl} {t1 : TapeO} : tsetK k env s (some (.ok x, t1)) = tsS k env s x t1 := Eq.trans rfl rfl
@[simp] theorem tsetK_none {k : Nat} {env : SE} {s : Option Sl} : tsetK k env s none = none := Eq.trans rfl rfl
@[simp] theorem tsetK_err {k : Nat} {env : SE} {s : Option Sl} {e : Str} {t1 : TapeO} : tsetK k env s (some (.error e, t1)) = some (.ex e, env, t1) := Eq.trans rfl rfl
@[simp] theorem tsetC_ap {k : Nat} : tsetC i k f env ta = tsetK k env env[i]? (f env ta) := tsetC_ap0
end
/-! ### operations -/
theorem eq_int (i j : Int) : eqS (.val (.int i)) (.val (.int j)) = some (.val (.bl (decide (i = j)))) := by
  unfold eqS eqC
  simp [Sl.dat?, D.py, SeqAt.shaped, PyData.canLay0, PyData.depth, PyData.eqv]
  by_cases h : i = j <;> simp [h]
theorem ne_int (i j : Int) : neS (.val (.int i)) (.val (.int j)) = some (.val (.bl (!decide (i = j)))) := by
  unfold neS eqC
  simp [Sl.dat?, D.py, SeqAt.shaped, PyData.canLay0, PyData.depth, PyData.eqv]
  by_cases h : i = j <;> simp [h]
theorem add_int (i j : Int) : addS (.val (.int i)) (.val (.int j)) = some (.val (.int (i + j))) := rfl
theorem sub_int (i j : Int) : subS (.val (.int i)) (.val (.int j)) = some (.val (.int (i - j))) := rfl
theorem iadd_int' (i j : Int) : iaddS (.val (.int i)) (.val (.int j)) = some (.val (.int (i + j))) := rfl
theorem lt_int (i j : Int) : ltS (.val (.int i)) (.val (.int j)) = some (.val (.bl (decide (i < j)))) := rfl
theorem le_int (i j : Int) : leS (.val (.int i)) (.val (.int j)) = some (.val (.bl (decide (i ≤ j)))) := rfl
theorem gt_int (i j : Int) : gtS (.val (.int i)) (.val (.int j)) = some (.val (.bl (decide (j < i)))) := rfl
theorem ge_int (i j : Int) : geS (.val (.int i)) (.val (.int j)) = some (.val (.bl (decide (j ≤ i)))) := rfl
theorem mod_int {i j : Int} (h : 0 < j) : modS (.val (.int i)) (.val (.int j)) = some (.val (.int (i % j))) := by
  unfold modS opI; simp [h]
theorem log2_lt {n k : Nat} (h : n < 2 ^ k) (hk : 0 < k) : n.log2 < k := by
  by_cases hz : n = 0
  · subst hz; simpa using hk
  · exact (Nat.log2_lt hz).mpr h
theorem mulOk_of {i j : Int} (h1 : -(2 ^ 64) < i) (h2 : i < 2 ^ 64) (h3 : -(2 ^ 64) < j) (h4 : j < 2 ^ 64) : mulOk i j = true := by
  unfold mulOk
  have a : i.natAbs < 2 ^ 64 := by omega
  have b : j.natAbs < 2 ^ 64 := by omega
  have := log2_lt a (by decide)
  have := log2_lt b (by decide)
  simp; omega
theorem mul_int {i j : Int} (h1 : -(2 ^ 64) < i) (h2 : i < 2 ^ 64) (h3 : -(2 ^ 64) < j) (h4 : j < 2 ^ 64) : mulS (.val (.int i)) (.val (.int j)) = some (.val (.int (i * j))) := by
  unfold mulS opI; simp [mulOk_of h1 h2 h3 h4]
theorem divOk_of {j : Int} (h1 : 0 < j) (h2 : j < 2 ^ 64) : divOk j = true := by
  unfold divOk
  have a : j.natAbs < 2 ^ 64 := by omega
  have := log2_lt a (by decide)
  simp; omega
theorem fdiv_int {i j : Int} (h1 : 0 < j) (h2 : j < 2 ^ 64) : fdivS (.val (.int i)) (.val (.int j)) = some (.val (.int (i / j))) := by
  unfold fdivS opI; simp [divOk_of h1 h2]
theorem pow_int {i j : Int} (h1 : 0 ≤ j) (h2 : j ≤ 1000000) (h3 : i.natAbs < 2 ^ 64) : powS (.val (.int i)) (.val (.int j)) = some (.val (.int (i ^ j.toNat))) := by
  unfold powS opI powOk; simp [h1, h2, h3]
theorem ix_at {x : Sl} {ds : List D} {i : Int} {d : D} (e : x.seq? = some ds) (h0 : 0 ≤ i) (h : ds[i.toNat]? = some d) : ixS x (.val (.int i)) = some (.val d) := by
  unfold ixS
  rw [e]
  have hl : i.toNat < ds.length := by
    rcases Nat.lt_or_ge i.toNat ds.length with q | q
    · exact q
    · rw [List.getElem?_eq_none q] at h; cases h
  show (atI ds i).map Sl.val = _
  unfold atI ixN
  rw [if_pos h0, if_pos (by omega)]
  show (ds[i.toNat]?).map Sl.val = _
  rw [h]; rfl
theorem mapInt_get {ns : List Int} {i : Nat} (h : i < ns.length) : (ns.map D.int)[i]? = some (D.int ns[i]) := by simp [h]

/-! ### the tape's defs -/
def beginC : Cs :=
  (seqC (asgC 1 (cstE (.int 1)))
  (seqC (forC (seqF (varE 0)) (.one 2) (asgC 1 (binE modS (binE addS (binE addS (binE mulS (varE 1) (cstE (.int 69621))) (binE modS (callE intS [(varE 2)]) (cstE (.int 2147483629)))) (cstE (.int 7))) (cstE (.int 2147483647)))))
  (retC (lstE [(escE (callE listS [(varE 0)])), (cstE (.int 0)), (cstE (.int 0)), (varE 1)]))))
def takeC : Cs :=
  (seqC (ifC (andT (ofE (binE eqS (tgetE 0 2) (cstE (.int 0)))) (ofE (binE ltS (tgetE 0 1) (callE lenS [(tgetE 0 0)])))) (seqC (tsetC 0 2 (callE absS [(callE intS [(binE ixS (tgetE 0 0) (tgetE 0 1))])]))
  (seqC (tsetC 0 1 (binE addS (tgetE 0 1) (cstE (.int 1))))
  (ifC (ofE (binE ltS (tgetE 0 2) (binE powS (cstE (.int 10)) (cstE (.int 18))))) (seqC (asgC 2 (callE intS [(tgetE 0 2)]))
  (seqC (tsetC 0 2 (cstE (.int 0)))
  (retC (binE modS (varE 2) (varE 1))))) skipC))) skipC)
  (seqC (ifC (ofE (binE gtS (tgetE 0 2) (cstE (.int 0)))) (seqC (asgC 3 (binE modS (callE intS [(tgetE 0 2)]) (varE 1)))
  (seqC (tsetC 0 2 (binE fdivS (callE intS [(tgetE 0 2)]) (varE 1)))
  (retVC 3))) skipC)
  (seqC (tsetC 0 3 (binE modS (callE intS [(binE addS (binE mulS (tgetE 0 3) (cstE (.int 48271))) (cstE (.int 11)))]) (cstE (.int 2147483647))))
  (retC (binE modS (callE intS [(binE fdivS (tgetE 0 3) (cstE (.int 3)))]) (varE 1))))))
def beginF : Fn := defF 3 beginC
def takeF : Fn := defF 4 takeC
structure TOk (t : Tape) : Prop where
  left : 0 ≤ t.left
  s0 : 0 ≤ t.seed
  s1 : t.seed < 2147483647
@[simp] theorem int_call (i : Int) : intS [.val (.int i)] = some (.val (.int i)) := rfl
@[simp] theorem abs_call (i : Int) : absS [.val (.int i)] = some (.val (.int (if i < 0 then -i else i))) := rfl
@[simp] theorem len_call {x : Sl} {l : List D} (h : x.seq? = some l) : lenS [x] = some (.val (.int l.length)) := by
  unfold lenS; dsimp only; rw [h]
@[simp] theorem truth_bl (b : Bool) : truthS (.val (.bl b)) = some b := rfl
@[simp] theorem truth_int (i : Int) : truthS (.val (.int i)) = some (i != 0) := rfl
theorem begin_loop (sc : Sl) : ∀ (ns : List Int) (seed : Int) (z : Sl), 0 ≤ seed → seed < 2147483647 →
    ∃ seed' z', 0 ≤ seed' ∧ seed' < 2147483647 ∧ forL (.one 2) (asgC 1 (binE modS (binE addS (binE addS (binE mulS (varE 1) (cstE (.int 69621))) (binE modS (callE intS [(varE 2)]) (cstE (.int 2147483629)))) (cstE (.int 7))) (cstE (.int 2147483647)))) (ns.map D.int) [sc, .val (.int seed), z] none = some (.nx, [sc, .val (.int seed'), z'], none)
  | [], seed, z, h0, h1 => ⟨seed, z, h0, h1, rfl⟩
  | n :: ns, seed, z, h0, h1 => by
    have hm := @mul_int seed 69621 (by omega) (by omega) (by omega) (by omega)
    obtain ⟨s', z', a, b, e⟩ := begin_loop sc ns ((seed * 69621 + n % 2147483629 + 7) % 2147483647) (.val (.int n)) (Int.emod_nonneg _ (by decide)) (Int.emod_lt_of_pos _ (by decide))
    refine ⟨s', z', a, b, ?_⟩
    rw [List.map_cons, forL_cons]
    simp [hm, mod_int, add_int, e]
theorem begin_ok (ns : List Int) : ∃ seed, 0 ≤ seed ∧ seed < 2147483647 ∧ beginF [.val (.lst (ns.map D.int))] none = some (.ok (.own [.lst (ns.map D.int), .int 0, .int 0, .int seed]), none) := by
  obtain ⟨s', z', a, b, e⟩ := begin_loop (.val (.lst (ns.map D.int))) ns 1 .un (by decide) (by decide)
  refine ⟨s', a, b, ?_⟩
  unfold beginF beginC
  rw [defF_ap]
  simp [e, listS]
theorem take_ok (t : Tape) (hT : TOk t) (m : Int) (h1 : 1 ≤ m) (h2 : m < 2 ^ 62) :
    ∃ d t', 0 ≤ d ∧ d < m ∧ TOk t' ∧ takeF [.tape, .val (.int m)] (some t) = some (.ok (.val (.int d)), some t') := by
  obtain ⟨hl, h0, hs⟩ := hT
  have mp : 0 < m := by omega
  have fd := fun i => @fdiv_int i m mp (by omega)
  have mo := fun i => @mod_int i m mp
  have f3 := fun i => @fdiv_int i 3 (by decide) (by decide)
  have m7 := fun i => @mod_int i 2147483647 (by decide)
  have p18 := @pow_int 10 18 (by decide) (by decide) (by decide)
  have mm := @mul_int t.seed 48271 (by omega) (by omega) (by omega) (by omega)
  have nn : ∀ i, 0 ≤ i % m := fun i => Int.emod_nonneg _ (by omega)
  have ll : ∀ i, i % m < m := fun i => Int.emod_lt_of_pos _ mp
  have mid : ∀ t' : Tape, 0 ≤ t'.left → t'.seed = t.seed → ∃ d t'' e', 0 ≤ d ∧ d < m ∧ TOk t'' ∧
      (seqC (ifC (ofE (binE gtS (tgetE 0 2) (cstE (.int 0)))) (seqC (asgC 3 (binE modS (callE intS [(tgetE 0 2)]) (varE 1)))
        (seqC (tsetC 0 2 (binE fdivS (callE intS [(tgetE 0 2)]) (varE 1)))
        (retVC 3))) skipC)
        (seqC (tsetC 0 3 (binE modS (callE intS [(binE addS (binE mulS (tgetE 0 3) (cstE (.int 48271))) (cstE (.int 11)))]) (cstE (.int 2147483647))))
        (retC (binE modS (callE intS [(binE fdivS (tgetE 0 3) (cstE (.int 3)))]) (varE 1))))) [.tape, .val (.int m), .un, .un] (some t') = some (.rt (.val (.int d)), e', some t'') := by
    intro t' e1 e2
    by_cases hz : t'.left = 0
    · refine ⟨((t.seed * 48271 + 11) % 2147483647 / 3) % m, { t' with seed := (t.seed * 48271 + 11) % 2147483647 }, [.tape, .val (.int m), .un, .un], nn _, ll _, ⟨by simp [hz], Int.emod_nonneg _ (by decide), Int.emod_lt_of_pos _ (by decide)⟩, ?_⟩
      simp [Tape.get, Tape.put, gt_int, hz, e2, mm, add_int, m7, f3, mo]
    · have hp : 0 < t'.left := by omega
      refine ⟨t'.left % m, { t' with left := t'.left / m }, [.tape, .val (.int m), .un, .val (.int (t'.left % m))], nn _, ll _, ⟨Int.ediv_nonneg e1 (by omega), by simp [e2, h0], by simp [e2, hs]⟩, ?_⟩
      simp [Tape.get, Tape.put, gt_int, hp, mo, fd]
  unfold takeF takeC
  rw [defF_ap]
  by_cases hc : t.left = 0 ∧ t.pos < t.scr.length
  · obtain ⟨hz, hp⟩ := hc
    have hg : ixS (.val (.lst (t.scr.map D.int))) (.val (.int (t.pos : Int))) = some (.val (.int t.scr[t.pos])) := ix_at rfl (by omega) (by simp [hp])
    have hp' : ((t.pos : Int) + 1).toNat = t.pos + 1 := by omega
    have hp2 : (0 : Int) ≤ (t.pos : Int) + 1 := by omega
    by_cases hlt : (if t.scr[t.pos] < 0 then -t.scr[t.pos] else t.scr[t.pos]) < 1000000000000000000
    · refine ⟨(if t.scr[t.pos] < 0 then -t.scr[t.pos] else t.scr[t.pos]) % m, { t with pos := t.pos + 1, left := 0 }, nn _, ll _, ⟨Int.le_refl _, h0, hs⟩, ?_⟩
      simp [Tape.get, Tape.put, eq_int, lt_int, hz, hp, hg, add_int, hp2, hp', p18, hlt, mo]
    · obtain ⟨d, t'', e', a, b, c, e⟩ := mid { t with pos := t.pos + 1, left := (if t.scr[t.pos] < 0 then -t.scr[t.pos] else t.scr[t.pos]) } (by
        have hq : (0 : Int) ≤ if t.scr[t.pos] < 0 then -t.scr[t.pos] else t.scr[t.pos] := by split <;> omega
        exact hq) rfl
      refine ⟨d, t'', a, b, c, ?_⟩
      rw [seqC_ap]
      have e0 : ifC (andT (ofE (binE eqS (tgetE 0 2) (cstE (.int 0)))) (ofE (binE ltS (tgetE 0 1) (callE lenS [(tgetE 0 0)])))) (seqC (tsetC 0 2 (callE absS [(callE intS [(binE ixS (tgetE 0 0) (tgetE 0 1))])]))
          (seqC (tsetC 0 1 (binE addS (tgetE 0 1) (cstE (.int 1))))
          (ifC (ofE (binE ltS (tgetE 0 2) (binE powS (cstE (.int 10)) (cstE (.int 18))))) (seqC (asgC 2 (callE intS [(tgetE 0 2)]))
          (seqC (tsetC 0 2 (cstE (.int 0)))
          (retC (binE modS (varE 2) (varE 1))))) skipC))) skipC [.tape, .val (.int m), .un, .un] (some t) = some (.nx, [.tape, .val (.int m), .un, .un], some { t with pos := t.pos + 1, left := (if t.scr[t.pos] < 0 then -t.scr[t.pos] else t.scr[t.pos]) }) := by
        simp [Tape.get, Tape.put, eq_int, lt_int, hz, hp, hg, add_int, hp2, hp', p18, hlt]
      show kR _ (kQ (ifC _ _ _ [.tape, .val (.int m), .un, .un] (some t)) _) = _
      rw [e0, kQ_nx, e]
      rfl
  · obtain ⟨d, t'', e', a, b, c, e⟩ := mid t hl rfl
    refine ⟨d, t'', a, b, c, ?_⟩
    rw [seqC_ap]
    have e0 : ifC (andT (ofE (binE eqS (tgetE 0 2) (cstE (.int 0)))) (ofE (binE ltS (tgetE 0 1) (callE lenS [(tgetE 0 0)])))) (seqC (tsetC 0 2 (callE absS [(callE intS [(binE ixS (tgetE 0 0) (tgetE 0 1))])]))
        (seqC (tsetC 0 1 (binE addS (tgetE 0 1) (cstE (.int 1))))
        (ifC (ofE (binE ltS (tgetE 0 2) (binE powS (cstE (.int 10)) (cstE (.int 18))))) (seqC (asgC 2 (callE intS [(tgetE 0 2)]))
        (seqC (tsetC 0 2 (cstE (.int 0)))
        (retC (binE modS (varE 2) (varE 1))))) skipC))) skipC [.tape, .val (.int m), .un, .un] (some t) = some (.nx, [.tape, .val (.int m), .un, .un], some t) := by
      by_cases z : t.left = 0
      · have h' : ¬ t.pos < t.scr.length := fun q => hc ⟨z, q⟩
        simp [Tape.get, eq_int, lt_int, z, h']
      · simp [Tape.get, eq_int, z]
    show kR _ (kQ (ifC _ _ _ [.tape, .val (.int m), .un, .un] (some t)) _) = _
    rw [e0, kQ_nx, e]
    rfl
open Classical in
noncomputable def takeP (t : Tape) (m : Int) : Int × Tape := if h : TOk t ∧ 1 ≤ m ∧ m < 2 ^ 62 then ⟨(take_ok t h.1 m h.2.1 h.2.2).choose, (take_ok t h.1 m h.2.1 h.2.2).choose_spec.choose⟩ else ⟨0, t⟩
noncomputable def takeV (t : Tape) (m : Int) : Int := (takeP t m).1
noncomputable def takeT (t : Tape) (m : Int) : Tape := (takeP t m).2
theorem take_all {t : Tape} {m : Int} (hT : TOk t) (h1 : 1 ≤ m) (h2 : m < 2 ^ 62) : 0 ≤ takeV t m ∧ takeV t m < m ∧ TOk (takeT t m) ∧ takeF [.tape, .val (.int m)] (some t) = some (.ok (.val (.int (takeV t m))), some (takeT t m)) := by
  have h : TOk t ∧ 1 ≤ m ∧ m < 2 ^ 62 := ⟨hT, h1, h2⟩
  have e : takeP t m = ⟨(take_ok t h.1 m h.2.1 h.2.2).choose, (take_ok t h.1 m h.2.1 h.2.2).choose_spec.choose⟩ := by unfold takeP; rw [dif_pos h]
  unfold takeV takeT
  rw [e]
  exact (take_ok t h.1 m h.2.1 h.2.2).choose_spec.choose_spec
theorem take_tok {t : Tape} {m : Int} (hT : TOk t) (h1 : 1 ≤ m) (h2 : m < 2 ^ 62) : TOk (takeT t m) := (take_all hT h1 h2).2.2.1
theorem take_eq {t : Tape} {m : Int} (hT : TOk t) (h1 : 1 ≤ m) (h2 : m < 2 ^ 62) : takeF [.tape, .val (.int m)] (some t) = some (.ok (.val (.int (takeV t m))), some (takeT t m)) := (take_all hT h1 h2).2.2.2
theorem take_nn {t : Tape} {m : Int} (hT : TOk t) (h1 : 1 ≤ m) (h2 : m < 2 ^ 62) : 0 ≤ takeV t m := (take_all hT h1 h2).1
theorem take_lt {t : Tape} {m : Int} (hT : TOk t) (h1 : 1 ≤ m) (h2 : m < 2 ^ 62) : takeV t m < m := (take_all hT h1 h2).2.1
def endsTrue (r : Option (Fl × SE × TapeO)) : Prop := ∃ env t, r = some (.rt (.val (.bl true)), env, t)
@[simp] theorem ends_rt {b : Bool} {e : SE} {t : TapeO} : endsTrue (some (.rt (.val (.bl b)), e, t)) ↔ b = true := by
  constructor
  · rintro ⟨env, t, h⟩
    cases h; rfl
  · rintro rfl
    exact ⟨e, t, rfl⟩
end MP

/-! MPl: slices. -/
namespace MP
open PySem PySem.Spec PyProof.Rows L2
section
variable {prog : Program} {w : World} {A : Around} {E : Value → Shared → Prop} {s : Shared}
/-- t[a:b], the whole: t itself -/
theorem getItem_all {t sl : Addr} {its : Array Value} {vl vu : Value} {lo hi : Option Int} {Q : Value → Shared → Prop} (ht : IsTup s.heap t its) (hs : s.heap.IsSliceOf sl vl vu .none) (pl : IsPart vl lo) (pu : IsPart vu hi)
    (h1 : HT.sIx its.size 0 lo = 0) (h2 : HT.sIx its.size its.size hi = its.size) (h : Q (.ref t) s) : wpAny (model prog w) A (getItem (.ref t) (.ref sl)) Q E s := by
  obtain ⟨os, hos, hcs, hds⟩ := id hs
  unfold getItem
  (try (with_reducible refine wpAny_holding ?_))
  (first | (refine wpAny_bind (wpAny_pure ?_)) | skip)
  refine wpAny_bind (wpAny_sequenceKey (ht.typeIs) (by decide) ?_)
  refine wpAny_bind (wpAny_callSpecial?_slot (name := Str.ofString "__getitem__") (ht.typeIs) slot_tuple_getitem (wpAny_call_entry slot_tuple_getitem (ht.typeIs) entry_tuple_getitem ?_ (args_tuple_getitem _ _)))
  show wpAny _ _ (Builtin.Tuple.tupleItemsOf (Value.ref t) >>= _) _ _ s
  refine wpAny_bind (tupleItemsOf_ ht ?_)
  refine wpAny_bind (wpAny_typeOf (show s.TypeIs (.ref sl) "slice" from ⟨os, hos, hcs⟩) ?_)
  rw [if_pos (by decide)]
  refine wpAny_bind (HT.sliceApplied_gen hs pl pu ?_)
  have hy : ((((HT.sIx its.size 0 lo : Nat) : Int) == 0 && (1 : Int) == 1 && (HT.sIx its.size its.size hi - HT.sIx its.size 0 lo) == its.size) = true) := by
    rw [h1, h2]; simp
  show wpAny _ _ (if ((((HT.sIx its.size 0 lo : Nat) : Int) == 0 && (1 : Int) == 1 && (HT.sIx its.size its.size hi - HT.sIx its.size 0 lo) == its.size) = true) then _ else _) _ _ s
  rw [if_pos hy]
  unfold Builtin.Tuple.tupleIsExact
  refine wpAny_bind (wpAny_bind (wpAny_typeOf (ht.typeIs) (wpAny_pure ?_)))
  show wpAny _ _ (if ((Value.type "tuple" == Value.type "tuple") = true) then _ else _) _ _ s
  rw [if_pos (by decide)]
  refine wpAny_bind (wpAny_rule ?_)
  first
    | exact wpAny_pure ⟨_, rfl, wpAny_pure h⟩
    | exact wpAny_bind (wpAny_pure ⟨_, rfl, wpAny_pure h⟩)
end
theorem cut_all {α : Type} {xs : List α} {lo hi : Option Int} (h1 : HT.sIx xs.length 0 lo = 0) (h2 : HT.sIx xs.length xs.length hi = xs.length) : (xs.drop (HT.sIx xs.length 0 lo)).take (HT.sIx xs.length xs.length hi - HT.sIx xs.length 0 lo) = xs := by
  rw [h1, h2]; simp
/-- the items of xs[lo:hi] -/
def cutD (xs : List D) (lo hi : Option Int) : List D := (xs.drop (HT.sIx xs.length 0 lo)).take (HT.sIx xs.length xs.length hi - HT.sIx xs.length 0 lo)
theorem Reps.cut {K : PySem.W.Frag} {H : Hp} {vs : List V} {ds : List D} (r : Reps K H vs ds) (lo hi : Option Int) : Reps K H (cutV vs lo hi) (cutD ds lo hi) := by
  unfold cutV cutD
  rw [r.length]
  exact (r.drop _).take _
/-- of a tuple, whole or not; of a list -/
def rSlA (K : PySem.W.Frag) : V → Option Int → Option Int → Hp → VK → Prop := fun x lo hi H Q =>
  (∃ a xs, x = .ref a ∧ SqT K H a xs ∧ Q (.ref a) H ∧ (cutV xs lo hi ≠ xs → True) ∧ HT.sIx xs.length 0 lo = 0 ∧ HT.sIx xs.length xs.length hi = xs.length) ∨ rSlT K x lo hi H Q ∨ rSlL K x lo hi H Q
theorem sl_all {X : Cx} : SlR X (rSlA X.K) := by
  refine SlR.or (fun pins s σ H x v vl vu lo hi sl Q I rx hs pl pu h => ?_) (SlR.or sl_tup sl_list)
  obtain ⟨a, xs, rfl, hx, q, _, h1, h2⟩ := h
  cases rx
  obtain ⟨its, r, ht, hz⟩ := I.tuple hx
  have hlen : its.toArray.size = xs.length := by rw [List.size_toArray]; exact r.length.symm
  refine ⟨"tuple", _, slot_tuple_getitem.lookup, ht.typeIs, getItem_all ht hs pl pu (by rw [hlen]; exact h1) (by rw [hlen]; exact h2) ⟨.ref a, H, I, rfl, q⟩⟩
def partOf : Sl → Option (Option Int)
  | .val (.int i) => some (some i)
  | _ => none
def slS (x : Sl) (lo hi : Option Int) : Option Sl := match x with
  | .val (.tup ds) => some (.val (.tup (cutD ds lo hi)))
  | .val (.lst ds) => some (.own (cutD ds lo hi))
  | .own ds => some (.own (cutD ds lo hi))
  | .bor ds => some (.own (cutD ds lo hi))
  | _ => none
/-- a part of a slice -/
abbrev Pv := SE → TapeO → Option (Except Str (Option Int) × TapeO)
def noP : Pv := fun _ ta => some (.ok none, ta)
def someP (f : Ev) : Pv := fun env ta => match f env ta with
  | none => none
  | some (.error x, t) => some (.error x, t)
  | some (.ok r, t) => (partOf r).map fun o => (.ok o, t)
def slE (f : Ev) (p q : Pv) : Ev := bindE f fun x => fun env ta => match p env ta with
  | none => none
  | some (.error x, t) => some (.error x, t)
  | some (.ok lo, t) => match q env t with
    | none => none
    | some (.error x, t) => some (.error x, t)
    | some (.ok hi, t) => (slS x lo hi).map fun z => (.ok z, t)
def PPost (K : PySem.W.Frag) (c : Ct) (W : WX) (B : Hp) (tp : Option Addr) (σ : L2.St) (H : Hp) (env : SE) (r : Option (Except Str (Option Int) × TapeO)) (Q : Option Int → Hp → Prop) : Prop :=
  match r with
  | none => False
  | some (.ok o, ta') => ∀ H', RepS K c B tp σ H' env ta' → Kp c tp H H' → Q o H'
  | some (.error x, ta') => ∀ cls d H', RepS K c B tp σ H' env ta' → Kp c tp H H' → ErrIs c H' cls d x → W cls d σ H'
def tPp (K : PySem.W.Frag) (c : Ct) (W : WX) (f : Pv) : L2.TO := fun σ H Q => ∃ B tp env ta, RepS K c B tp σ H env ta ∧ PPost K c W B tp σ H env (f env ta) Q
structure PPv (X : Cx) (c : Ct) (W : WX) (e : Option Expr) (f : Pv) : Prop where
  po : PO X e (tPp X.K c W f)
section
variable {X : Cx} {c : Ct} {W : WX} {e : Expr} {lo hi : Option Expr} {f : Ev} {p q : Pv} {pos p2 : Pos}
theorem p_no : PPv X c W none noP := ⟨⟨fun pins s σ H Q I h => po_none.run pins s σ H Q I (by
  obtain ⟨B, tp, env, ta, RS, h⟩ := h
  exact h H RS (.refl _ _ _))⟩⟩
theorem p_some (he : PEv X c W e f) : PPv X c W (some e) (someP f) := ⟨⟨fun pins s σ H Q I h => (po_some he.pe).run pins s σ H Q I (by
  obtain ⟨B, tp, env, ta, RS, h⟩ := h
  refine ⟨B, tp, env, ta, RS, ?_⟩
  unfold someP at h
  cases e1 : f env ta with
  | none => rw [e1] at h; exact h
  | some z =>
    obtain ⟨r, t⟩ := z
    rw [e1] at h
    cases r with
    | error x => exact h
    | ok r =>
      intro v H1 R1 K1 V1
      dsimp only at h
      cases r with
      | val d =>
        cases d with
        | int i => exact ⟨i, V1.int, h H1 R1 K1⟩
        | _ => exact h.elim
      | _ => exact h.elim)⟩⟩
theorem v_slice (he : PEv X c W e f) (hp : PPv X c W lo p) (hq : PPv X c W hi q) : PEv X c W (.Subscript e (.Slice lo hi none p2) pos) (slE f p q) := by
  refine ⟨pe_mono (pe_slice sl_all he.pe hp.po hq.po) ?_⟩
  rintro σ H Q ⟨B, tp, env, ta, RS, h⟩
  refine tE_bind RS h fun x t1 v H1 R1 K1 V1 h1 => ?_
  have h1 := h1.later K1
  refine ⟨B, tp, env, t1, R1, ?_⟩
  cases ep : p env t1 with
  | none => rw [ep] at h1; exact h1
  | some z =>
    obtain ⟨r, t2⟩ := z
    rw [ep] at h1
    cases r with
    | error x => exact h1
    | ok lo =>
      intro H2 R2 K2
      refine ⟨B, tp, env, t2, R2, ?_⟩
      dsimp only at h1
      cases eq : q env t2 with
      | none => rw [eq] at h1; exact h1
      | some z =>
        obtain ⟨r, t3⟩ := z
        rw [eq] at h1
        cases r with
        | error x => exact fun cls d H' R' K' er => h1 cls d H' R' (K2.trans K') er
        | ok hi =>
          intro H3 R3 K3
          have h3 := (h1.later (K2.trans K3))
          have V3 := (V1.kp K2).kp K3
          dsimp only at h3
          cases x with
          | val d =>
            cases d with
            | tup ds =>
              obtain ⟨a, xs, rfl, hs, rr⟩ := V3.tup
              by_cases hw : HT.sIx xs.length 0 lo = 0 ∧ HT.sIx xs.length xs.length hi = xs.length
              · refine .inl ⟨a, xs, rfl, hs, ?_, fun _ => trivial, hw.1, hw.2⟩
                have ec : cutD ds lo hi = ds := cut_all (by rw [← rr.length]; exact hw.1) (by rw [← rr.length]; exact hw.2)
                refine EPost.val R3 h3 ?_
                show Rep _ _ _ _
                rw [ec]
                exact .tup hs rr
              · exact .inr (.inl ⟨a, xs, rfl, hs, hw, fun p hp => EPost.same R3 h3 (Same.new hp) (RepV.newT hp (rr.cut lo hi))⟩)
            | lst ds =>
              obtain ⟨a, xs, rfl, hs, rr⟩ := V3.list rfl
              exact .inr (.inr ⟨a, xs, rfl, hs, fun p hp => EPost.same R3 h3 (Same.new hp) (RepV.newL hp (R3.vol hp) (rr.cut lo hi))⟩)
            | _ => exact h3.elim
          | own ds =>
            obtain ⟨a, xs, rfl, hs, rr⟩ := V3.list rfl
            exact .inr (.inr ⟨a, xs, rfl, hs, fun p hp => EPost.same R3 h3 (Same.new hp) (RepV.newL hp (R3.vol hp) (rr.cut lo hi))⟩)
          | bor ds =>
            obtain ⟨a, xs, rfl, hs, rr⟩ := V3.list rfl
            exact .inr (.inr ⟨a, xs, rfl, hs, fun p hp => EPost.same R3 h3 (Same.new hp) (RepV.newL hp (R3.vol hp) (rr.cut lo hi))⟩)
          | un => exact h3.elim
          | tape => exact h3.elim
          | dic _ => exact h3.elim
          | bdc _ => exact h3.elim
end
end MP

/-! MPm: zip, enumerate. -/
namespace MP
open PySem PySem.Spec PyProof.Rows L2
def zipD (ds es : List D) : List D := List.zipWith (fun a b => D.tup [a, b]) ds es
def enumD (ds : List D) : List D := List.zipWith (fun (i : Nat) d => D.tup [.int (i : Int), d]) (List.range ds.length) ds
/-- what may be walked: is it a tuple, its items -/
def seqB (strong : Bool) : Sl → Option (Bool × List D)
  | .val (.tup ds) => some (true, ds)
  | .val (.lst ds) => some (false, ds)
  | .own ds => if strong = true then none else some (false, ds)
  | .bor ds => if strong = true then none else some (false, ds)
  | _ => none
section
variable {K : PySem.W.Frag} {c : Ct} {tp : Option Addr} {H H1 : Hp} {v : V} {r : Sl} {ds : List D} {strong : Bool}
theorem live {z : Bool} (V : RepV K c tp H H1 v r) (e : seqB strong r = some (z, ds)) : ∃ a xs, v = .ref a ∧ Reps K H1 xs ds ∧ ∀ H2, (if strong = true then Stab H1 H2 else Kp c tp H1 H2) → (if z = true then SqT K H2 a xs else SqL K H2 a xs) ∧ Stab H1 H2 := by
  have st : ∀ H2, (if strong = true then Stab H1 H2 else Kp c tp H1 H2) → Stab H1 H2 := fun H2 hh => by
    cases strong with
    | true => exact hh
    | false => exact hh.st
  have trk : ∀ a xs, H1 a = some (.lst xs) → ¬ Vol c tp a → strong ≠ true → ∀ H2, (if strong = true then Stab H1 H2 else Kp c tp H1 H2) → SqL K H2 a xs := fun a xs hl nv ns H2 hh => by
    cases strong with
    | true => exact absurd rfl ns
    | false => exact SqL.of (hh.kp _ _ hl nv)
  cases r with
  | un => cases e
  | val d =>
    cases d with
    | tup es =>
      cases e
      obtain ⟨a, xs, rfl, hs, r⟩ := V.tup
      exact ⟨a, xs, rfl, r, fun H2 hh => ⟨(st H2 hh).sqT hs, st H2 hh⟩⟩
    | lst es =>
      cases e
      cases (show Rep K H1 v (.lst ds) from V) with
      | lst hs r => exact ⟨_, _, rfl, r, fun H2 hh => ⟨((st H2 hh).fz hs).sq, st H2 hh⟩⟩
    | _ => cases e
  | own es =>
    have e : (if strong = true then none else some (false, es)) = some (z, ds) := e
    split at e
    · cases e
    · rename_i ns
      cases e
      obtain ⟨a, xs, rfl, n, nv, hl, r⟩ := V
      exact ⟨a, xs, rfl, r, fun H2 hh => ⟨trk a xs hl nv ns H2 hh, st H2 hh⟩⟩
  | bor es =>
    have e : (if strong = true then none else some (false, es)) = some (z, ds) := e
    split at e
    · cases e
    · rename_i ns
      cases e
      obtain ⟨a, xs, rfl, hl, nv, r⟩ := V
      exact ⟨a, xs, rfl, r, fun H2 hh => ⟨trk a xs hl nv ns H2 hh, st H2 hh⟩⟩
  | tape => cases e
  | dic _ => cases e
  | bdc _ => cases e
theorem zip_get {ds es : List D} {i : Nat} {d : D} (h : (zipD ds es)[i]? = some d) : ∃ a b, ds[i]? = some a ∧ es[i]? = some b ∧ d = .tup [a, b] := by
  unfold zipD at h
  rw [List.getElem?_zipWith] at h
  split at h
  · rename_i a b e1 e2; cases h; exact ⟨a, b, e1, e2, rfl⟩
  · cases h
theorem rep_pair {H2 : Hp} {T : Addr} {x y : V} {a b : D} (n : H2 T = none) (r1 : Rep K H2 x a) (r2 : Rep K H2 y b) : Same H2 (upd H2 T (.tup [x, y])) ∧ Rep K (upd H2 T (.tup [x, y])) (.ref T) (.tup [a, b]) :=
  ⟨Same.new n, .tup (SqT.of upd_same) (.cons (r1.st (.of_same (Same.new n))) (.cons (r2.st (.of_same (Same.new n))) .nil))⟩
theorem jw_zipL {Rl : Hp → Prop} {a b : Addr} {xs ys : List V} {ds es : List D} (ha : ∀ H, Rl H → SqL K H a xs ∧ Stab H1 H) (hb : ∀ H, Rl H → SqL K H b ys ∧ Stab H1 H) (r1 : Reps K H1 xs ds) (r2 : Reps K H1 ys es) : JW K Rl (Itz K a b) (zipD ds es) := by
  intro i H2 hR
  obtain ⟨h1, s1⟩ := ha H2 hR
  obtain ⟨h2, _⟩ := hb H2 hR
  refine ⟨fun d e => ?_, fun hl => ⟨xs, ys, h1, h2, ?_⟩⟩
  · obtain ⟨p, q, e1, e2, rfl⟩ := zip_get e
    obtain ⟨v, f1, k1⟩ := r1.get e1
    obtain ⟨u, f2, k2⟩ := r2.get e2
    refine ⟨⟨xs, ys, v, u, h1, h2, f1, f2⟩, fun x H' y => ?_⟩
    obtain ⟨T, x1, y1, rfl, n, rfl, g1, g2⟩ := y
    have w1 := g1 xs h1
    have w2 := g2 ys h2
    rw [f1] at w1; rw [f2] at w2
    cases w1; cases w2
    exact rep_pair n (k1.st s1) (k2.st s1)
  · unfold zipD at hl
    rw [List.length_zipWith] at hl
    rw [r1.length, r2.length]
    omega
theorem jw_zipT {Rl : Hp → Prop} {a b : Addr} {xs ys : List V} {ds es : List D} (ha : ∀ H, Rl H → SqT K H a xs ∧ Stab H1 H) (hb : ∀ H, Rl H → SqT K H b ys ∧ Stab H1 H) (r1 : Reps K H1 xs ds) (r2 : Reps K H1 ys es) : JW K Rl (RZ.ItzT K a b) (zipD ds es) := by
  intro i H2 hR
  obtain ⟨h1, s1⟩ := ha H2 hR
  obtain ⟨h2, _⟩ := hb H2 hR
  refine ⟨fun d e => ?_, fun hl => ⟨xs, ys, h1, h2, ?_⟩⟩
  · obtain ⟨p, q, e1, e2, rfl⟩ := zip_get e
    obtain ⟨v, f1, k1⟩ := r1.get e1
    obtain ⟨u, f2, k2⟩ := r2.get e2
    refine ⟨⟨xs, ys, v, u, h1, h2, f1, f2⟩, fun x H' y => ?_⟩
    obtain ⟨T, x1, y1, rfl, n, rfl, g1, g2⟩ := y
    have w1 := g1 xs h1
    have w2 := g2 ys h2
    rw [f1] at w1; rw [f2] at w2
    cases w1; cases w2
    exact rep_pair n (k1.st s1) (k2.st s1)
  · unfold zipD at hl
    rw [List.length_zipWith] at hl
    rw [r1.length, r2.length]
    omega
theorem enum_get {ds : List D} {i : Nat} {d : D} (h : (enumD ds)[i]? = some d) : ∃ a, ds[i]? = some a ∧ d = .tup [.int (i : Int), a] := by
  unfold enumD at h
  rw [List.getElem?_zipWith] at h
  split at h
  · rename_i a b e1 e2
    cases h
    obtain ⟨h1, h2⟩ := List.getElem?_eq_some_iff.mp e1
    rw [List.getElem_range] at h2
    subst h2
    exact ⟨b, e2, rfl⟩
  · cases h
theorem jw_enumL {Rl : Hp → Prop} {a : Addr} {xs : List V} {ds : List D} (ha : ∀ H, Rl H → SqL K H a xs ∧ Stab H1 H) (r1 : Reps K H1 xs ds) : JW K Rl (Ite K a) (enumD ds) := by
  intro i H2 hR
  obtain ⟨h1, s1⟩ := ha H2 hR
  refine ⟨fun d e => ?_, fun hl => ⟨xs, h1, ?_⟩⟩
  · obtain ⟨p, e1, rfl⟩ := enum_get e
    obtain ⟨v, f1, k1⟩ := r1.get e1
    refine ⟨⟨xs, v, h1, f1⟩, fun x H' y => ?_⟩
    obtain ⟨T, x1, rfl, n, rfl, g1⟩ := y
    have w1 := g1 xs h1
    rw [f1] at w1
    cases w1
    exact rep_pair n (.int _) (k1.st s1)
  · unfold enumD at hl
    rw [List.length_zipWith, List.length_range] at hl
    rw [r1.length]
    omega
end
def zipS (strong : Bool) : List Sl → Option (List D)
  | [x, y] => match seqB strong x, seqB strong y with
    | some (a, ds), some (b, es) => if a = b then some (zipD ds es) else none
    | _, _ => none
  | _ => none
section
variable {X : Cx} {c : Ct} {W : WX} {a a2 : Expr} {fs : List Ev} {b : Bool} {p pos tpos : Pos} {elts : List Expr} {kk : Nat}
theorem i_zip (hm : X.mg "zip" = none) (ha : PAv X c W [a, a2] fs) (hg : Gl X "zip" := by rfl) (hs : starEach [a, a2] X.env = (false, eval a X.env) :: starEach [a2] X.env := by rfl) (hpl : (backTo pos (starEach [a2] X.env)).any (·.1) = false := by rfl) :
    PIv X c W b (.Tuple elts kk tpos) (.Call (.Name "zip" p) [a, a2] [] pos) (argI (zipS b) fs) := by
  refine ⟨pi_mono (RZ.pi_zipA hg hm ha.pa hs hpl) ?_⟩
  rintro σ H R ⟨B, tp, env, ta, RS, h⟩
  refine arg_of RS h fun rs t vs H1 ds e R1 K1 VS h => ?_
  unfold zipS at e
  split at e
  · rename_i x y
    split at e
    · rename_i z1 l1 z2 l2 ex ey
      split at e
      · rename_i hz
        cases e
        cases VS with
        | cons h1 h2 =>
          cases h2 with
          | cons h2 h3 =>
            cases h3
            obtain ⟨p1, xs, rfl, r1, g1⟩ := live h1 ex
            obtain ⟨p2, ys, rfl, r2, g2⟩ := live h2 ey
            subst hz
            have now : (if b = true then Stab H1 H1 else Kp c tp H1 H1) := by
              cases b
              · exact Kp.refl _ _ _
              · exact Stab.refl _
            refine ⟨p1, p2, xs, ys, rfl, ?_⟩
            cases z1 with
            | true => exact .inr ⟨(g1 H1 now).1, (g2 H1 now).1, h _ H1 R1 K1 (jw_zipT g1 g2 r1 r2)⟩
            | false => exact .inl ⟨(g1 H1 now).1, (g2 H1 now).1, h _ H1 R1 K1 (jw_zipL g1 g2 r1 r2)⟩
      · cases e
    · cases e
  · cases e
end
end MP

/-! MPn: enumerate of a tuple. -/
namespace MP
open PySem PySem.Spec PyProof.Rows L2
open Sem (wp)
open AutoSeq1 (wpAny_loadPart')
theorem enum_newT (t : Addr) (items : Array Value) (n : Nat) (dct : Option Addr) (sl : Array (Option Value)) :
    Meets (Builtin.«enumerate.__new__» ⟨[.type "enumerate", .ref t], []⟩) (fun _ R s => s.heap.get? t = some { cls := .type "tuple", dict := dct, data := .seq items n, slots := sl } ∧
      R (.ok (.ret (.ref (s.heap.push { cls := .type "tuple_iterator", data := .fields #[.ref t, .int 0 0] }).objs.size)))
        { s with heap := (s.heap.push { cls := .type "tuple_iterator", data := .fields #[.ref t, .int 0 0] }).push { cls := .type "enumerate", data := .fields #[.none, .bool false, .ref s.heap.objs.size, rawInt 0, .none, .none] } }) :=
  .of_wp fun prog w A R s h => by
    obtain ⟨hp, g, d, tk, os⟩ := s
    obtain ⟨hl, h⟩ := h
    have hsub := sub_enumerate
    have hL : Heap.IsTuple (Shared.heap ⟨hp, g, d, tk, os⟩) t items := ⟨_, hl, rfl, n, rfl⟩
    wp_walk using wpAny_loadPart' hl
    refine wpAny_stack_any fun st => (wpAny_pure ?_)
    split
    · rename_i c _ _ _ _ _
      cases (c == Value.type "enumerate") <;> (wp_walk using wpAny_loadPart' hl, wpAny_pyIter_tuple hL; exact ⟨_, rfl, h⟩)
    · wp_walk using wpAny_loadPart' hl, wpAny_pyIter_tuple hL
      exact ⟨_, rfl, h⟩
section
variable {prog : Program} {w : World} {A : Around} {E : Value → Shared → Prop} {s : Shared}
theorem call_enumT {t : Addr} {items : Array Value} {Q : Value → Shared → Prop} (hL : s.heap.IsTuple t items)
    (h : ∀ h', IsEnum h' (s.heap.objs.size + 1) s.heap.objs.size 0 .none → h'.IsTupleIter s.heap.objs.size t 0 → (∀ b o, s.heap.get? b = some o → h'.get? b = some o) → Q (.ref (s.heap.objs.size + 1)) { s with heap := h' }) :
    wpAny (model prog w) A (call (.type "enumerate") [.ref t]) Q E s := by
  obtain ⟨⟨c, dct, dt, sl⟩, hl, hc, n, hd⟩ := hL
  obtain rfl : c = .type "tuple" := hc
  obtain rfl : dt = .seq items n := hd
  refine callType_new F.called_enumerate (by decide) (F.typeCall_enumerate_1 _) (F.newCall_enumerate_1 _) (fun obj => F.args_object_init_2 obj _) F.entry_enumerate_new (enum_newT t items n dct sl) ⟨hl, ?_⟩
  obtain ⟨o1, ho1⟩ : ∃ o1 : Obj, o1 = { cls := .type "tuple_iterator", data := .fields #[.ref t, .int 0 0] } := ⟨_, rfl⟩
  obtain ⟨o2, ho2⟩ : ∃ o2 : Obj, o2 = { cls := .type "enumerate", data := .fields #[.none, .bool false, .ref s.heap.objs.size, rawInt 0, .none, .none] } := ⟨_, rfl⟩
  rw [← ho1, ← ho2]
  have hz : (s.heap.push o1).objs.size = s.heap.objs.size + 1 := Heap.size_push ..
  show _ ∧ _
  rw [hz]
  have he : IsEnum ((s.heap.push o1).push o2) (s.heap.objs.size + 1) s.heap.objs.size 0 .none := by
    have q := Heap.get?_push_size (s.heap.push o1) (o := o2) (by rw [ho2]; rfl)
    rw [hz] at q
    rw [ho2] at q ⊢
    exact q
  have g1 : ((s.heap.push o1).push o2).get? s.heap.objs.size = some o1 := Heap.get?_push_of_some _ (Heap.get?_push_size _ (by rw [ho1]; rfl))
  exact ⟨⟨_, he, rfl⟩, h _ he ⟨_, g1, by rw [ho1], by rw [ho1]; rfl⟩ fun b o x => Heap.get?_push_of_some _ (Heap.get?_push_of_some _ x)⟩
end
/-- the tuple at a, its items numbered, in new pairs -/
def IteT (K : PySem.W.Frag) (a : Addr) : It :=
  ⟨fun i H => ∃ (xs : List V) (x : V), SqT K H a xs ∧ xs[i]? = some x, fun i H v H' => ∃ T x, v = .ref T ∧ H T = none ∧ H' = upd H T (.tup [.int (i : Nat), x]) ∧ ∀ xs, SqT K H a xs → xs[i]? = some x,
    fun i H => ∃ xs : List V, SqT K H a xs ∧ xs.length ≤ i⟩
theorem turn_enumT {P : Program} {w : World} {K : PySem.W.Frag} {elts : List Expr} {kk : Nat} {tpos : Pos} (a e it : Addr) :
    Turn P w K (.Tuple elts kk tpos) (IteT K a) [e, it] e (fun i h => (∃ old, IsEnum h e it ((i : Nat) : Int) old) ∧ h.IsTupleIter it a i ∧ e ≠ it ∧ a ≠ it ∧ e ≠ a) where
  mem := by simp
  obj := fun i h st b hb => by
    obtain ⟨⟨old, he⟩, ⟨o, ho, hc, hd⟩, _⟩ := st
    rcases (by simpa using hb : b = e ∨ b = it) with rfl | rfl
    · exact ⟨_, he, fun v q => nomatch q⟩
    · exact ⟨o, ho, fun v q => by rw [hd] at q; cases q⟩
  keep := fun i h h' st k => by
    obtain ⟨⟨old, he⟩, hi, r⟩ := st
    exact ⟨⟨old, k e (by simp) _ he⟩, hi.at fun o q => k it (by simp) o q, r⟩
  item := by
    intro X hP hw hK hc i pins s σ H E I hf st hg
    subst hP hw hK
    obtain ⟨⟨old, he⟩, hit, hne, hai, hea⟩ := st
    obtain ⟨xs, x, hq, hx⟩ := hg
    obtain ⟨its, rv, p, hz⟩ := I.tuple hq
    obtain ⟨u, hu, ru⟩ := rv.get hx
    have hel : e < s.heap.objs.size := Heap.lt_size he
    have hil : it < s.heap.objs.size := by
      obtain ⟨_, q, _⟩ := hit
      exact Heap.lt_size q
    have hlt : i < its.toArray.size := by
      rw [List.size_toArray, ← rv.length]
      exact (List.getElem?_eq_some_iff.mp hx).1
    refine wpAny_pyNext_enum_itemD (Draws.tuple (A := X.A.in1) (I.ok.hd hc) it a hai its.toArray) he ⟨hit, p⟩ hlt hne (by simp; exact ⟨hne, hea⟩) fun y h' tk hy ho hst hT hsz hk => ?_
    have hyu : y = u := by
      have z : its[i]? = some y := by simpa using hy
      rw [hu] at z; cases z; rfl
    subst hyu
    refine ⟨_, rfl, wpAny_letOwnedTupleGo_enum (s := { s with heap := h', toks := tk + 1 }) ho fun h'' he' sb => ?_⟩
    have hT2 := (sb.2 _ (Nat.ne_of_gt hel)).trans hT
    have new : ObjOk X.prog X.w (upd H s.heap.objs.size (.tup [.int (i : Nat), x])) h'' s.heap.objs.size (.tup [.int (i : Nat), x]) :=
      ⟨by show 2 ≤ sizeLine; decide, [.int i tk, y], .cons ⟨_, rfl⟩ (.cons ru .nil), ⟨_, hT2, rfl, _, rfl⟩⟩
    have I1 := I.turnedNew (t' := tk + 1) (ch := [e, it]) (fun b ob hb q => (sb.2 b (fun z => hb (by simp [z]))).trans (hk b ob (fun z => hb (by simp [z])) (fun z => hb (by simp [z])) q)) hf (Nat.le_refl _) new
    refine ⟨.ref s.heap.objs.size, _, I1, rfl, ⟨_, x, rfl, I.hok.fresh (Nat.le_refl _), rfl, fun ys hy => by rw [I.tuple_inj hy hq]; exact hx⟩, ⟨⟨y, ?_⟩, hst.1.at fun o q => (sb.2 it (Ne.symm hne)).trans q, hne, hai, hea⟩, fun b hb => ?_⟩
    · have e1 : ((i + 1 : Nat) : Int) = (i : Int) + 1 := by omega
      rw [e1]
      exact he'
    · have hb' : b < s.heap.objs.size := by
        rcases (by simpa using hb : b = e ∨ b = it) with rfl | rfl
        · exact hel
        · exact hil
      rw [upd_ne (Nat.ne_of_lt hb')]
      exact (hf b hb).1
  done := by
    intro X hP hw hK hc i pins s σ H E I hf st hg
    subst hP hw hK
    obtain ⟨⟨old, he⟩, hit, hne, hai, hea⟩ := st
    obtain ⟨xs, hq, hx⟩ := hg
    obtain ⟨its, rv, p, hz⟩ := I.tuple hq
    have hl := rv.length
    have hx' : its.toArray[i]? = none := by simp; omega
    have D : Draws X.prog X.w X.A.in1 it [it, a] i (fun _ _ => False) (fun k h => k = i ∧ h.IsTupleIter it a i ∧ h.IsTuple a its.toArray) :=
      { live := fun _ _ st => by
          obtain ⟨_, ⟨o, ho, _⟩, _⟩ := st
          exact ⟨o, ho⟩
        frame := fun _ _ _ st hk => ⟨st.1, st.2.1.at fun o q => hk it (by simp) o q, st.2.2.at fun o q => hk a (by simp) o q⟩
        item := fun k s Q E hi st hQ => absurd st.1 (Nat.ne_of_lt hi)
        done := fun s Q E st hE => wpAny_nextOf_tuple_end (I.ok.hd hc) st.2.1 st.2.2 hx' hE }
    obtain ⟨f0, f1, _, f3, f4, f5⟩ := hf it (by simp)
    exact wpAny_pyNext_enum_endD D he ⟨rfl, hit, p⟩ fun h' eb => ⟨rfl, I.turned (t' := s.toks) (fun b o hb q => eb b o hb q) f0 f1 f3 f4 f5⟩
  self := fun A i s Q E st h => by
    obtain ⟨⟨_, he⟩, _⟩ := st
    exact wpAny_pyIter_enum he h
def iEnumT (K : PySem.W.Frag) (ta : TA) : TI := fun σ H R => ta σ H fun vs H1 => ∃ a xs, vs = [.ref a] ∧ ((SqL K H1 a xs ∧ R (Ite K a) H1) ∨ (SqT K H1 a xs ∧ R (IteT K a) H1))
theorem pi_enumA {X : Cx} {e : Expr} {ta : TA} {p pos tpos : Pos} {elts : List Expr} {kk : Nat} (hg : Gl X "enumerate") (hm : X.mg "enumerate" = none) (ha : PA X [e] ta) (hs : starEach [e] X.env = [(false, eval e X.env)] := by rfl) :
    PI X (.Tuple elts kk tpos) (.Call (.Name "enumerate" p) [e] [] pos) (iEnumT X.K ta) := by
  refine ⟨fun pins s σ H R I h => ?_⟩
  refine Call_ (ld_blt I hg hm boot_enumerate (callWith_type1 (thn (ha.run pos pins s σ H _ I h) fun us s1 ⟨vs, H1, I1, r1, q1⟩ => ?_) hs rfl))
  obtain ⟨a, xs, rfl, q1⟩ := q1
  have fresh : ∀ b ∈ [s1.heap.objs.size + 1, s1.heap.objs.size], FpOk X pins H1 b := fun b hb => by
    have hle : s1.heap.objs.size ≤ b := by
      rcases (by simpa using hb : b = s1.heap.objs.size + 1 ∨ b = s1.heap.objs.size) with rfl | rfl
      · exact Nat.le_succ _
      · exact Nat.le_refl _
    exact I1.fpOk hle (I1.hok.fresh hle)
  cases r1 with
  | cons r rr =>
    cases rr
    cases r
    rcases q1 with ⟨hq, q⟩ | ⟨hq, q⟩
    · obtain ⟨its, rv, p', hz⟩ := I1.list hq
      refine call_enumerate_list p'.isList fun h' he hit hsz hk => wpAny_pyIter_enum he ?_
      have I2 : Inv X pins σ H1 { s1 with heap := h' } := I1.kept (t' := s1.toks) hk
      exact ⟨s1.heap.objs.size + 1, [s1.heap.objs.size + 1, s1.heap.objs.size], _, _, H1, rfl, I2, turn_enum a _ _, ⟨⟨.none, he⟩, hit, Nat.succ_ne_self _⟩, fresh, q⟩
    · obtain ⟨its, rv, p', hz⟩ := I1.tuple hq
      have hal : a < s1.heap.objs.size := by
        obtain ⟨o, ho, _⟩ := p'
        exact Heap.lt_size ho
      refine call_enumT (items := its.toArray) p' fun h' he hit hk => wpAny_pyIter_enum he ?_
      have I2 : Inv X pins σ H1 { s1 with heap := h' } := I1.kept (t' := s1.toks) hk
      exact ⟨s1.heap.objs.size + 1, [s1.heap.objs.size + 1, s1.heap.objs.size], _, _, H1, rfl, I2, turn_enumT a _ _, ⟨⟨.none, he⟩, hit, Nat.succ_ne_self _, Nat.ne_of_lt hal, Ne.symm (Nat.ne_of_lt (Nat.lt_succ_of_lt hal))⟩, fresh, q⟩
section
variable {K : PySem.W.Frag} {H1 : Hp} {ds : List D}
theorem jw_enumT {Rl : Hp → Prop} {a : Addr} {xs : List V} (ha : ∀ H, Rl H → SqT K H a xs ∧ Stab H1 H) (r1 : Reps K H1 xs ds) : JW K Rl (IteT K a) (enumD ds) := by
  intro i H2 hR
  obtain ⟨h1, s1⟩ := ha H2 hR
  refine ⟨fun d e => ?_, fun hl => ⟨xs, h1, ?_⟩⟩
  · obtain ⟨p, e1, rfl⟩ := enum_get e
    obtain ⟨v, f1, k1⟩ := r1.get e1
    refine ⟨⟨xs, v, h1, f1⟩, fun x H' y => ?_⟩
    obtain ⟨T, x1, rfl, n, rfl, g1⟩ := y
    have w1 := g1 xs h1
    rw [f1] at w1
    cases w1
    exact rep_pair n (.int _) (k1.st s1)
  · unfold enumD at hl
    rw [List.length_zipWith, List.length_range] at hl
    rw [r1.length]
    omega
end
def enumS (strong : Bool) : List Sl → Option (List D)
  | [x] => match seqB strong x with
    | some (_, ds) => some (enumD ds)
    | none => none
  | _ => none
section
variable {X : Cx} {c : Ct} {W : WX} {a : Expr} {fs : List Ev} {b : Bool} {p pos tpos : Pos} {elts : List Expr} {kk : Nat}
theorem i_enum (hm : X.mg "enumerate" = none) (ha : PAv X c W [a] fs) (hg : Gl X "enumerate" := by rfl) (hs : starEach [a] X.env = [(false, eval a X.env)] := by rfl) : PIv X c W b (.Tuple elts kk tpos) (.Call (.Name "enumerate" p) [a] [] pos) (argI (enumS b) fs) := by
  refine ⟨pi_mono (pi_enumA hg hm ha.pa hs) ?_⟩
  rintro σ H R ⟨B, tp, env, ta, RS, h⟩
  refine arg_of RS h fun rs t vs H1 ds e R1 K1 VS h => ?_
  unfold enumS at e
  split at e
  · rename_i x
    split at e
    · rename_i z1 l1 ex
      cases e
      cases VS with
      | cons h1 h2 =>
        cases h2
        obtain ⟨p1, xs, rfl, r1, g1⟩ := live h1 ex
        have now : (if b = true then Stab H1 H1 else Kp c tp H1 H1) := by
          cases b
          · exact Kp.refl _ _ _
          · exact Stab.refl _
        refine ⟨p1, xs, rfl, ?_⟩
        cases z1 with
        | true => exact .inr ⟨(g1 H1 now).1, h _ H1 R1 K1 (jw_enumT g1 r1)⟩
        | false => exact .inl ⟨(g1 H1 now).1, h _ H1 R1 K1 (jw_enumL g1 r1)⟩
    · cases e
  · cases e
end
end MP

/-! MPo: sums of lists and of tuples. -/
namespace MP
open PySem PySem.Spec PyProof.Rows L2
def rSumT (K : PySem.W.Frag) : List V → Hp → VK → Prop := fun vs H Q => ∃ (a : Addr) (ns : List Int), vs = [V.ref a] ∧ SqT K H a (ns.map V.int) ∧ Q (.int ns.sum) H
theorem cr_sumT {X : Cx} (hc : X.calm = true) : CallR X (.builtin "sum") (rSumT X.K) := by
  intro pins s σ H vs us Q I r h
  obtain ⟨a, ns, rfl, hs, q⟩ := h
  obtain ⟨its, rv, hl, _⟩ := I.tuple hs
  rw [Vals.ref1 r]
  have hi := rv.ints
  obtain ⟨xs, e⟩ := hi.allInts.items
  have hn : numsOf (intItems xs).toList = ns := by rw [← e]; exact hi.numsOf
  rw [nums_intItems] at hn
  rw [e] at hl
  refine PySem.W.ktm_sumG (I.ok.hd hc) hl fun h' tk t' hk => ⟨.int _, H, I.kept hk, ⟨_, rfl⟩, ?_⟩
  rw [preSum_eq, List.take_of_length_le (by simp), hn]
  exact q
def rSumA (K : PySem.W.Frag) : List V → Hp → VK → Prop := fun vs H Q => rSum K vs H Q ∨ rSumT K vs H Q
theorem cr_sumA {X : Cx} (hc : X.calm = true) : CallR X (.builtin "sum") (rSumA X.K) := by
  intro pins s σ H vs us Q I r h
  rcases h with h | h
  · exact cr_sum hc pins s σ H vs us Q I r h
  · exact cr_sumT hc pins s σ H vs us Q I r h
def sumAS : List Sl → Option Sl
  | [x] => ((x.seq?).bind ints?).map fun ns => .val (.int ns.sum)
  | _ => none
theorem co_sumA {K : PySem.W.Frag} {c : Ct} : CallOk K c (rSumA K) sumAS := by
  intro tp H0 H vs xs z Q nv VS e k
  match xs, VS with
  | [x], .cons h .nil =>
    unfold sumAS at e
    dsimp only at e
    cases ex : x.seq? with
    | none => rw [ex] at e; cases e
    | some ds =>
      rw [ex] at e
      have e : (ints? ds).map (fun ns => Sl.val (.int ns.sum)) = some z := e
      cases en : ints? ds with
      | none => rw [en] at e; cases e
      | some ns =>
        rw [en] at e
        cases e
        obtain ⟨a, ys, rfl, hs, r⟩ := h.seq ex
        rw [ints?_eq en] at r
        have ey := Reps.intsV _ r
        subst ey
        have q : Q (.int ns.sum) H := k _ H (Same.refl H) (Rep.int _)
        rcases hs with hs | hs
        · exact .inl ⟨a, ns, rfl, hs, q⟩
        · exact .inr ⟨a, ns, rfl, hs, q⟩
  | [], _ => cases e
  | _ :: _ :: _, _ => cases e
end MP

/-! MPp: list(range(..)), tuple(range(..)). -/
namespace MP
open PySem PySem.Spec PyProof.Rows L2
/-- a range as an argument: its two ends -/
abbrev Rv := SE → TapeO → Option (Except Str (Int × Int) × TapeO)
def rg1R (f : Ev) : Rv := fun env ta => match f env ta with
  | none => none
  | some (.error x, t) => some (.error x, t)
  | some (.ok (.val (.int n)), t) => some (.ok (0, n), t)
  | _ => none
def rg2R (f g : Ev) : Rv := fun env ta => match f env ta with
  | none => none
  | some (.error x, t) => some (.error x, t)
  | some (.ok (.val (.int a)), t) => (match g env t with
    | none => none
    | some (.error x, t) => some (.error x, t)
    | some (.ok (.val (.int b)), t) => some (.ok (a, b), t)
    | _ => none)
  | _ => none
def rgOk (a b : Int) : Bool := small62 a && small62 b && decide ((b - a).toNat ≤ LIM)
def ofRg (mk : List D → Sl) (r : Rv) : Ev := fun env ta => match r env ta with
  | none => none
  | some (.error x, t) => some (.error x, t)
  | some (.ok (a, b), t) => if rgOk a b = true then some (.ok (mk (rgL a (b - a).toNat)), t) else none
def RPost (K : PySem.W.Frag) (c : Ct) (W : WX) (B : Hp) (tp : Option Addr) (σ : L2.St) (H : Hp) (env : SE) (r : Option (Except Str (Int × Int) × TapeO)) (Q : Int → Int → Hp → Prop) : Prop :=
  match r with
  | none => False
  | some (.ok (a, b), ta') => ∀ H', RepS K c B tp σ H' env ta' → Kp c tp H H' → Q a b H'
  | some (.error x, ta') => ∀ cls d H', RepS K c B tp σ H' env ta' → Kp c tp H H' → ErrIs c H' cls d x → W cls d σ H'
def tRr (K : PySem.W.Frag) (c : Ct) (W : WX) (f : Rv) : L2.St → Hp → (Int → Int → Hp → Prop) → Prop := fun σ H Q => ∃ B tp env ta, RepS K c B tp σ H env ta ∧ RPost K c W B tp σ H env (f env ta) Q
structure PRv (X : Cx) (c : Ct) (W : WX) (e : Expr) (f : Rv) : Prop where
  pr : PRg X e (tRr X.K c W f)
theorem prg_mono {X : Cx} {e : Expr} {t t' : L2.St → Hp → (Int → Int → Hp → Prop) → Prop} (h : PRg X e t) (i : ∀ σ H Q, t' σ H Q → t σ H Q) : PRg X e t' := fun pins s σ H Q I w => h pins s σ H Q I (i σ H Q w)
section
variable {X : Cx} {c : Ct} {W : WX} {a b e : Expr} {f g : Ev} {r : Rv} {p pos : Pos}
theorem r_1 (hm : X.mg "range" = none) (ha : PEv X c W a f) (hg : Gl X "range" := by rfl) (na : starEach [a] X.env = (false, eval a X.env) :: starEach [] X.env := by rfl) : PRv X c W (.Call (.Name "range" p) [a] [] pos) (rg1R f) := by
  refine ⟨prg_mono (prg_1 hg hm ha.pe na) ?_⟩
  rintro σ H Q ⟨B, tp, env, ta, RS, h⟩
  refine ⟨B, tp, env, ta, RS, ?_⟩
  unfold rg1R at h
  cases e1 : f env ta with
  | none => rw [e1] at h; exact h
  | some z =>
    obtain ⟨r, t⟩ := z
    rw [e1] at h
    cases r with
    | error x => exact h
    | ok r =>
      intro v H1 R1 K1 V1
      cases r with
      | val d =>
        cases d with
        | int i => exact ⟨i, V1.int, h H1 R1 K1⟩
        | _ => exact h.elim
      | _ => exact h.elim
theorem r_2 (hm : X.mg "range" = none) (ha : PEv X c W a f) (hb : PEv X c W b g) (hg : Gl X "range" := by rfl) (na : starEach [a, b] X.env = (false, eval a X.env) :: starEach [b] X.env := by rfl) (nb : starEach [b] X.env = (false, eval b X.env) :: starEach [] X.env := by rfl)
    (hp : (backTo pos (starEach [b] X.env)).any (·.1) = false := by rfl) : PRv X c W (.Call (.Name "range" p) [a, b] [] pos) (rg2R f g) := by
  refine ⟨prg_mono (prg_2 hg hm ha.pe hb.pe na nb hp) ?_⟩
  rintro σ H Q ⟨B, tp, env, ta, RS, h⟩
  refine ⟨B, tp, env, ta, RS, ?_⟩
  unfold rg2R at h
  cases e1 : f env ta with
  | none => rw [e1] at h; exact h
  | some z =>
    obtain ⟨r, t⟩ := z
    rw [e1] at h
    cases r with
    | error x => exact h
    | ok r =>
      intro v H1 R1 K1 V1
      cases r with
      | val d =>
        cases d with
        | int i =>
          dsimp only at h
          refine ⟨B, tp, env, t, R1, ?_⟩
          cases e2 : g env t with
          | none => rw [e2] at h; exact h
          | some z =>
            obtain ⟨r, t2⟩ := z
            rw [e2] at h
            cases r with
            | error x => exact fun cls d H' R' K' er => h cls d H' R' (K1.trans K') er
            | ok r =>
              intro u H2 R2 K2 V2
              cases r with
              | val d =>
                cases d with
                | int j => exact ⟨i, j, V1.int, V2.int, h H2 R2 (K1.trans K2)⟩
                | _ => exact h.elim
              | _ => exact h.elim
        | _ => exact h.elim
      | _ => exact h.elim
theorem rgOk_rg {i j : Int} (h : rgOk i j = true) : RgOk i j := by
  unfold rgOk at h
  simp only [Bool.and_eq_true, decide_eq_true_eq] at h
  obtain ⟨⟨h1, h2⟩, h3⟩ := h
  have h1 := of_decide_eq_true (show decide _ = true from h1)
  have h2 := of_decide_eq_true (show decide _ = true from h2)
  exact ⟨h1.1, h1.2, h2.1, h2.2, by have : LIM = 16777216 := rfl; rw [this] at h3; exact h3⟩
theorem rep_rg {K : PySem.W.Frag} {H : Hp} (i j : Int) : Reps K H (rgV i j) (rgL i (j - i).toNat) := by
  unfold rgV rgL
  generalize List.range (j - i).toNat = l
  induction l with
  | nil => exact .nil
  | cons x l ih => exact .cons (.int _) ih
theorem rg_of {K : PySem.W.Frag} {mk : List D → Sl} {ho : List V → HO} (hmk : ∀ (tp : Option Addr) (H : Hp) (xs : List V) (ds : List D) (p : Addr), (∀ a, H a = none → ¬ Vol c tp a) → Reps K H xs ds → H p = none → RepV K c tp H (upd H p (ho xs)) (.ref p) (mk ds)) :
    ∀ σ H Q, tE K c W (ofRg mk r) σ H Q → tRr K c W r σ H fun a b H1 => RgOk a b ∧ ∀ q, H1 q = none → Q (.ref q) (upd H1 q (ho (rgV a b))) := by
  rintro σ H Q ⟨B, tp, env, ta, RS, h⟩
  refine ⟨B, tp, env, ta, RS, ?_⟩
  unfold ofRg at h
  cases e1 : r env ta with
  | none => rw [e1] at h; exact h
  | some z =>
    obtain ⟨r, t⟩ := z
    rw [e1] at h
    cases r with
    | error x => exact h
    | ok r =>
      obtain ⟨i, j⟩ := r
      intro H1 R1 K1
      dsimp only at h
      split at h
      · rename_i hok
        exact ⟨rgOk_rg hok, fun q hq => EPost.same R1 (h.later K1) (Same.new hq) (hmk tp H1 _ _ q (fun a => R1.vol) (rep_rg i j) hq)⟩
      · exact h.elim
theorem v_listRg (hm : X.mg "list" = none) (he : PRv X c W e r) (hc : X.calm = true := by rfl) (hg : Gl X "list" := by rfl) (na : starEach [e] X.env = (false, eval e X.env) :: starEach [] X.env := by rfl) : PEv X c W (.Call (.Name "list" p) [e] [] pos) (ofRg .own r) :=
  ⟨pe_mono (pe_listRg hc hg hm he.pr na) (rg_of (ho := .lst) fun tp H xs ds p nv r hp => RepV.newL hp (nv p hp) r)⟩
theorem v_tupRg (hm : X.mg "tuple" = none) (he : PRv X c W e r) (hc : X.calm = true := by rfl) (hg : Gl X "tuple" := by rfl) (na : starEach [e] X.env = (false, eval e X.env) :: starEach [] X.env := by rfl) : PEv X c W (.Call (.Name "tuple" p) [e] [] pos) (ofRg (fun ds => .val (.tup ds)) r) :=
  ⟨pe_mono (pe_tupRg hc hg hm he.pr na) (rg_of (ho := .tup) fun tp H xs ds p nv r hp => RepV.newT hp r)⟩
end
end MP

/-! MPq: x.extend(e), x[k] op= e. -/
namespace MP
open PySem PySem.Spec PyProof.Rows L2
def rExtA : V → List V → Hp → VK → Prop := fun x vs H Q => ∃ l b xs zs, x = .ref l ∧ vs = [.ref b] ∧ H l = some (.lst xs) ∧ Rd H b (.lst zs) ∧ xs.length + zs.length ≤ sizeLine ∧ Q .non (upd H l (.lst (xs ++ zs)))
theorem mt_extA {X : Cx} : MtR X "list.extend" rExtA := by
  intro pins s σ H x vs v us Q I rx rv h
  obtain ⟨l, b, xs, zs, rfl, rfl, hH, hB, hz, q⟩ := h
  cases rx
  obtain ⟨u, rfl, ru⟩ := rv.one
  cases ru
  obtain ⟨z, its, n, r, hl, e⟩ := Inv.lstAny I (Rd.of hH)
  obtain ⟨z2, its2, n2, r2, hl2, e2⟩ := Inv.lstAny I hB
  have hsz : its.toArray.size + its2.toArray.size ≤ sizeLine := by rw [List.size_toArray, List.size_toArray]; omega
  have hlong : ¬ ((!its.toArray.isEmpty && Builtin.List.listTooLong (its.toArray.size + its2.toArray.size)) = true) := by
    rw [notLongL hsz, Bool.and_false]
    decide
  refine call_meets F.slot_list_extend ⟨_, e, rfl⟩ F.entry_list_extend (F.args_list_extend_2 _ _) (AutoSeq1.list_extend_list_list_0 l its.toArray n b its2.toArray n2 hlong (by rw [List.size_toArray]; omega) (by omega)) ⟨e, e2, ?_⟩
  exact ⟨.non, _, I.lset (its' := its ++ its2) hH e (by simp) (r.append r2) (by rw [List.length_append]; omega), rfl, q⟩
/-- a list, tracked or frozen in the heap -/
def Sl.rd? : Sl → Option (List D)
  | .own ds => some ds
  | .bor ds => some ds
  | _ => none
def extC (i : Nat) (f : Ev) : Cs := fun env ta => match env[i]? with
  | some (.own ds) => onE f (fun r env t => match r.rd? with
    | some es => if ds.length + es.length ≤ LIM then some (.nx, env.set i (.own (ds ++ es)), t) else none
    | none => none) env ta
  | _ => none
section
variable {X : Cx} {c : Ct} {W : WX} {e : Expr} {f : Ev} {pos : Pos}
/-- x.extend(e) -/
theorem s_ext {i : Nat} {x : Str} {p apos cpos : Pos} (he : PEv X c W e f) (hN : X.N[i]? = some x := by rfl) (hv : Vis X.env.scope x := by first | exact Or.inl rfl | exact Or.inr (Or.inl rfl) | exact Or.inr (Or.inr rfl))
    (hd : (x == ("__debug__" : Str)) = false := by decide) (hcd : (x == ("__classdict__" : Str)) = false := by decide)
    (hbase : attributeBase (.Name x p) "extend" X.env (eval (.Name x p) X.env) = eval (.Name x p) X.env := by rfl)
    (hfew : ((backTo cpos (starEach [e] X.env)).all (fun x => !x.1) && (backToKw cpos (keywordEach [] X.env)).all (fun x => x.1.isSome)
      && decide ([e].length + ([] : List Keyword).length + (if ([] : List Keyword).isEmpty then 0 else 1) < 30)) = true := by rfl)
    (hline : (apos.endLine == cpos.line) = true := by rfl) (hs : starEach [e] X.env = (false, eval e X.env) :: starEach [] X.env := by rfl)
    (hsw : swapsWith (.Call (.Attribute (.Name x p) "extend" apos) [e] [] cpos) none pos.line X.env = pure false := by rfl) :
    PSv X c W (.Expr (.Call (.Attribute (.Name x p) "extend" apos) [e] [] cpos) pos) (extC i f) := by
  refine ⟨ps_mono (L2.ps_expr (pe_bm PySem.F.plainAttrs_list PySem.F.slot_list_extend PySem.F.type_list_extend mt_extA (pe_var hN hv hd hcd) (L2.pa_cons he.pe L2.pa_nil hs) hbase hfew hline hs rfl) hsw) ?_⟩
  rintro D σ H ⟨B, tp, env, ta, RS, h⟩
  unfold extC at h
  split at h
  · rename_i ds q
    obtain ⟨a, xs, ea, hl, r⟩ := RS.ownAt q
    refine ⟨_, ea, .inl ⟨rfl, xs, SqL.of hl⟩, on_of RS h fun z t v H1 R1 K1 V1 h1 => ?_⟩
    split at h1
    · rename_i es hes
      split at h1
      · rename_i hlt
        obtain ⟨a', ys, ea', hl', r'⟩ := R1.ownAt q
        rw [ea] at ea'
        cases ea'
        have hv : ∃ b zs, v = .ref b ∧ H1 b = some (.lst zs) ∧ Reps X.K H1 zs es := by
          cases z with
          | own l => cases hes; obtain ⟨b, zs, rfl, _, _, hb, rz⟩ := V1; exact ⟨b, zs, rfl, hb, rz⟩
          | bor l => cases hes; obtain ⟨b, zs, rfl, hb, _, rz⟩ := V1; exact ⟨b, zs, rfl, hb, rz⟩
          | _ => cases hes
        obtain ⟨b, zs, rfl, hb, rz⟩ := hv
        refine ⟨a, b, ys, zs, rfl, rfl, hl', Rd.of hb, by rw [r'.length, rz.length]; exact lim_line hlt, ?_⟩
        exact h1 tp σ _ (.refl _) (K1.st.trans (stab_lst hl')) (R1.mut q ea hl' (r'.append rz))
      · exact h1.elim
    · exact h1.elim
  · exact h.elim
end
/-! ### x[k] op= e -/
def rGetL (K : PySem.W.Frag) : V → V → Hp → VK → Prop := fun x y H Q => ∃ p xs i v, x = .ref p ∧ y = .int i ∧ SqL K H p xs ∧ atI xs i = some v ∧ Q v H
theorem get_list {X : Cx} : PGet X (rGetL X.K) := by
  intro pins s σ H o i ov iv Q I ro ri h
  obtain ⟨p, xs, k, z, rfl, rfl, hq, he, q⟩ := h
  cases ro
  obtain ⟨t, rfl⟩ := ri
  obtain ⟨its, r, pl, hz⟩ := I.list hq
  obtain ⟨j, h1, h2, h3, h4, h5⟩ := atI_get he
  obtain ⟨w, ew, rw'⟩ := r.get h2
  have hl := r.length
  have hn := line63
  have fin : EP X pins σ Q w s := ⟨z, H, I, rw', q⟩
  by_cases h0 : 0 ≤ k
  · have hj : k.toNat = j := by
      rw [seqIndex_of h0 h5] at h1
      exact Option.some.inj h1
    exact wpAny_getItem_list pl.isList h0 (by omega) (by rw [hj]; simpa using ew) fin
  · have hj : (k + (its.toArray.size : Int)).toNat = j := by
      rw [seqIndex_neg (by omega) h4] at h1
      rw [List.size_toArray, ← hl]
      exact Option.some.inj h1
    exact wpAny_getItem_list_neg pl.isList (by omega) (by rw [List.size_toArray]; omega) (by omega) (by rw [hj]; simpa using ew) fin
def augSC (i : Nat) (g : Ev) (op : Sl → Sl → Option Sl) (f : Ev) : Cs := fun env ta => match env[i]? with
  | some (.own ds) => onE g (fun q env t => match q with
    | .val (.int k) => (match atI ds k, ixN ds.length k with
      | some d, some m => onE f (fun r env t => match op (.val d) r with
        | some (.val n) => some (.nx, env.set i (.own (ds.set m n)), t)
        | _ => none) env t
      | _, _ => none)
    | _ => none) env ta
  | _ => none
section
variable {X : Cx} {c : Ct} {W : WX} {e k : Expr} {f g : Ev} {pos : Pos}
theorem s_augS {i : Nat} {x : Str} {op : Operator} {r : R2} {o : Sl → Sl → Option Sl} {p tpos : Pos} (hr : OpR X (inplaceOp op) r) (ho : OpOk X.K c r o) (hk : PEv X c W k g) (he : PEv X c W e f) (hN : X.N[i]? = some x := by rfl)
    (hv : Vis X.env.scope x := by first | exact Or.inl rfl | exact Or.inr (Or.inl rfl) | exact Or.inr (Or.inr rfl))
    (hd : (x == ("__debug__" : Str)) = false := by decide) (hcd : (x == ("__classdict__" : Str)) = false := by decide)
    (ha : ∀ ov iv new, augStore k ov iv new = (do holding [new, ov, iv] (setItem ov iv new); release [new, ov, iv] []; pure .next) := by intros; rfl) :
    PSv X c W (.AugAssign (.Subscript (.Name x p) k tpos) op e pos) (augSC i g o f) := by
  refine ⟨ps_mono (ps_augS (pe_var hN hv hd hcd) hk.pe get_list he.pe (tip := r) hr set_list ha) ?_⟩
  rintro D σ H ⟨B, tp, env, ta, RS, h⟩
  unfold augSC at h
  split at h
  · rename_i ds q
    obtain ⟨a, xs, ea, hl, rr⟩ := RS.ownAt q
    refine ⟨_, ea, on_of RS h fun z t v H1 R1 K1 V1 h1 => ?_⟩
    split at h1
    · rename_i kk
      split at h1
      · rename_i d m ed em
        obtain ⟨a1, xs1, ea1, hl1, r1⟩ := R1.ownAt q
        rw [ea] at ea1
        cases ea1
        obtain ⟨w, ew, rw'⟩ := r1.atI ed
        refine ⟨a, xs1, kk, w, rfl, V1.int, SqL.of hl1, ew, on_of R1 (h1.le (.refl _) K1.st) fun y t2 u H2 R2 K2 V2 h2 => ?_⟩
        split at h2
        · rename_i n en
          have Vw : RepV X.K c tp H1 H1 w (.val d) := rw'
          refine ho tp H1 H1 H2 w u (.val d) y (.val n) _ (fun a => R2.vol) (Vw.kp K2) V2 en fun z H3 s3 V3 => ?_
          have R3 := R2.grow s3
          obtain ⟨a3, xs3, ea3, hl3, r3⟩ := R3.ownAt q
          rw [ea] at ea3
          cases ea3
          refine ⟨a, xs3, kk, m, rfl, V1.int, hl3, by rw [r3.length]; exact em, ?_⟩
          exact h2 tp σ _ (.refl _) ((K2.st.trans (.of_same s3)).trans (stab_lst hl3)) (R3.mut q ea hl3 (Reps.set V3 m r3))
        · exact h2.elim
      · exact h1.elim
    · exact h1.elim
  · exact h.elim
end
/-! ### x, y = a, b: two locals, each may be a new list -/
def parC (i j : Nat) (f g : Ev) : Cs := onE f fun p env t => match p.store? with
  | some s => onE g (fun q env t => q.store?.map fun u => (.nx, (env.set i s).set j u, t)) env t
  | none => none
section
variable {X : Cx} {c : Ct} {W : WX} {a b : Expr} {f g : Ev} {pos : Pos}
theorem s_par {i j : Nat} {x y : Str} {px py pt : Pos} {kt k2 pt2} (hN : X.N.Nodup) (ha : PEv X c W a f) (hb : PEv X c W b g)
    (hw : swappedStores [.Tuple [.Name x px, .Name y py] kt pt] (.Tuple [a, b] k2 pt2) X.env = pure (some [x, y])) (hi : X.N[i]? = some x := by rfl) (hj : X.N[j]? = some y := by rfl) (hij : i ≠ j := by decide) (hc : X.calm = true := by rfl)
    (hx : X.env.scope.names.lookup x = some .local := by rfl) (hy : X.env.scope.names.lookup y = some .local := by rfl)
    (hs : swapsWithSole [.Tuple [.Name x px, .Name y py] kt pt] (.Tuple [a, b] k2 pt2) pos.line X.env = pure false := by rfl)
    (s1 : starEach [a, b] X.env = (false, eval a X.env) :: starEach [b] X.env := by rfl) (s2 : starEach [b] X.env = (false, eval b X.env) :: starEach [] X.env := by rfl) :
    PSv X c W (.Assign [.Tuple [.Name x px, .Name y py] kt pt] (.Tuple [a, b] k2 pt2) pos) (parC i j f g) := by
  refine ⟨ps_mono (ps_par hc hN hi hj hij hx hy (L2.pa_cons ha.pe (L2.pa_cons hb.pe L2.pa_nil s2) s1) hw hs) ?_⟩
  rintro D σ H ⟨B, tp, env, ta, RS, h⟩
  refine on_of RS h fun p t v H1 R1 K1 V1 h1 => ?_
  cases e1 : p.store? with
  | none => rw [e1] at h1; exact h1.elim
  | some s =>
    rw [e1] at h1
    refine on_of R1 (h1.le (.refl _) K1.st) fun q t2 w H2 R2 K2 V2 h2 => ?_
    cases e2 : q.store? with
    | none => rw [e2] at h2; exact h2.elim
    | some u =>
      rw [e2] at h2
      have ra := RepS.store (i := i) RS R1 V1 e1
      have rb := RepS.store (i := i) RS R2 (V1.kp K2) e1
      exact ⟨v, w, rfl, h2 tp _ H2 (.refl _) K2.st (RepS.store (i := j) ra rb V2 e2)⟩
end
def parC3 (i j l : Nat) (f g h : Ev) : Cs := onE f fun p env t => match p.store? with
  | some s => onE g (fun q env t => match q.store? with
    | some u => onE h (fun r env t => r.store?.map fun z => (.nx, ((env.set i s).set j u).set l z, t)) env t
    | none => none) env t
  | none => none
section
variable {X : Cx} {c : Ct} {W : WX} {a b d : Expr} {f g h : Ev} {pos : Pos}
theorem s_par3 {i j l : Nat} {x y z : Str} {px py pz pt : Pos} {kt k2 pt2} (hN : X.N.Nodup) (ha : PEv X c W a f) (hb : PEv X c W b g) (hd : PEv X c W d h)
    (hw : swappedStores [.Tuple [.Name x px, .Name y py, .Name z pz] kt pt] (.Tuple [a, b, d] k2 pt2) X.env = pure (some [x, y, z])) (hi : X.N[i]? = some x := by rfl) (hj : X.N[j]? = some y := by rfl) (hl : X.N[l]? = some z := by rfl)
    (hij : i ≠ j := by decide) (hil : i ≠ l := by decide) (hjl : j ≠ l := by decide) (hc : X.calm = true := by rfl)
    (hx : X.env.scope.names.lookup x = some .local := by rfl) (hy : X.env.scope.names.lookup y = some .local := by rfl) (hz : X.env.scope.names.lookup z = some .local := by rfl)
    (hs : swapsWithSole [.Tuple [.Name x px, .Name y py, .Name z pz] kt pt] (.Tuple [a, b, d] k2 pt2) pos.line X.env = pure false := by rfl)
    (s1 : starEach [a, b, d] X.env = (false, eval a X.env) :: starEach [b, d] X.env := by rfl) (s2 : starEach [b, d] X.env = (false, eval b X.env) :: starEach [d] X.env := by rfl) (s3 : starEach [d] X.env = (false, eval d X.env) :: starEach [] X.env := by rfl) :
    PSv X c W (.Assign [.Tuple [.Name x px, .Name y py, .Name z pz] kt pt] (.Tuple [a, b, d] k2 pt2) pos) (parC3 i j l f g h) := by
  refine ⟨ps_mono (ps_par3 hc hN hi hj hl hij hil hjl hx hy hz (L2.pa_cons ha.pe (L2.pa_cons hb.pe (L2.pa_cons hd.pe L2.pa_nil s3) s2) s1) hw hs) ?_⟩
  rintro D σ H ⟨B, tp, env, ta, RS, h⟩
  refine on_of RS h fun p t v H1 R1 K1 V1 h1 => ?_
  cases e1 : p.store? with
  | none => rw [e1] at h1; exact h1.elim
  | some s =>
    rw [e1] at h1
    refine on_of R1 (h1.le (.refl _) K1.st) fun q t2 w H2 R2 K2 V2 h2 => ?_
    cases e2 : q.store? with
    | none => rw [e2] at h2; exact h2.elim
    | some u =>
      rw [e2] at h2
      refine on_of R2 (h2.le (.refl _) K2.st) fun r t3 w3 H3 R3 K3 V3 h3 => ?_
      cases e3 : r.store? with
      | none => rw [e3] at h3; exact h3.elim
      | some z =>
        rw [e3] at h3
        have ra := RepS.store (i := i) RS R1 V1 e1
        have rb := RepS.store (i := i) RS R2 (V1.kp K2) e1
        have rc := RepS.store (i := i) RS R3 ((V1.kp K2).kp K3) e1
        have rb2 := RepS.store (i := j) ra rb V2 e2
        have rc2 := RepS.store (i := j) ra rc (V2.kp K3) e2
        exact ⟨v, w, w3, rfl, h3 tp _ H3 (.refl _) K3.st (RepS.store (i := l) rb2 rc2 V3 e3)⟩
end
end MP

/-! MPr: x[::-1]. -/
namespace MP
open PySem PySem.Spec PyProof.Rows L2
theorem fm_congr {α β : Type} {f g : α → Option β} : ∀ {l : List α}, (∀ x ∈ l, f x = g x) → l.filterMap f = l.filterMap g
  | [], _ => rfl
  | x :: l, h => by
    rw [List.filterMap_cons, List.filterMap_cons, h x List.mem_cons_self, fm_congr fun y hy => h y (List.mem_cons_of_mem _ hy)]
section
variable {prog : Program} {w : World} {A : Around} {E : Value → Shared → Prop} {s : Shared}
theorem adj_rev (n : Nat) : Builtin.Slice.sliceAdjust none none (-1) (n : Int) = ((n : Int) - 1, -1) := by
  unfold Builtin.Slice.sliceAdjust
  simp
theorem places_rev (n : Nat) : Builtin.Slice.slicePlaces ((n : Int) - 1) (-1) (-1) = n := by
  unfold Builtin.Slice.slicePlaces
  by_cases h : n = 0
  · subst h; simp
  · have h1 : (-1 : Int) < (n : Int) - 1 := by omega
    simp [h1]
theorem pick_rev (xs : Array Value) : ((List.range xs.size).filterMap fun (k : Nat) => xs[(((xs.size : Int) - 1) + (k : Int) * (-1)).toNat]?).toArray = xs.toList.reverse.toArray := by
  have e1 : (List.range xs.size).filterMap (fun (k : Nat) => xs[(((xs.size : Int) - 1) + (k : Int) * (-1)).toNat]?) = ((List.range xs.size).map fun k => xs.size - 1 - k).filterMap (xs[·]?) := by
    rw [List.filterMap_map]
    refine fm_congr fun k hk => ?_
    rw [List.mem_range] at hk
    have : (((xs.size : Int) - 1) + (k : Int) * (-1)).toNat = xs.size - 1 - k := by omega
    rw [this]
    rfl
  rw [e1, PySem.W.krv_range, List.filterMap_reverse, PySem.W.krv_all]
theorem applied_rev {sl : Addr} {vl vu vs : Value} {n : Nat} {Q : Int × Int × Nat → Shared → Prop} (hs : s.heap.IsSliceOf sl vl vu vs) (pl : IsPart vl none) (pu : IsPart vu none) (ps : IsPart vs (some (-1)))
    (h : Q ((n : Int) - 1, -1, n) s) : wpAny (model prog w) A (Builtin.Slice.sliceApplied (.ref sl) (pure (n : Int))) Q E s := by
  obtain ⟨os, hos, hcs, hds⟩ := id hs
  unfold Builtin.Slice.sliceApplied Builtin.Slice.sliceFields
  refine wpAny_bind (wpAny_bind (wpAny_field hos hds (x := vl) rfl (wpAny_bind (wpAny_field hos hds (x := vu) rfl (wpAny_bind (wpAny_field hos hds (x := vs) rfl (wpAny_pure ?_)))))))
  refine wpAny_bind (HT.slicePart_ ps ?_)
  show wpAny _ _ (if ((-1 : Int) == 0) = true then _ else _) _ _ s
  rw [if_neg (by decide)]
  refine wpAny_bind (HT.slicePart_ pl (wpAny_bind (HT.slicePart_ pu (wpAny_bind (wpAny_pure ?_)))))
  show wpAny _ _ (match Builtin.Slice.sliceAdjust none none (-1) (n : Int) with | (lo, hi) => pure (lo, (-1 : Int), Builtin.Slice.slicePlaces lo hi (-1))) _ _ s
  rw [adj_rev n]
  show wpAny _ _ (pure (((n : Int) - 1), (-1 : Int), Builtin.Slice.slicePlaces ((n : Int) - 1) (-1) (-1))) _ _ s
  rw [places_rev]
  exact wpAny_pure h
theorem getItem_rev {t sl : Addr} {its : Array Value} {vl vu vs : Value} {Q : Value → Shared → Prop} (ht : IsTup s.heap t its) (hs : s.heap.IsSliceOf sl vl vu vs) (pl : IsPart vl none) (pu : IsPart vu none) (ps : IsPart vs (some (-1)))
    (h : Q (.ref s.heap.objs.size) { s with heap := s.heap.push { cls := .type "tuple", data := .seq its.toList.reverse.toArray } }) (hsz : its.size ≤ sizeLine) : wpAny (model prog w) A (getItem (.ref t) (.ref sl)) Q E s := by
  have htake : sizeOk (.seq its.toList.reverse.toArray) := by
    show its.toList.reverse.toArray.size ≤ sizeLine
    rw [List.size_toArray, List.length_reverse, Array.length_toList]
    exact hsz
  obtain ⟨os, hos, hcs, hds⟩ := id hs
  unfold getItem
  (try (with_reducible refine wpAny_holding ?_))
  (first | (refine wpAny_bind (wpAny_pure ?_)) | skip)
  refine wpAny_bind (wpAny_sequenceKey (ht.typeIs) (by decide) ?_)
  refine wpAny_bind (wpAny_callSpecial?_slot (name := Str.ofString "__getitem__") (ht.typeIs) slot_tuple_getitem (wpAny_call_entry slot_tuple_getitem (ht.typeIs) entry_tuple_getitem ?_ (args_tuple_getitem _ _)))
  show wpAny _ _ (Builtin.Tuple.tupleItemsOf (Value.ref t) >>= _) _ _ s
  refine wpAny_bind (tupleItemsOf_ ht ?_)
  refine wpAny_bind (wpAny_typeOf (show s.TypeIs (.ref sl) "slice" from ⟨os, hos, hcs⟩) ?_)
  rw [if_pos (by decide)]
  refine wpAny_bind (applied_rev hs pl pu ps ?_)
  show wpAny _ _ (if ((((its.size : Int) - 1) == 0 && (-1 : Int) == 1 && its.size == its.size) = true) then _ else _) _ _ s
  rw [if_neg (by simp), pick_rev]
  first
    | exact wpAny_bind (m := Builtin.Tuple.tupleExact _) (wpAny_newObj_type (wpAny_pure ⟨_, rfl, wpAny_pure h⟩) htake)
    | exact wpAny_bind (m := Builtin.Tuple.tupleExact _) (wpAny_newObj_type (wpAny_bind (wpAny_pure (wpAny_pure ⟨_, rfl, wpAny_pure h⟩))) htake)
    | exact wpAny_bind (wpAny_bind (m := Builtin.Tuple.tupleExact _) (wpAny_newObj_type (wpAny_pure (wpAny_pure ⟨_, rfl, wpAny_pure h⟩)) htake))
    | exact wpAny_bind (wpAny_bind (m := Builtin.Tuple.tupleExact _) (wpAny_newObj_type (wpAny_pure ⟨_, rfl, wpAny_pure h⟩) htake))
end
def tRevA (K : PySem.W.Frag) (te : TE) : TE := fun σ H Q => te σ H fun x H1 => ∃ a xs, x = .ref a ∧ ((SqL K H1 a xs ∧ ∀ p, H1 p = none → Q (.ref p) (upd H1 p (.lst xs.reverse))) ∨ (SqT K H1 a xs ∧ ∀ p, H1 p = none → Q (.ref p) (upd H1 p (.tup xs.reverse))))
theorem pe_revA {X : Cx} {e : Expr} {te : TE} {k : Nat} {p1 p2 p3 pos : Pos} (he : PE X e te) : PE X (.Subscript e (.Slice none none (some (.UnaryOp .USub (.Constant (.int 1) k p1) p2)) p3) pos) (tRevA X.K te) := by
  refine ⟨fun pins s σ H Q I h => ?_⟩
  refine Subscript_ (thn (he.run pins s σ H _ I h) fun v s1 ⟨x, H1, I1, r1, q1⟩ => ?_)
  obtain ⟨a, xs, rfl, q⟩ := q1
  cases r1
  have hst : PO X (some (.UnaryOp .USub (.Constant (.int 1) k p1) p2)) (tPart (tUn (rU fun i => .int (-i)) (tC (.int 1)))) := po_some (pe_un un_neg pe_int)
  refine wpAny_Slice (thn (po_none.run pins s1 σ H1 (fun o H2 => o = none ∧ H2 = H1) I1 ⟨rfl, rfl⟩) fun vl s2 ⟨l, H2, I2, pl, el, e2⟩ => ?_)
  subst el e2
  refine thn (po_none.run pins s2 σ H2 (fun o H3 => o = none ∧ H3 = H2) I2 ⟨rfl, rfl⟩) fun vu s3 ⟨u, H3, I3, pu, eu, e3⟩ => ?_
  subst eu e3
  refine thn (hst.run pins s3 σ H3 (fun o H4 => o = some (-1) ∧ H4 = H3) I3 ⟨1, rfl, -1, rfl, rfl, rfl⟩) fun vs s4 ⟨o, H4, I4, ps, eo, e4⟩ => ?_
  subst eo e4
  obtain ⟨so, hso⟩ : ∃ so : Obj, so = { cls := .type "slice", data := .fields #[vl, vu, vs] } := ⟨_, rfl⟩
  have I5 : Inv X pins σ H4 { s4 with heap := s4.heap.push so } := I4.kept (t' := s4.toks) fun b ob q => Heap.get?_push_of_some _ q
  rw [← hso]
  have hsl : (s4.heap.push so).IsSliceOf s4.heap.objs.size vl vu vs := by rw [hso]; exact Heap.IsSliceOf.new _ vl vu vs
  show wpAny (model X.prog X.w) X.A (subscriptTail e (.Slice none none (some (.UnaryOp .USub (.Constant (.int 1) k p1) p2)) p3) (.ref a) (.ref s4.heap.objs.size)) (EP X pins σ Q) X.xe { s4 with heap := s4.heap.push so }
  rcases q with ⟨hx, q⟩ | ⟨hx, q⟩
  · obtain ⟨its, r, ht, hz⟩ := I5.list hx
    have hlen := r.length
    refine tail_any (ops := [.ref a, .ref s4.heap.objs.size]) ht.isList.typeIs (PySem.slot_list_getitem.lookup) ?_ (by with_unfolding_all rfl)
    refine wpAny_getItem_list_slice ht.isList hsl pl pu ps (by decide) ?_ (by rw [List.size_toArray]; omega)
    rw [PySem.W.krv_pick]
    exact ⟨.ref _, _, I5.laid (t' := s4.toks) (o := .lst xs.reverse) (fun b ob q => Heap.get?_push_of_some _ q) (Nat.le_refl _) ⟨by rw [List.length_reverse]; exact hz, _, 0, r.reverse, Heap.get?_push_size _ rfl⟩, rfl, q _ (I5.hok.fresh (Nat.le_refl _))⟩
  · obtain ⟨its, r, ht, hz⟩ := I5.tuple hx
    have hlen := r.length
    refine tail_any (ops := [.ref a, .ref s4.heap.objs.size]) ht.typeIs (slot_tuple_getitem.lookup) ?_ (by with_unfolding_all rfl)
    refine getItem_rev ht hsl pl pu ps ?_ (by rw [List.size_toArray]; omega)
    exact ⟨.ref _, _, I5.laid (t' := s4.toks) (o := .tup xs.reverse) (fun b ob q => Heap.get?_push_of_some _ q) (Nat.le_refl _) ⟨by rw [List.length_reverse]; exact hz, _, r.reverse, IsTup.new _ _⟩, rfl, q _ (I5.hok.fresh (Nat.le_refl _))⟩
def revS : Sl → Option Sl
  | .val (.tup ds) => some (.val (.tup ds.reverse))
  | .val (.lst ds) => some (.own ds.reverse)
  | .own ds => some (.own ds.reverse)
  | .bor ds => some (.own ds.reverse)
  | _ => none
theorem v_rev {X : Cx} {c : Ct} {W : WX} {e : Expr} {f : Ev} {k : Nat} {p1 p2 p3 pos : Pos} (he : PEv X c W e f) : PEv X c W (.Subscript e (.Slice none none (some (.UnaryOp .USub (.Constant (.int 1) k p1) p2)) p3) pos) (unE revS f) := by
  refine ⟨pe_mono (pe_revA he.pe) ?_⟩
  rintro σ H Q ⟨B, tp, env, ta, RS, h⟩
  refine tE_bind RS h fun x t1 v H1 R1 K1 V1 h1 => ?_
  have h1 := h1.later K1
  have lst : ∀ ds, x.items? = some ds → revS x = some (.own ds.reverse) → ∃ a xs, v = .ref a ∧ ((SqL X.K H1 a xs ∧ ∀ p, H1 p = none → Q (.ref p) (upd H1 p (.lst xs.reverse))) ∨ (SqT X.K H1 a xs ∧ ∀ p, H1 p = none → Q (.ref p) (upd H1 p (.tup xs.reverse)))) := fun ds e1 e2 => by
    obtain ⟨a, xs, rfl, hs, rr⟩ := V1.list e1
    rw [e2] at h1
    exact ⟨a, xs, rfl, .inl ⟨hs, fun p hp => EPost.same R1 h1 (Same.new hp) (RepV.newL hp (R1.vol hp) rr.reverse)⟩⟩
  cases x with
  | val d =>
    cases d with
    | tup ds =>
      obtain ⟨a, xs, rfl, hs, rr⟩ := V1.tup
      exact ⟨a, xs, rfl, .inr ⟨hs, fun p hp => EPost.same R1 h1 (Same.new hp) (RepV.newT hp rr.reverse)⟩⟩
    | lst ds => exact lst ds rfl rfl
    | _ => exact h1.elim
  | own ds => exact lst ds rfl rfl
  | bor ds => exact lst ds rfl rfl
  | un => exact h1.elim
  | tape => exact h1.elim
  | dic _ => exact h1.elim
  | bdc _ => exact h1.elim
end MP

/-! MPs: a target with tuples in it = e. -/
namespace MP
open PySem PySem.Spec PyProof.Rows L2
def unpTC (t : Tg) (f : Ev) : Cs := onE f fun r env ta => match r with
  | .val d => (t.set d env).map fun e => (.nx, e, ta)
  | _ => none
section
variable {X : Cx} {c : Ct} {W : WX} {e : Expr} {f : Ev} {pos : Pos}
theorem s_unpT {t : Tg} {tg : Expr} (he : PEv X c W e f) (hg : PG X tg (t.g X.K)) (hs : swapsWithSole [tg] e pos.line X.env = pure false := by rfl) (hw : swappedStores [tg] e X.env = pure none := by rfl)
    (h1 : (assignEach [tg] X.env).map (·.2) = [assign tg X.env] := by rfl) : PSv X c W (.Assign [tg] e pos) (unpTC t f) := by
  refine ⟨ps_mono (ps_asg he.pe hg hs hw h1) ?_⟩
  rintro D σ H ⟨B, tp, env, ta, RS, h⟩
  refine on_of RS h fun r t1 v H1 R1 K1 V1 h1 => ?_
  cases r with
  | val d =>
    dsimp only at h1
    cases es : t.set d env with
    | none => rw [es] at h1; exact h1.elim
    | some env' =>
      rw [es] at h1
      obtain ⟨σ', g1, g2, _⟩ := tg_ok R1 V1 es
      exact g1 _ (h1 tp σ' H1 (.refl _) K1.st g2)
  | _ => exact h1.elim
end
end MP

/-! MPt: dicts whose keys are ints or texts. -/
namespace MP
open PySem PySem.Spec PyProof.Rows L2
theorem hu1 {k : Nat} {A : Around} (r : Room k A) : A.units + 1 < cLine := by have := r.un; omega
theorem stab_dk {H : Hp} {a : Addr} {xs : List (Key × V)} {o : HO} (h : H a = some (.dK xs)) : Stab H (upd H a o) :=
  ⟨fun b ys e => by rw [upd_ne (fun z => by rw [z, h] at e; cases e)]; exact e, fun b ob u e => by rw [upd_ne (fun z => by rw [z, h] at e; cases e)]; exact e⟩
section
variable {K : PySem.W.Frag} {c : Ct} {tp : Option Addr} {H H0 H1 B : Hp} {σ : L2.St} {env : SE} {ta ta' : TapeO}
theorem tapeR_updK {a : Addr} {o : HO} {xs : List (Key × V)} (h : TapeR K H tp ta) (ha : H a = some (.dK xs)) : TapeR K (upd H a o) tp ta := by
  cases tp <;> cases ta
  · exact h
  · exact h
  · exact h
  · rename_i b t
    obtain ⟨sc, e1, e2⟩ := h
    refine ⟨sc, ?_, (stab_dk ha).fz e2⟩
    rw [upd_ne (fun z => by rw [z, ha] at e1; cases e1)]; exact e1
theorem tabs_updK {T : List (Addr × Str)} {a : Addr} {o : HO} {xs : List (Key × V)} (h : LamX.Tabs T H) (ha : H a = some (.dK xs)) : LamX.Tabs T (upd H a o) := fun p hp => by
  obtain ⟨ps, e1, e2, e3⟩ := h p hp
  refine ⟨ps, by rw [upd_ne (fun z => by rw [z, ha] at e1; cases e1)]; exact e1, e2, fun pos cv q => ?_⟩
  obtain ⟨d, e4, e5⟩ := e3 pos cv q
  refine ⟨d, e4, ?_⟩
  rw [upd_ne (fun z => by rw [z, ha] at e5; unfold LamX.CodeO at e5; cases e5)]; exact e5
/-- a dict that no slot owns is changed -/
theorem RepS.updK {a : Addr} {xs : List (Key × V)} {o : HO} (R : RepS K c B tp σ H env ta) (h : H a = some (.dK xs)) (no : ∀ i, ¬ OwnAt env σ i a) (nB : B a = none) : RepS K c B tp σ (upd H a o) env ta where
  len := R.len
  slot := fun i sl e => by
    have q := R.slot i sl e
    cases sl with
    | un => exact q
    | val d => obtain ⟨v, e1, r⟩ := q; exact ⟨v, e1, r.st (stab_dk h)⟩
    | own ds =>
      obtain ⟨b, ys, e1, e2, r⟩ := q
      exact ⟨b, ys, e1, by rw [upd_ne (fun z => by rw [z, h] at e2; cases e2)]; exact e2, r.st (stab_dk h)⟩
    | bor _ => exact q
    | tape => exact q
    | dic ds =>
      obtain ⟨b, ys, e1, e2, r⟩ := q
      have hb : b ≠ a := fun z => no i ⟨⟨_, e, trivial⟩, by rw [← z]; exact e1⟩
      exact ⟨b, ys, e1, by rw [upd_ne hb]; exact e2, r.st (stab_dk h)⟩
    | bdc _ => exact q
  fresh := R.fresh
  dist := R.dist
  tape := tapeR_updK R.tape h
  tabs := tabs_updK R.tabs h
  keep := fun b u e n => by
    rw [upd_ne (fun z => by rw [z, nB] at e; cases e)]; exact R.keep b u e n
  stab := R.stab.trans (stab_dk h)
theorem Kp.updK {a : Addr} {xs : List (Key × V)} {o : HO} (k : Kp c tp H H1) (h : H1 a = some (.dK xs)) (n : H a = none) : Kp c tp H (upd H1 a o) where
  kp := fun b u e nv => by rw [upd_ne (fun z => by rw [z, n] at e; cases e)]; exact k.kp b u e nv
  st := k.st.trans (stab_dk h)
  nn := fun b e => by
    by_cases hb : b = a
    · rw [hb, upd_same] at e; cases e
    · rw [upd_ne hb] at e; exact k.nn b e
/-- the frame's own dict at slot i is changed -/
theorem RepS.mutK {i : Nat} {a : Addr} {xs ys : List (Key × V)} {ds es : List (Key × D)} (R : RepS K c B tp σ H env ta) (ei : env[i]? = some (.dic ds)) (ea : σ[i]? = some (some (.ref a))) (h : H a = some (.dK xs)) (r : RepsK K H ys es) :
    RepS K c B tp σ (upd H a (.dK ys)) (env.set i (.dic es)) ta := by
  have hi : i < env.length := (List.getElem?_eq_some_iff.mp ei).1
  have own : ∀ j b, OwnAt (env.set i (.dic es)) σ j b → OwnAt env σ j b := fun j b o => by
    obtain ⟨⟨fs, e1, so⟩, e2⟩ := o
    by_cases hj : i = j
    · subst hj; exact ⟨⟨_, ei, trivial⟩, e2⟩
    · rw [List.getElem?_set_ne hj] at e1; exact ⟨⟨fs, e1, so⟩, e2⟩
  have fr := R.fresh i a ⟨⟨_, ei, trivial⟩, ea⟩
  refine ⟨by rw [List.length_set]; exact R.len, fun j sl e1 => ?_, fun j b o => R.fresh j b (own j b o), fun j1 j2 b o1 o2 => R.dist j1 j2 b (own _ _ o1) (own _ _ o2), tapeR_updK R.tape h, tabs_updK R.tabs h, fun b u e n => ?_, R.stab.trans (stab_dk h)⟩
  · by_cases hj : i = j
    · subst hj
      rw [List.getElem?_set_self hi] at e1
      cases e1
      exact ⟨a, ys, ea, upd_same, r.st (stab_dk h)⟩
    · rw [List.getElem?_set_ne hj] at e1
      have q := R.slot j sl e1
      cases sl with
      | un => exact q
      | val d => obtain ⟨v, e2, rr⟩ := q; exact ⟨v, e2, rr.st (stab_dk h)⟩
      | own fs =>
        obtain ⟨b, zs, e2, e3, rr⟩ := q
        exact ⟨b, zs, e2, by rw [upd_ne (fun z => by rw [z, h] at e3; cases e3)]; exact e3, rr.st (stab_dk h)⟩
      | bor _ => exact q
      | tape => exact q
      | dic fs =>
        obtain ⟨b, zs, e2, e3, rr⟩ := q
        have hb : b ≠ a := fun z => hj (R.dist i j a ⟨⟨_, ei, trivial⟩, ea⟩ ⟨⟨_, e1, trivial⟩, by rw [← z]; exact e2⟩)
        exact ⟨b, zs, e2, by rw [upd_ne hb]; exact e3, rr.st (stab_dk h)⟩
      | bdc _ => exact q
  · rw [upd_ne (fun z => by rw [z, fr.1] at e; cases e)]; exact R.keep b u e n
theorem RepS.dicAt {i : Nat} {ds : List (Key × D)} (R : RepS K c B tp σ H env ta) (ei : env[i]? = some (.dic ds)) : ∃ a xs, σ[i]? = some (some (.ref a)) ∧ H a = some (.dK xs) ∧ RepsK K H xs ds := R.slot i _ ei
end
def Sl.dict? : Sl → Option (List (Key × D))
  | .dic ks => some ks
  | .bdc ks => some ks
  | _ => none
def Sl.key? : Sl → Option Key
  | .val (.int i) => some (.inl i)
  | .val (.str x) => some (.inr x)
  | _ => none
section
variable {K : PySem.W.Frag} {c : Ct} {tp : Option Addr} {H H0 H1 : Hp}
theorem RepV.dict {v : V} {r : Sl} {ks : List (Key × D)} (h : RepV K c tp H0 H v r) (e : r.dict? = some ks) : ∃ a xs, v = .ref a ∧ H a = some (.dK xs) ∧ ¬ Vol c tp a ∧ RepsK K H xs ks := by
  cases r with
  | dic es => cases e; obtain ⟨a, xs, rfl, n, nv, h1, r⟩ := h; exact ⟨a, xs, rfl, h1, nv, r⟩
  | bdc es => cases e; obtain ⟨a, xs, rfl, h1, nv, r⟩ := h; exact ⟨a, xs, rfl, h1, nv, r⟩
  | _ => cases e
theorem RepV.key {v : V} {r : Sl} {k : Key} (h : RepV K c tp H0 H v r) (e : r.key? = some k) : v = kV k := by
  unfold Sl.key? at e
  split at e
  · cases e; cases (show Rep K H v (.int _) from h); rfl
  · cases e; cases (show Rep K H v (.str _) from h); rfl
  · cases e
end
/-- {} -/
def dnewE : Ev := fun _ ta => some (.ok (.dic []), ta)
/-- d.get(k, x) -/
def dgetE (f g h : Ev) : Ev := bindE f fun x => match x.dict? with
  | some ks => bindE g fun y => match y.key? with
    | some k => bindE h fun z => match z with
      | .val d => fun _ t => some (.ok (.val ((valD ks k).getD d)), t)
      | _ => fun _ _ => none
    | none => fun _ _ => none
  | none => fun _ _ => none
/-- d[k], d a dict -/
def dsubE (f g : Ev) : Ev := bindE f fun x => match x.dict? with
  | some ks => bindE g fun y => match y.key? with
    | some k => match valD ks k with
      | some d => fun _ t => some (.ok (.val d), t)
      | none => fun _ _ => none
    | none => fun _ _ => none
  | none => fun _ _ => none
/-- d[k] = e, d a dict of the frame -/
def dsetC (i : Nat) (f g : Ev) : Cs := onE f fun r env t => match env[i]?, r with
  | some (.dic ks), .val d => onE g (fun q env t => match q.key? with
    | some k => if ks.length < LIM then some (.nx, env.set i (.dic (putD ks k d)), t) else none
    | _ => none) env t
  | _, _ => none
def lenDS : List Sl → Option Sl
  | [x] => match x.dict? with
    | some ks => some (.val (.int (ks.length : Int)))
    | none => none
  | _ => none
section
variable {X : Cx} {c : Ct} {W : WX} {o e k x : Expr} {f g h : Ev} {pos : Pos}
theorem v_dnew : PEv X c W (.Dict [] [] pos) dnewE := by
  refine ⟨pe_mono pe_dnewK ?_⟩
  rintro σ H Q ⟨B, tp, env, ta, RS, h⟩
  exact fun p hp => EPost.same RS h (Same.new hp) ⟨p, [], rfl, hp, RS.vol hp, upd_same, .nil⟩
theorem v_dget {apos : Pos} (hu : X.A.units + 1 < cLine) (ho : PEv X c W o f) (hk : PEv X c W k g) (hx : PEv X c W x h)
    (hbase : attributeBase o "get" X.env (eval o X.env) = eval o X.env := by rfl)
    (hfew : ((backTo pos (starEach [k, x] X.env)).all (fun x => !x.1) && (backToKw pos (keywordEach [] X.env)).all (fun x => x.1.isSome)
    && decide (([k, x] : List Expr).length + ([] : List Keyword).length + (if ([] : List Keyword).isEmpty then 0 else 1) < 30)) = true := by rfl)
    (hline : (apos.endLine == pos.line) = true := by rfl)
    (htr : backTo pos (starEach [k, x] X.env) = [(false, eval k X.env), (false, eval x X.env)] := by rfl) : PEv X c W (.Call (.Attribute o "get" apos) [k, x] [] pos) (dgetE f g h) := by
  refine ⟨pe_mono (pe_dget2 hu ho.pe hk.pe hx.pe ⟨hbase, hfew, hline, htr⟩) ?_⟩
  rintro σ H Q ⟨B, tp, env, ta, RS, hh⟩
  refine tE_bind RS hh fun r t v H1 R1 K1 V1 h1 => ?_
  cases ed : r.dict? with
  | none => rw [ed] at h1; exact h1.elim
  | some ks =>
    rw [ed] at h1
    obtain ⟨a, xs, rfl, ha, nv, rr⟩ := V1.dict ed
    refine ⟨a, rfl, .inl ⟨xs, .inl ha⟩, tE_bind R1 (h1.later K1) fun r2 t2 u H2 R2 K2 V2 h2 => ?_⟩
    cases ek : r2.key? with
    | none => rw [ek] at h2; exact h2.elim
    | some kk =>
      rw [ek] at h2
      have hu2 := V2.key ek
      subst hu2
      refine tE_bind R2 (h2.later K2) fun r3 t3 w H3 R3 K3 V3 h3 => ?_
      cases r3 with
      | val d =>
        have ha3 := K3.kp _ _ (K2.kp _ _ ha nv) nv
        have rr3 := (rr.st K2.st).st K3.st
        refine ⟨_, DGet.k ha3, EPost.val R3 (h3.later K3) ?_⟩
        obtain ⟨q1, q2⟩ := rr3.val (k := kk)
        cases ev : valD ks kk with
        | none => rw [q1 ev]; exact V3
        | some d' => obtain ⟨v', e1, r'⟩ := q2 d' ev; rw [e1]; exact r'
      | _ => exact h3.elim
theorem v_dsub (hu : X.A.units + 1 < cLine) (ho : PEv X c W o f) (hk : PEv X c W k g) (hs : NoSl k := by exact fun _ _ => rfl) : PEv X c W (.Subscript o k pos) (dsubE f g) := by
  refine ⟨pe_mono (pe_dget hu ho.pe hk.pe hs) ?_⟩
  rintro σ H Q ⟨B, tp, env, ta, RS, hh⟩
  refine tE_bind RS hh fun r t v H1 R1 K1 V1 h1 => ?_
  cases ed : r.dict? with
  | none => rw [ed] at h1; exact h1.elim
  | some ks =>
    rw [ed] at h1
    obtain ⟨a, xs, rfl, ha, nv, rr⟩ := V1.dict ed
    refine tE_bind R1 (h1.later K1) fun r2 t2 u H2 R2 K2 V2 h2 => ?_
    cases ek : r2.key? with
    | none => rw [ek] at h2; exact h2.elim
    | some kk =>
      rw [ek] at h2
      have hu2 := V2.key ek
      subst hu2
      have ha2 := K2.kp _ _ ha nv
      obtain ⟨q1, q2⟩ := (rr.st K2.st).val (k := kk)
      dsimp only at h2
      cases ev : valD ks kk with
      | none => rw [ev] at h2; exact h2.elim
      | some d =>
        rw [ev] at h2
        obtain ⟨v', e1, r'⟩ := q2 d ev
        refine ⟨a, v', rfl, by rw [← e1]; exact DGet.k ha2, EPost.val R2 (h2.later K2) r'⟩
theorem length_putD (ks : List (Key × D)) (k : Key) (v : D) : (putD ks k v).length ≤ ks.length + 1 := by
  unfold putD
  split <;> simp
theorem s_dset {i : Nat} {x : Str} {p tpos : Pos} (hu : X.A.units + 1 < cLine) (he : PEv X c W e f) (hk : PEv X c W k g) (hN : X.N[i]? = some x := by rfl) (hv : Vis X.env.scope x := by first | exact Or.inl rfl | exact Or.inr (Or.inl rfl) | exact Or.inr (Or.inr rfl))
    (hd : (x == ("__debug__" : Str)) = false := by decide) (hcd : (x == ("__classdict__" : Str)) = false := by decide)
    (hs : swapsWith e (some (.Subscript (.Name x p) k tpos)) pos.line X.env = pure false := by rfl) : PSv X c W (.Assign [.Subscript (.Name x p) k tpos] e pos) (dsetC i f g) := by
  refine ⟨ps_mono (ps_dput hu (pe_var hN hv hd hcd) hk.pe he.pe hs) ?_⟩
  rintro D σ H ⟨B, tp, env, ta, RS, h⟩
  refine on_of RS h fun r t v H1 R1 K1 V1 h1 => ?_
  split at h1
  · rename_i ks d q
    obtain ⟨a, xs, ea, hl, rr⟩ := R1.dicAt q
    refine ⟨_, ea, on_of R1 (h1.le (.refl _) K1.st) fun z t2 u H2 R2 K2 V2 h2 => ?_⟩
    cases ek : z.key? with
    | none => rw [ek] at h2; exact h2.elim
    | some kk =>
      rw [ek] at h2
      dsimp only at h2
      split at h2
      · rename_i hlim
        obtain rfl := V2.key ek
        obtain ⟨a', ys, ea', hl', r'⟩ := R2.dicAt q
        rw [ea] at ea'
        cases ea'
        refine ⟨a, _, rfl, DPut.k hl' (by rw [r'.length]; unfold LIM at hlim; rw [sizeLine_eq]; omega), ?_⟩
        exact h2 tp σ _ (.refl _) (K2.st.trans (stab_dk hl')) (R2.mutK q ea hl' (r'.put (Rep.st V1 K2.st)))
      · exact h2.elim
  · exact h1.elim
theorem cr_lenD : CallR X (.builtin "len") (fun xs H Q => ∃ (a : Addr) (kvs : List (Key × V)), xs = [.ref a] ∧ H a = some (.dK kvs) ∧ Q (.int kvs.length) H) := by
  intro pins s σ H xs us Q I r h
  obtain ⟨a, kvs, rfl, ha, q⟩ := h
  obtain rfl := Vals.ref1 r
  exact d_len I (.inl ha) fun t s' I' => ⟨.int kvs.length, H, I', (show RelV (V.int kvs.length) (Value.int kvs.length t) from ⟨t, rfl⟩), q⟩
theorem co_lenD {K : PySem.W.Frag} : CallOk K c (fun xs H Q => ∃ (a : Addr) (kvs : List (Key × V)), xs = [.ref a] ∧ H a = some (.dK kvs) ∧ Q (.int kvs.length) H) lenDS := by
  intro tp H0 H vs xs z Q nv hv e k
  unfold lenDS at e
  split at e
  · cases hv with
    | cons h1 h2 =>
      cases h2
      split at e
      · rename_i ks ed
        cases e
        obtain ⟨a, ys, rfl, ha, _, rr⟩ := h1.dict ed
        exact ⟨a, ys, rfl, ha, k _ H (Same.refl H) (by rw [rr.length]; exact Rep.int _)⟩
      · cases e
  · cases e
end
/-! ### {k: v for ..} -/
def dcompL (t : Tg) (cnd : Tv) (ke : Ev) (elt : Ev) : List D → SE → TapeO → List (Key × D) → Option (List (Key × D) × TapeO)
  | [], _, ta, acc => some (acc, ta)
  | d :: ds, env, ta, acc => match t.set d env with
    | none => none
    | some env1 => match cnd env1 ta with
      | some (.ok true, t1) => match ke env1 t1 with
        | some (.ok kk, t2) => match kk.key? with
          | some k => match elt env1 t2 with
            | some (.ok (.val y), t3) => dcompL t cnd ke elt ds env t3 (putD acc k y)
            | _ => none
          | none => none
        | _ => none
      | some (.ok false, t1) => dcompL t cnd ke elt ds env t1 acc
      | _ => none
def dcompE (it : Iv) (vs : List Nat) (t : Tg) (cnd : Tv) (ke elt : Ev) : Ev := fun env ta => match it env ta with
  | none => none
  | some (.error x, t1) => some (.error x, t1)
  | some (.ok ds, t1) => if ds.length < LIM then (dcompL t cnd ke elt ds (wipeE env vs) t1 []).map fun p => (.ok (.dic p.1), p.2) else none
theorem wipe_wipe {σ : L2.St} {vs : List Nat} : L2.wipe (L2.wipe σ vs) vs = L2.wipe σ vs := by
  have : ∀ (us ws : List Nat), (∀ j ∈ us, j ∈ ws) → L2.wipe (L2.wipe σ ws) us = L2.wipe σ ws := by
    intro us ws hw
    induction us with
    | nil => rfl
    | cons k us ih =>
      show (L2.wipe (L2.wipe σ ws) us).set k none = L2.wipe σ ws
      rw [ih fun j hj => hw j (List.mem_cons_of_mem _ hj)]
      have hk := hw k List.mem_cons_self
      clear ih hw
      induction ws with
      | nil => simp at hk
      | cons l ws ih2 =>
        show ((L2.wipe σ ws).set l none).set k none = (L2.wipe σ ws).set l none
        by_cases hm : k ∈ ws
        · by_cases hkl : k = l
          · subst hkl; rw [List.set_set]
          · rw [List.set_comm _ _ (Ne.symm hkl), ih2 hm]
        · have hkl : k = l := by
            rcases List.mem_cons.mp hk with z | z
            · exact z
            · exact absurd z hm
          subst hkl; rw [List.set_set]
  exact this vs vs fun j hj => hj
section
variable {K : PySem.W.Frag} {c : Ct} {W : WX} {it : Iv} {t : Tg} {cnd : Tv} {ke elt : Ev} {vs : List Nat}
theorem dcomp_of (hv : ∀ j ∈ t.slots, j ∈ vs) : ∀ σ H Q, tE K c W (dcompE it vs t cnd ke elt) σ H Q → tDc (tIt K c W false it) (t.g K) (tTt K c W0 cnd) (tE K c W0 ke) (tE K c W0 elt) vs σ H Q := by
  rintro σ H Q ⟨B, tp, env, ta, RS, h⟩
  refine ⟨B, tp, env, ta, RS, ?_⟩
  unfold dcompE at h
  cases q : it env ta with
  | none => rw [q] at h; exact h
  | some p =>
    obtain ⟨r, t0⟩ := p
    rw [q] at h
    cases r with
    | error x => exact h
    | ok ds =>
      dsimp only at h
      intro J H1 R1 K1 jw D0 hD
      by_cases hlim : ds.length < LIM
      · rw [if_pos hlim] at h
        cases ec : dcompL t cnd ke elt ds (wipeE env vs) t0 [] with
        | none => rw [ec] at h; exact h.elim
        | some fin =>
          rw [ec] at h
          have nvD : ¬ Vol c tp D0 := R1.vol hD
          have nD0 : H D0 = none := K1.nn _ hD
          have noD := RS.noOwn nD0
          have nBD := RS.noB nD0
          refine ⟨fun i m H' => m = ds.length - i ∧ i ≤ ds.length ∧ ∃ acc accD ta', H' D0 = some (.dK acc) ∧ RepsK K H' acc accD ∧ accD.length ≤ i ∧ RepS K c B tp σ H' env ta' ∧ Kp c tp H1 H' ∧
            dcompL t cnd ke elt (ds.drop i) (wipeE env vs) ta' accD = some fin,
            ⟨ds.length, by simp, Nat.zero_le _, [], [], t0, upd_same, .nil, Nat.le_refl _, R1.grow (Same.new hD), .same (Same.new hD), by rw [List.drop_zero]; exact ec⟩, ?_⟩
          rintro i m H2 ⟨rfl, hi, acc, accD, ta2, hacc, racc, hla, R2, K2, ed⟩
          obtain ⟨jgo, jstop⟩ := jw i H2 K2
          by_cases hlt : i < ds.length
          · have e1 : ds[i]? = some ds[i] := by simp [hlt]
            obtain ⟨go, yl⟩ := jgo ds[i] e1
            refine .inr ⟨go, fun H' => ∃ acc accD ta', H' D0 = some (.dK acc) ∧ RepsK K H' acc accD ∧ accD.length ≤ i + 1 ∧ RepS K c B tp σ H' env ta' ∧ Kp c tp H1 H' ∧
              dcompL t cnd ke elt (ds.drop (i + 1)) (wipeE env vs) ta' accD = some fin, fun H' q' => ⟨ds.length - (i + 1), by omega, rfl, hlt, q'⟩, fun x H3 y => ?_⟩
            obtain ⟨s3, r3⟩ := yl x H3 y
            have R3 := R2.grow s3
            have K3 : Kp c tp H1 H3 := K2.trans (.same s3)
            rw [List.drop_eq_getElem_cons hlt] at ed
            unfold dcompL at ed
            cases e2 : t.set ds[i] (wipeE env vs) with
            | none => rw [e2] at ed; cases ed
            | some env3 =>
              rw [e2] at ed
              dsimp only at ed
              obtain ⟨σ3, g1, g2, g3⟩ := tg_ok (R3.wipe vs) r3 e2
              refine g1 _ ⟨by rw [g3 vs hv]; exact wipe_wipe, ?_⟩
              refine ⟨B, tp, env3, ta2, g2, ?_⟩
              cases e3 : cnd env3 ta2 with
              | none => rw [e3] at ed; cases ed
              | some p =>
                obtain ⟨r, t4⟩ := p
                rw [e3] at ed
                cases r with
                | error x => cases ed
                | ok b =>
                  intro H4 R4 K4
                  have hD4 : H4 D0 = some (.dK acc) := K4.kp _ _ (s3 _ _ hacc) nvD
                  have K4' : Kp c tp H1 H4 := K3.trans K4
                  have R4' : RepS K c B tp σ H4 env t4 := R4.move R3 K4
                  cases b with
                  | false =>
                    rw [if_neg Bool.false_ne_true]
                    exact ⟨acc, accD, t4, hD4, (racc.st (.of_same s3)).st K4.st, Nat.le_succ_of_le hla, R4', K4', ed⟩
                  | true =>
                    rw [if_pos rfl]
                    dsimp only at ed
                    refine ⟨B, tp, env3, t4, R4, ?_⟩
                    cases ek : ke env3 t4 with
                    | none => rw [ek] at ed; cases ed
                    | some p =>
                      obtain ⟨r, tk⟩ := p
                      rw [ek] at ed
                      cases r with
                      | error x => cases ed
                      | ok zk =>
                        dsimp only at ed
                        intro vk Hk Rk Kk Vk
                        cases ekk : zk.key? with
                        | none => rw [ekk] at ed; cases ed
                        | some kk =>
                          rw [ekk] at ed
                          dsimp only at ed
                          have hvk := Vk.key ekk
                          have hDk : Hk D0 = some (.dK acc) := Kk.kp _ _ hD4 nvD
                          refine ⟨B, tp, env3, tk, Rk, ?_⟩
                          cases e5 : elt env3 tk with
                          | none => rw [e5] at ed; cases ed
                          | some p =>
                            obtain ⟨r, t5⟩ := p
                            rw [e5] at ed
                            cases r with
                            | error x => cases ed
                            | ok z =>
                              intro v H5 R5 K5 V5
                              cases z with
                              | val yd =>
                                dsimp only at ed
                                have hD5 : H5 D0 = some (.dK acc) := K5.kp _ _ hDk nvD
                                have R5' : RepS K c B tp σ H5 env t5 := (R5.move Rk K5).move R4' (Kk.trans K5)
                                have ra5 : RepsK K H5 acc accD := (((racc.st (.of_same s3)).st K4.st).st Kk.st).st K5.st
                                refine ⟨acc, kk, hvk, hD5, by rw [ra5.length, sizeLine_eq]; unfold LIM at hlim; omega, putK acc kk v, putD accD kk yd, t5, upd_same, ?_, by have := length_putD accD kk yd; omega, R5'.updK hD5 noD nBD, ((K4'.trans Kk).trans K5).updK hD5 hD, ed⟩
                                exact (ra5.put V5).st (stab_dk hD5)
                              | _ => cases ed
          · have e1 : ds.drop i = [] := List.drop_eq_nil_of_le (by omega)
            rw [e1] at ed
            cases ed
            exact .inl ⟨jstop (by omega), h _ H2 R2 (K1.trans K2) ⟨D0, acc, rfl, nD0, nvD, hacc, racc⟩⟩
      · rw [if_neg hlim] at h; exact h.elim
end
section
variable {X : Cx} {c : Ct} {W : WX} {kx elt tg iter : Expr} {ifs : List Expr} {scope : Scope} {own : List (Str × Nat)} {pos : Pos} {it : Iv} {t : Tg} {cnd : Tv} {fk fe : Ev}
/-- {k: v for tg in iter if ..} -/
theorem v_dcomp (hN : X.N.Nodup) (hi : PIv X c W false tg iter it) (own : List (Str × Nat)) (ok : blkC X.N X.env.scope scope own = true)
    (hg : ∀ (s : Shared) (H : Hp) (C : Addr) (cl : List (Str × Addr)) (fp : List Addr), PG (X.blk s H scope (compEnvC scope cl C X.env) fp) tg (t.g X.K))
    (ht : ∀ (s : Shared) (H : Hp) (C : Addr) (cl : List (Str × Addr)) (fp : List Addr), PCn (X.blk s H scope (compEnvC scope cl C X.env) fp) c ifs cnd)
    (hk : ∀ (s : Shared) (H : Hp) (C : Addr) (cl : List (Str × Addr)) (fp : List Addr), PEv (X.blk s H scope (compEnvC scope cl C X.env) fp) c W0 kx fk)
    (he : ∀ (s : Shared) (H : Hp) (C : Addr) (cl : List (Str × Addr)) (fp : List Addr), PEv (X.blk s H scope (compEnvC scope cl C X.env) fp) c W0 elt fe)
    (hv : ∀ j ∈ t.slots, j ∈ own.map (·.2) := by decide) (hc : X.calm = true := by rfl) (hs : ∀ x, foldedSetIterable iter X.env x = pure x := by exact fun _ => rfl) :
    PEv X c W (.DictComp kx elt [⟨tg, iter, ifs, 0⟩] scope pos) (dcompE it (own.map (·.2)) t cnd fk fe) :=
  ⟨pe_mono (pe_dc (tk := tE X.K c W0 fk) (tv := tE X.K c W0 fe) (tt := tTt X.K c W0 cnd) hc hN hi.pi (blkOk_by ok) hg (fun s H C cl fp => (ht s H C cl fp).pts) (fun s H C cl fp => (hk s H C cl fp).pe) (fun s H C cl fp => (he s H C cl fp).pe) hs) (dcomp_of hv)⟩
end
end MP

/-! MPu: sorted(d.items()), keys and values ints. -/
namespace L2
open PySem PySem.Spec PyProof.Rows L2.DX
abbrev entI (e : Int × Int) : Key × V := (Sum.inl e.1, V.int e.2)
theorem ents_of {P : Program} {w : World} : ∀ (ks : List (Int × Int)) {es : List DictEntry} {vs : List (Key × Value)}, KV (ks.map entI) vs → Pairs (mixKind P w) es vs → ∀ (j : Nat) (en : DictEntry), es[j]? = some en →
    ∃ (e : Int × Int) (t u : Tok), ks[j]? = some e ∧ en.key = .int e.1 t ∧ en.val = .int e.2 u
  | [], es, vs, h1, h2, j, en, he => by
    cases h1
    cases h2
    simp at he
  | k :: ks, es, vs, h1, h2, j, en, he => by
    cases h1 with
    | cons a1 a2 =>
      cases h2 with
      | cons b1 b2 b3 =>
        rename_i q vs' e0 es'
        cases j with
        | zero =>
          simp at he
          subst he
          obtain ⟨q1, q2⟩ := q
          obtain ⟨e1, e2⟩ := a1
          dsimp only at e1 e2 b1 b2
          subst e1
          obtain ⟨t, ht⟩ := Value.isInt_shape (k := k.1) (v := e0.key) b1
          obtain ⟨u, hu⟩ := (show ∃ u, q2 = Value.int k.2 u from e2)
          exact ⟨k, t, u, rfl, ht, by rw [b2, hu]⟩
        | succ j =>
          obtain ⟨e, t, u, x1, x2, x3⟩ := ents_of ks a2 b3 j en (by simpa using he)
          exact ⟨e, t, u, by simpa using x1, x2, x3⟩
section
variable {X : Cx}
def rItemsK : V → List V → Hp → VK → Prop := fun x xs H Q => ∃ (a : Addr) (kvs : List (Key × V)), x = .ref a ∧ xs = [] ∧ H a = some (.dK kvs) ∧ ∀ p, H p = none → Q (.ref p) (upd H p (itemsO p a))
theorem mt_itemsK : MtR X "dict.items" rItemsK := by
  intro pins s σ H x xs v us Q I rx rxs h
  obtain ⟨a, kvs, rfl, rfl, ha, q⟩ := h
  cases rx
  cases rxs
  obtain ⟨z, hd, xs', rel, o, es, ep, ho, hx, hdat, _⟩ := dk_of I.hok ha
  refine DT.callItems (es := es) (ep := ep) hd ⟨o, ho, hx, hdat⟩ ?_
  have hf : H s.heap.objs.size = none := I.hok.fresh (Nat.le_refl _)
  exact ⟨.ref s.heap.objs.size, upd H s.heap.objs.size (itemsO s.heap.objs.size a), I.laid (t' := s.toks) (fun b u e => Heap.get?_push_of_some _ e) (Nat.le_refl _) (itemsO_ok (Heap.get?_push_size _ rfl)), rfl, q _ hf⟩
def rSortItI : List V → Hp → VK → Prop := fun vs H Q => ∃ (p a : Addr) (ks : List (Int × Int)) (B : Int), vs = [.ref p] ∧ H p = some (itemsO p a) ∧ H a = some (.dK (ks.map entI)) ∧ ks.length < 64 ∧
  (∀ e ∈ ks, 0 ≤ e.1 ∧ e.1 < B ∧ 0 ≤ e.2 ∧ e.2 < B) ∧
  ((ks.map (·.1)).Nodup → ∀ (H' : Hp) (l : Addr) (zs : List (Addr × Int × Int)), (∀ b o, H b = some o → H' b = some o) → H l = none → (zs.map (·.2)).Perm ks → (zs.map (·.2)).Pairwise (fun e f => e.1 ≤ f.1) → H' l = some (.lst (zs.map fun z => V.ref z.1)) →
    (∀ z ∈ zs, H' z.1 = some (.tup [.int z.2.1, .int z.2.2])) → Q (.ref l) H')
theorem cr_sortedItemsI (hc : X.calm = true) : CallR X (.builtin "sorted") rSortItI := by
  intro pins s σ H xs us Q I r h
  obtain ⟨p, a, ks, B, rfl, hp, ha, h64, hb, q⟩ := h
  obtain rfl := Vals.ref1 r
  have view : s.heap.IsItemsView p a := (show ObjOk X.prog X.w H s.heap p (itemsO p a) from I.hok p _ hp).1
  obtain ⟨z, hd, vs, rel, o, es, ep, ho, hx, hdat, hes, hps, hnd⟩ := dk_of I.hok ha
  have l1 : (ks.map entI).length = vs.length := rel.length
  rw [List.length_map] at l1
  have l2 : es.size = vs.length := by rw [← Array.length_toList, hps.length]
  have knd : (ks.map (·.1)).Nodup := by
    have e := rel.keys
    rw [← e, List.map_map] at hnd
    have : (ks.map ((fun kv : Key × V => kv.1) ∘ entI)) = (ks.map (·.1)).map Sum.inl := by rw [List.map_map]; rfl
    rw [this] at hnd
    exact List.Pairwise.of_map Sum.inl (fun _ _ h e => h (by rw [e])) hnd
  have q := q knd
  have hh : X.A.handled = none := I.ok.hd hc
  refine DT.sortedI (es := es) (ep := ep) hh view ⟨o, ho, hx, hdat⟩ (by rw [sizeLine_eq]; omega) fun h' tk as hk hlt hl hG => ?_
  have lak : as.length = ks.length := by omega
  have nd : as.Nodup := List.Pairwise.imp (fun h => Nat.ne_of_lt h) hG.rise
  have pr : ∀ (j : Nat) (b : Addr), as[j]? = some b → ∃ (e : Int × Int) (t u : Tok), ks[j]? = some e ∧ h'.get? b = some { cls := .type "tuple", data := .seq #[Value.int e.1 t, Value.int e.2 u] } := by
    intro j b hj
    obtain ⟨en, he, hg⟩ := hG.pairs j b hj
    rw [← Array.getElem?_toList] at he
    obtain ⟨e, t, u, x1, x2, x3⟩ := ents_of ks rel hps j en he
    exact ⟨e, t, u, x1, by rw [hg, x2, x3]⟩
  have hob : (h'.push { cls := .type "list", data := .seq (as.map Value.ref).toArray }).get? h'.objs.size = some (seqObj "list" (as.map Value.ref).toArray 0) := Heap.get?_push_size _ rfl
  have kb : ∀ b o, s.heap.get? b = some o → (h'.push { cls := .type "list", data := .seq (as.map Value.ref).toArray }).get? b = some o := fun b o e => Heap.get?_push_of_some _ (hk b o e)
  have ne0 : ∀ b o, h'.get? b = some o → b ≠ h'.objs.size := fun b o e => Nat.ne_of_lt (Heap.lt_size e)
  generalize hh2 : h'.push { cls := .type "list", data := .seq (as.map Value.ref).toArray } = h2 at hob kb ⊢
  have ka : ∀ b o, h'.get? b = some o → h2.get? b = some o := fun b o e => by rw [← hh2]; exact Heap.get?_push_of_some _ e
  have ti : ∀ (j : Nat) (b : Addr), as[j]? = some b → ∃ e : Int × Int, ks[j]? = some e ∧ TS.TupInts h2 (.ref b) [e.1, e.2] := by
    intro j b hj
    obtain ⟨e, t, u, he, hg⟩ := pr j b hj
    exact ⟨e, he, b, _, rfl, ⟨_, ka _ _ hg, rfl, 0, rfl⟩, by
      show IntsAre [Value.int e.1 t, Value.int e.2 u] [e.1, e.2]
      exact .cons _ _ (.cons _ _ .nil)⟩
  have at_ : ∀ v ∈ as.map Value.ref, ∃ (j : Nat) (b : Addr) (e : Int × Int), v = .ref b ∧ as[j]? = some b ∧ ks[j]? = some e ∧ TS.TupInts h2 v [e.1, e.2] := by
    intro v hv'
    obtain ⟨b, hb, rfl⟩ := List.mem_map.mp hv'
    obtain ⟨j, hj⟩ := List.mem_iff_getElem?.mp hb
    obtain ⟨e, he, ht⟩ := ti j b hj
    exact ⟨j, b, e, rfl, hj, he, ht⟩
  refine TS.call_sort_tups (s := { s with heap := h2, toks := tk }) (d := 2) (B := B) hob (by rw [List.length_map]; omega) (by omega) (fun v hv => ?_) fun out o2 o3 => ?_
  · obtain ⟨j, b, e, rfl, hj, he, ht⟩ := at_ v hv
    refine ⟨_, ht, rfl, fun m hm => ?_⟩
    have hbe := hb e (List.mem_of_getElem? he)
    simp at hm
    rcases hm with rfl | rfl
    · exact ⟨hbe.1, hbe.2.1⟩
    · exact ⟨hbe.2.2.1, hbe.2.2.2⟩
  · show EP X pins σ Q (.ref h'.objs.size) { s with heap := sortedHeap h2 h'.objs.size (as.map Value.ref) out, toks := tk }
    obtain ⟨zs, pz, ez⟩ := perm_lift (fun z : Addr × Int × Int => Value.ref z.1) o2 (as.zip ks) (by
      have : ∀ (as : List Addr) (ks : List (Int × Int)), as.length = ks.length → (as.zip ks).map (fun z => Value.ref z.1) = as.map Value.ref := by
        intro as
        induction as with
        | nil => intro ks _; rfl
        | cons a as ih =>
          intro ks h
          cases ks with
          | nil => simp at h
          | cons k ks => simp at h ⊢; simpa using ih ks h
      exact this as ks lak)
    have idx : ∀ z ∈ zs, ∃ j : Nat, as[j]? = some z.1 ∧ ks[j]? = some z.2 := by
      intro z' hz'
      obtain ⟨j, hj⟩ := List.mem_iff_getElem?.mp (pz.mem_iff.mp hz')
      exact ⟨j, List.getElem?_zip_eq_some.mp hj⟩
    have hout : out.toList = zs.map fun z => Value.ref z.1 := ez.symm
    have hperm : (zs.map (·.2)).Perm ks := by
      have e := pz.map (·.2)
      have m2 : (as.zip ks).map (·.2) = ks := List.map_snd_zip (by rw [lak]; exact Nat.le_refl _)
      rw [m2] at e
      exact e
    have io : ∀ z ∈ zs, TS.intsOf h2 (.ref z.1) = [z.2.1, z.2.2] := by
      intro z' hz'
      obtain ⟨j, j1, j2⟩ := idx z' hz'
      obtain ⟨e, he, ht⟩ := ti j _ j1
      rw [ht.ints]
      rw [he] at j2
      cases j2
      rfl
    have hsort : (zs.map (·.2)).Pairwise (fun e f => e.1 ≤ f.1) := by
      rw [hout, List.pairwise_map] at o3
      rw [List.pairwise_map]
      refine List.Pairwise.imp_of_mem (fun {x y} hx hy h => ?_) o3
      rw [io x hx, io y hy] at h
      obtain ⟨j, _, j2⟩ := idx x hx
      obtain ⟨i, _, i2⟩ := idx y hy
      have b1 := hb _ (List.mem_of_getElem? j2)
      have b2 := hb _ (List.mem_of_getElem? i2)
      have h' : x.2.1 * B ^ 1 + (x.2.2 * B ^ 0 + 0) ≤ y.2.1 * B ^ 1 + (y.2.2 * B ^ 0 + 0) := h
      rw [Int.pow_succ, Int.pow_zero, Int.one_mul, Int.mul_one, Int.mul_one] at h'
      by_cases hle : x.2.1 ≤ y.2.1
      · exact hle
      · exfalso
        have h3 : y.2.1 + 1 ≤ x.2.1 := by omega
        have h4 : (y.2.1 + 1) * B ≤ x.2.1 * B := Int.mul_le_mul_of_nonneg_right h3 (by omega)
        rw [Int.add_mul, Int.one_mul] at h4
        omega
    have kF : ∀ b o, b ≠ h'.objs.size → h2.get? b = some o → (sortedHeap h2 h'.objs.size (as.map Value.ref) out).get? b = some o := fun b o hb e => (PyProof.Rows.sortedHeap_old hb (Heap.lt_size e)).trans e
    have kS : ∀ b o, s.heap.get? b = some o → (sortedHeap h2 h'.objs.size (as.map Value.ref) out).get? b = some o := fun b o e => kF b o (ne0 _ _ (hk b o e)) (kb b o e)
    obtain ⟨eF, heF⟩ := PyProof.Rows.sortedHeap_at (vs := as.map Value.ref) (out := out) hob
    have I1 : Inv X pins σ H { s with heap := sortedHeap h2 h'.objs.size (as.map Value.ref) out, toks := tk } := I.kept (t' := tk) kS
    have hn0 : H h'.objs.size = none := I.hok.fresh (Nat.le_of_lt hlt)
    have hlen : (zs.map fun z => V.ref z.1).length ≤ sizeLine := by
      have e := hperm.length_eq
      rw [List.length_map] at e
      rw [List.length_map, sizeLine_eq]
      omega
    have rv : Vals (zs.map fun z => V.ref z.1) out.toList := by
      rw [hout]
      exact vals_maps (fun z : Addr × Int × Int => V.ref z.1) (fun z => Value.ref z.1) zs fun _ _ => rfl
    have I2 : Inv X pins σ (upd H h'.objs.size (.lst (zs.map fun z => V.ref z.1))) { s with heap := sortedHeap h2 h'.objs.size (as.map Value.ref) out, toks := tk } :=
      I1.take (h' := sortedHeap h2 h'.objs.size (as.map Value.ref) out) (t' := tk) (fun b ob _ e => e) (I.fpOk (Nat.le_of_lt hlt) hn0) ⟨hlen, out.toList, eF, rv, heF⟩
    obtain ⟨H2, I3, g, qt⟩ := takeT (P := fun b vs => ∃ (j : Nat) (e : Int × Int), as[j]? = some b ∧ ks[j]? = some e ∧ vs = [.int e.1, .int e.2]) I as _ I2 nd fun b hb => by
      obtain ⟨j, hj⟩ := List.mem_iff_getElem?.mp hb
      obtain ⟨e, t, u, he, hg⟩ := pr j b hj
      have hbl : s.heap.objs.size ≤ b := Nat.le_of_lt (hG.above b hb)
      refine ⟨hbl, ?_, [.int e.1, .int e.2], ⟨j, e, hj, he, rfl⟩, fun H3 => ⟨(by rw [sizeLine_eq]; show 2 ≤ 16777216; omega), [Value.int e.1 t, Value.int e.2 u], .cons (show RelV (.int e.1) (Value.int e.1 t) from ⟨t, rfl⟩) (.cons (show RelV (.int e.2) (Value.int e.2 u) from ⟨u, rfl⟩) .nil), ⟨_, kF _ _ (ne0 _ _ hg) (ka _ _ hg), rfl, 0, rfl⟩⟩⟩
      rw [upd_ne (ne0 _ _ hg)]
      exact I.hok.fresh hbl
    have gr : ∀ b o, H b = some o → H2 b = some o := fun b o e => g b o (by rw [upd_ne (ne_of_none e hn0)]; exact e)
    refine ⟨.ref h'.objs.size, H2, I3, rfl, q H2 h'.objs.size zs gr hn0 hperm hsort (g _ _ upd_same) fun z' hz' => ?_⟩
    obtain ⟨i, i1, i2⟩ := idx z' hz'
    obtain ⟨vs, ⟨j, e, j1, j2, ev⟩, hH⟩ := qt z'.1 (List.mem_of_getElem? i1)
    have eij : i = j := (List.getElem?_inj (List.getElem?_eq_some_iff.mp i1).1 nd).mp (i1.trans j1.symm)
    subst eij
    have ee : e = z'.2 := Option.some.inj (j2.symm.trans i2)
    rw [ev, ee] at hH
    exact hH
end
end L2

namespace MP
open PySem PySem.Spec PyProof.Rows L2
def pairs? : List (Key × D) → Option (List (Int × Int))
  | [] => some []
  | (.inl i, .int v) :: r => (pairs? r).map fun q => (i, v) :: q
  | _ => none
theorem RepsK.pairs {K : PySem.W.Frag} {H : Hp} : ∀ {xs : List (Key × V)} {ks : List (Key × D)} {ps : List (Int × Int)}, RepsK K H xs ks → pairs? ks = some ps → xs = ps.map L2.entI
  | _, _, ps, .nil, e => by cases e; rfl
  | _, _, ps, .cons (k := k) (d := d) h t, e => by
    cases k with
    | inr x => cases e
    | inl i =>
      cases d with
      | int v =>
        unfold pairs? at e
        cases q : pairs? _ with
        | none => rw [q] at e; cases e
        | some qs =>
          rw [q] at e
          cases e
          cases h
          rw [List.map_cons, ← t.pairs q]
      | _ => cases e
def sortP (ks : List (Int × Int)) : List (Int × Int) := ks.mergeSort (fun a b => decide (a.1 ≤ b.1))
theorem sortP_perm (ks : List (Int × Int)) : (sortP ks).Perm ks := List.mergeSort_perm _ _
theorem sortP_sorted (ks : List (Int × Int)) : (sortP ks).Pairwise (fun e f => e.1 ≤ f.1) := by
  have := List.pairwise_mergeSort (le := fun (a b : Int × Int) => decide (a.1 ≤ b.1)) (fun a b c h1 h2 => by simp at *; omega) (fun a b => by simp; omega) ks
  exact this.imp fun h => by simpa using h
theorem nodup_inj : ∀ {l : List (Int × Int)} {a b : Int × Int}, (l.map (·.1)).Nodup → a ∈ l → b ∈ l → a.1 = b.1 → a = b
  | [], _, _, _, h, _, _ => by cases h
  | c :: l, a, b, nd, ha, hb, e => by
    rw [List.map_cons, List.nodup_cons] at nd
    rcases List.mem_cons.mp ha with ea | ha
    · rcases List.mem_cons.mp hb with eb | hb
      · rw [ea, eb]
      · exact (nd.1 (List.mem_map.mpr ⟨b, hb, by rw [← ea]; exact e.symm⟩)).elim
    · rcases List.mem_cons.mp hb with eb | hb
      · exact (nd.1 (List.mem_map.mpr ⟨a, ha, by rw [← eb]; exact e⟩)).elim
      · exact nodup_inj nd.2 ha hb e
theorem sortP_uniq {xs ys : List (Int × Int)} (p : xs.Perm ys) (h1 : xs.Pairwise (fun e f => e.1 ≤ f.1)) (h2 : ys.Pairwise (fun e f => e.1 ≤ f.1)) (nd : (ys.map (·.1)).Nodup) : xs = ys := by
  refine List.Perm.eq_of_pairwise (le := fun e f : Int × Int => e.1 ≤ f.1) (fun a b ha hb h h' => ?_) h1 h2 p
  have ha := p.mem_iff.mp ha
  have e := Int.le_antisymm h h'
  exact nodup_inj nd ha hb e
/-- sorted(d.items()) -/
def sortItE (f : Ev) : Ev := bindE f fun x => match x.dict? with
  | some ks => match pairs? ks with
    | some ps => if ps.length < 64 ∧ ps.all (fun e => decide (0 ≤ e.1) && decide (0 ≤ e.2)) = true then fun _ t => some (.ok (.own ((sortP ps).map fun e => .tup [.int e.1, .int e.2])), t) else fun _ _ => none
    | none => fun _ _ => none
  | none => fun _ _ => none
theorem bound_pairs : ∀ (ps : List (Int × Int)), ∃ B : Int, ∀ e ∈ ps, e.1 < B ∧ e.2 < B
  | [] => ⟨0, fun e h => by cases h⟩
  | p :: ps => by
    obtain ⟨B, h⟩ := bound_pairs ps
    refine ⟨B.toNat + p.1.toNat + p.2.toNat + 1, fun e he => ?_⟩
    rcases List.mem_cons.mp he with rfl | he
    · omega
    · have := h e he; omega
section
variable {X : Cx} {c : Ct} {W : WX} {o : Expr} {f : Ev} {pos : Pos}
theorem v_sortIt {apos cpos p : Pos} (hc : X.calm = true) (hm : X.mg "sorted" = none) (ho : PEv X c W o f) (hg : Gl X "sorted" := by rfl)
    (hbase : attributeBase o "items" X.env (eval o X.env) = eval o X.env := by rfl) (hline : (apos.endLine == cpos.line) = true := by rfl)
    (he : starEach [.Call (.Attribute o "items" apos) [] [] cpos] X.env = (false, eval (.Call (.Attribute o "items" apos) [] [] cpos) X.env) :: starEach [] X.env := by rfl) :
    PEv X c W (.Call (.Name "sorted" p) [.Call (.Attribute o "items" apos) [] [] cpos] [] pos) (sortItE f) := by
  refine ⟨pe_mono (pe_callB (L2.cr_sortedItemsI hc) hg hm (by decide +kernel) (pa_cons (pe_bm0 PySem.F.plainAttrs_dict PySem.F.slot_dict_items PySem.F.type_dict_items L2.mt_itemsK ho.pe hbase hline) pa_nil) (by decide) (by decide) he (by rfl)) ?_⟩
  rintro σ H Q ⟨B, tp, env, ta, RS, hh⟩
  refine tE_bind RS hh fun r t v H1 R1 K1 V1 h1 => ?_
  cases ed : r.dict? with
  | none => rw [ed] at h1; exact h1.elim
  | some ks =>
    rw [ed] at h1
    dsimp only at h1
    cases ep : pairs? ks with
    | none => rw [ep] at h1; exact h1.elim
    | some ps =>
      rw [ep] at h1
      dsimp only at h1
      split at h1
      · rename_i hok
        obtain ⟨a, xs, rfl, ha, nv, rr⟩ := V1.dict ed
        have hx := rr.pairs ep
        subst hx
        refine ⟨.inr (.inr (.inl ⟨rfl, .inl ⟨_, ha⟩⟩)), a, _, rfl, rfl, ha, fun p hp => ?_⟩
        obtain ⟨B', hB⟩ := bound_pairs ps
        refine ⟨p, a, ps, B', rfl, upd_same, by rw [upd_ne (ne_of_none ha hp)]; exact ha, hok.1, fun e he => ?_, fun nd H' l zs sm hl pm hs hz ht => ?_⟩
        · have q := List.all_eq_true.mp hok.2 e he
          simp only [Bool.and_eq_true, decide_eq_true_eq] at q
          exact ⟨q.1, (hB e he).1, q.2, (hB e he).2⟩
        · have sm2 : Same H1 H' := fun b o e => sm b o (by rw [upd_ne (ne_of_none e hp)]; exact e)
          have hl1 : H1 l = none := by
            cases q : H1 l with
            | none => rfl
            | some o =>
              have : upd H1 p (DX.itemsO p a) l = some o := by rw [upd_ne (ne_of_none q hp)]; exact q
              rw [hl] at this; cases this
          refine EPost.same R1 (h1.later K1) sm2 ⟨l, _, rfl, hl1, R1.vol hl1, hz, ?_⟩
          have eq := sortP_uniq (pm.trans (sortP_perm ps).symm) hs (sortP_sorted ps) (((sortP_perm ps).map (·.1)).nodup_iff.mpr nd)
          rw [← eq]
          clear eq pm hs hz
          induction zs with
          | nil => exact .nil
          | cons z zs ih =>
            refine .cons (Rep.tup (SqT.of (ht z List.mem_cons_self)) (.cons (.int _) (.cons (.int _) .nil))) (ih fun z' h' => ht z' (List.mem_cons_of_mem _ h'))
      · exact h1.elim
end
/-! ### is True, is False -/
def isBS : Sl → Sl → Option Sl
  | .val (.bl a), .val (.bl b) => some (.val (.bl (decide (a = b))))
  | _, _ => none
def isntBS : Sl → Sl → Option Sl
  | .val (.bl a), .val (.bl b) => some (.val (.bl (!decide (a = b))))
  | _, _ => none
section
variable {K : PySem.W.Frag} {c : Ct}
theorem ok_isB : OpOk K c (fun x y H Q => ∃ a b, x = .bl a ∧ y = .bl b ∧ Q (.bl (decide (a = b))) H) isBS := by
  intro tp H0 H1 H v u x y z Q nv hx hy e k
  unfold isBS at e
  split at e
  · cases e
    cases (show Rep K H v (.bl _) from hx)
    cases (show Rep K H u (.bl _) from hy)
    exact ⟨_, _, rfl, rfl, k _ H (Same.refl H) (Rep.bl _)⟩
  · cases e
theorem ok_isntB : OpOk K c (fun x y H Q => ∃ a b, x = .bl a ∧ y = .bl b ∧ Q (.bl (!decide (a = b))) H) isntBS := by
  intro tp H0 H1 H v u x y z Q nv hx hy e k
  unfold isntBS at e
  split at e
  · cases e
    cases (show Rep K H v (.bl _) from hx)
    cases (show Rep K H u (.bl _) from hy)
    exact ⟨_, _, rfl, rfl, k _ H (Same.refl H) (Rep.bl _)⟩
  · cases e
theorem bl_isB : ∀ x y z, isBS x y = some z → ∃ b, z = .val (.bl b) := fun x y z e => by
  unfold isBS at e
  split at e
  · cases e; exact ⟨_, rfl⟩
  · cases e
theorem bl_isntB : ∀ x y z, isntBS x y = some z → ∃ b, z = .val (.bl b) := fun x y z e => by
  unfold isntBS at e
  split at e
  · cases e; exact ⟨_, rfl⟩
  · cases e
end
end MP

/-! MPv: how the later constructs are reckoned. -/
namespace MP
open PySem PySem.Spec PyProof.Rows L2
section
variable {f g h : Ev} {t u : Tv} {fs : List Ev} {env env1 : SE} {ta t1 : TapeO} {i j n : Nat} {cs ds : Cs} {it : Iv} {tg : Tg} {x y : Sl} {e : Str} {b : Bool} {l : List D} {js vs : List Nat}
/-! slices -/
abbrev RP := Option (Except Str (Option Int) × TapeO)
@[simp] theorem noP_ap : noP env ta = some (.ok none, ta) := Eq.trans rfl rfl
def sPK (r : RE) : RP := kX r fun x t1 => (partOf x).map fun o => (.ok o, t1)
@[simp] theorem sPK_ok : sPK (some (.ok x, t1)) = (partOf x).map fun o => (.ok o, t1) := Eq.trans rfl rfl
@[simp] theorem someP_ap : someP f env ta = sPK (f env ta) := by
  unfold someP sPK
  rcases f env ta with _ | ⟨_ | _, _⟩ <;> rfl
@[simp] theorem partOf_int {k : Int} : partOf (.val (.int k)) = some (some k) := rfl
def slK2 (x : Sl) (lo : Option Int) (r : RP) : RE := kX r fun hi t1 => (slS x lo hi).map fun z => (.ok z, t1)
@[simp] theorem slK2_ok {lo hi : Option Int} : slK2 x lo (some (.ok hi, t1)) = (slS x lo hi).map fun z => (.ok z, t1) := Eq.trans rfl rfl
def slK1 (x : Sl) (q : Pv) (env : SE) (r : RP) : RE := kX r fun lo t1 => slK2 x lo (q env t1)
@[simp] theorem slK1_ok {q : Pv} {lo : Option Int} : slK1 x q env (some (.ok lo, t1)) = slK2 x lo (q env t1) := Eq.trans rfl rfl
def slK (p q : Pv) (env : SE) (r : RE) : RE := kX r fun x t1 => slK1 x q env (p env t1)
@[simp] theorem slK_ok {p q : Pv} : slK p q env (some (.ok x, t1)) = slK1 x q env (p env t1) := Eq.trans rfl rfl
@[simp] theorem slE_ap {p q : Pv} : slE f p q env ta = slK p q env (f env ta) := by
  unfold slE slK
  rw [bindE_ap]
  refine kX_ext fun x t1 => ?_
  unfold slK1
  (try dsimp only)
  rcases p env t1 with _ | ⟨_ | lo, t2⟩
  · rfl
  · rfl
  · show _ = slK2 x lo (q env t2)
    unfold slK2
    (try dsimp only)
    rcases q env t2 with _ | ⟨_ | _, _⟩ <;> rfl
@[simp] theorem slS_tup {lo hi : Option Int} : slS (.val (.tup l)) lo hi = some (.val (.tup (cutD l lo hi))) := rfl
@[simp] theorem slS_lst {lo hi : Option Int} : slS (.val (.lst l)) lo hi = some (.own (cutD l lo hi)) := rfl
@[simp] theorem slS_bor {lo hi : Option Int} : slS (.bor l) lo hi = some (.own (cutD l lo hi)) := rfl
@[simp] theorem slS_own {lo hi : Option Int} : slS (.own l) lo hi = some (.own (cutD l lo hi)) := rfl
/-! list(range), tuple(range) -/
abbrev RR := Option (Except Str (Int × Int) × TapeO)
def rgB (x : Sl) (t : TapeO) : RR := kO (intOf x) fun n => some (.ok (0, n), t)
@[simp] theorem rgB_int {k : Int} : rgB (.val (.int k)) ta = some (.ok (0, k), ta) := Eq.trans rfl rfl
def rg1K (r : RE) : RR := kX r rgB
@[simp] theorem rg1K_ok : rg1K (some (.ok x, t1)) = rgB x t1 := Eq.trans rfl rfl
@[simp] theorem rg1R_ap : rg1R f env ta = rg1K (f env ta) := by
  unfold rg1R rg1K
  rcases f env ta with _ | ⟨_ | r, _⟩
  · rfl
  · rfl
  · rcases r with _ | d | _ | _ | _ | _ | _ <;> first | rfl | (cases d <;> rfl)
def ofRgK (mk : List D → Sl) (r : RR) : RE := kX r fun p t1 => if rgOk p.1 p.2 = true then some (.ok (mk (rgL p.1 (p.2 - p.1).toNat)), t1) else none
@[simp] theorem ofRgK_ok {mk : List D → Sl} {a c : Int} : ofRgK mk (some (.ok (a, c), t1)) = if rgOk a c = true then some (.ok (mk (rgL a (c - a).toNat)), t1) else none := Eq.trans rfl rfl
@[simp] theorem ofRg_ap {mk : List D → Sl} {r : Rv} : ofRg mk r env ta = ofRgK mk (r env ta) := by
  unfold ofRg ofRgK
  rcases r env ta with _ | ⟨_ | ⟨_, _⟩, _⟩ <;> rfl
/-! pairs of new things -/
def parCK2 (i j : Nat) (env : SE) (s : Sl) (r : RE) : RC := kS r env fun q t1 => q.store?.map fun u => (.nx, (env.set i s).set j u, t1)
@[simp] theorem parCK2_ok {s : Sl} : parCK2 i j env s (some (.ok y, t1)) = y.store?.map fun u => (.nx, (env.set i s).set j u, t1) := Eq.trans rfl rfl
def parCK1 (i j : Nat) (g : Ev) (env : SE) (t1 : TapeO) (o : Option Sl) : RC := kO o fun s => parCK2 i j env s (g env t1)
@[simp] theorem parCK1_some {s : Sl} : parCK1 i j g env t1 (some s) = parCK2 i j env s (g env t1) := Eq.trans rfl rfl
def parCK (i j : Nat) (g : Ev) (env : SE) (r : RE) : RC := kS r env fun p t1 => parCK1 i j g env t1 p.store?
@[simp] theorem parCK_ok : parCK i j g env (some (.ok x, t1)) = parCK1 i j g env t1 x.store? := Eq.trans rfl rfl
@[simp] theorem parC_ap : parC i j f g env ta = parCK i j g env (f env ta) := by
  unfold parC parCK
  rw [onE_ap]
  refine kS_ext fun p t1 => ?_
  unfold parCK1
  cases p.store? with
  | none => rfl
  | some s =>
    show onE _ _ _ _ = parCK2 i j env s (g env t1)
    rw [onE_ap]
    rfl
/-! x.append(y.pop(k)) -/
def apB (i j : Nat) (ds es : List D) (env : SE) (t : TapeO) (o : Option Int) : RC := kO o fun k => if ds.length < LIM ∧ es.length ≤ LIM ∧ i ≠ j then kO (ixN es.length k) fun m => (es[m]?).map fun d => (.nx, (env.set j (.own (es.eraseIdx m))).set i (.own (ds ++ [d])), t) else none
@[simp] theorem apB_some {i j : Nat} {ds es : List D} {env : SE} {t : TapeO} {k : Int} : apB i j ds es env t (some k) = if ds.length < LIM ∧ es.length ≤ LIM ∧ i ≠ j then kO (ixN es.length k) fun m => (es[m]?).map fun d => (.nx, (env.set j (.own (es.eraseIdx m))).set i (.own (ds ++ [d])), t) else none := Eq.trans rfl rfl
def apK2 (i j : Nat) (ds es : List D) (env : SE) (r : RE) : RC := kS r env fun x t1 => apB i j ds es env t1 (intOf x)
@[simp] theorem apK2_ok {i j : Nat} {ds es : List D} : apK2 i j ds es env (some (.ok x, t1)) = apB i j ds es env t1 (intOf x) := Eq.trans rfl rfl
def apK1 (i j : Nat) (f : Ev) (env : SE) (ta : TapeO) (o p : Option (List D)) : RC := kO o fun ds => kO p fun es => apK2 i j ds es env (f env ta)
@[simp] theorem apK1_some {ds es : List D} : apK1 i j f env ta (some ds) (some es) = apK2 i j ds es env (f env ta) := Eq.trans rfl rfl
@[simp] theorem appPopC_ap : appPopC i j f env ta = apK1 i j f env ta (ownOf env[i]?) (ownOf env[j]?) := by
  unfold appPopC apK1
  rcases env[i]? with _ | s
  · rfl
  · rcases env[j]? with _ | q
    · cases s <;> rfl
    · cases s <;> cases q <;> first | rfl | skip
      show onE _ _ _ _ = kS _ _ _
      rw [onE_ap]
      refine kS_ext fun r t1 => ?_
      rcases r with _ | d | _ | _ | _ | _ | _ <;> first | rfl | (cases d <;> first | rfl | skip)
      show (if _ then _ else _) = apB _ _ _ _ _ _ (some _)
      unfold apB kO
      dsimp only
      split
      · cases ixN _ _ <;> rfl
      · rfl
/-! dicts -/
@[simp] theorem dnewE_ap : dnewE env ta = some (.ok (.dic []), ta) := Eq.trans rfl rfl
@[simp] theorem dict_dic {ks : List (Key × D)} : Sl.dict? (.dic ks) = some ks := rfl
@[simp] theorem dict_bdc {ks : List (Key × D)} : Sl.dict? (.bdc ks) = some ks := rfl
@[simp] theorem key_int {k : Int} : Sl.key? (.val (.int k)) = some (.inl k) := rfl
@[simp] theorem key_str {k : Str} : Sl.key? (.val (.str k)) = some (.inr k) := rfl
def dgB3 (ks : List (Key × D)) (k : Key) (t : TapeO) (o : Option D) : RE := kO o fun d => some (.ok (.val ((valD ks k).getD d)), t)
@[simp] theorem dgB3_some {ks : List (Key × D)} {k : Key} {d : D} : dgB3 ks k ta (some d) = some (.ok (.val ((valD ks k).getD d)), ta) := Eq.trans rfl rfl
def dgK3 (ks : List (Key × D)) (k : Key) (r : RE) : RE := kX r fun z t => dgB3 ks k t (valOf z)
@[simp] theorem dgK3_ok {ks : List (Key × D)} {k : Key} : dgK3 ks k (some (.ok x, t1)) = dgB3 ks k t1 (valOf x) := Eq.trans rfl rfl
def dgB2 (ks : List (Key × D)) (h : Ev) (env : SE) (t : TapeO) (o : Option Key) : RE := kO o fun k => dgK3 ks k (h env t)
@[simp] theorem dgB2_some {ks : List (Key × D)} {k : Key} : dgB2 ks h env ta (some k) = dgK3 ks k (h env ta) := Eq.trans rfl rfl
def dgK2 (ks : List (Key × D)) (h : Ev) (env : SE) (r : RE) : RE := kX r fun y t => dgB2 ks h env t y.key?
@[simp] theorem dgK2_ok {ks : List (Key × D)} : dgK2 ks h env (some (.ok x, t1)) = dgB2 ks h env t1 x.key? := Eq.trans rfl rfl
def dgB1 (g h : Ev) (env : SE) (t : TapeO) (o : Option (List (Key × D))) : RE := kO o fun ks => dgK2 ks h env (g env t)
@[simp] theorem dgB1_some {ks : List (Key × D)} : dgB1 g h env ta (some ks) = dgK2 ks h env (g env ta) := Eq.trans rfl rfl
def dgK1 (g h : Ev) (env : SE) (r : RE) : RE := kX r fun y t => dgB1 g h env t y.dict?
@[simp] theorem dgK1_ok : dgK1 g h env (some (.ok x, t1)) = dgB1 g h env t1 x.dict? := Eq.trans rfl rfl
@[simp] theorem dgetE_ap : dgetE f g h env ta = dgK1 g h env (f env ta) := by
  unfold dgetE dgK1
  rw [bindE_ap]
  refine kX_ext fun x t1 => ?_
  unfold dgB1
  cases x.dict? with
  | none => rfl
  | some ks =>
    show bindE _ _ _ _ = dgK2 _ _ _ _
    rw [bindE_ap]
    refine kX_ext fun y t2 => ?_
    unfold dgB2
    cases y.key? with
    | none => rfl
    | some k =>
      show bindE _ _ _ _ = dgK3 _ _ _
      rw [bindE_ap]
      refine kX_ext fun z t3 => ?_
      cases z <;> rfl
def dsB2 (i : Nat) (env : SE) (ks : List (Key × D)) (d : D) (t : TapeO) (o : Option Key) : RC := kO o fun k => if ks.length < LIM then some (.nx, env.set i (.dic (putD ks k d)), t) else none
@[simp] theorem dsB2_some {ks : List (Key × D)} {d : D} {k : Key} : dsB2 i env ks d ta (some k) = if ks.length < LIM then some (.nx, env.set i (.dic (putD ks k d)), ta) else none := Eq.trans rfl rfl
def dsK2 (i : Nat) (env : SE) (ks : List (Key × D)) (d : D) (r : RE) : RC := kS r env fun q t => dsB2 i env ks d t q.key?
@[simp] theorem dsK2_ok {ks : List (Key × D)} {d : D} : dsK2 i env ks d (some (.ok x, t1)) = dsB2 i env ks d t1 x.key? := Eq.trans rfl rfl
def dicOf : Option Sl → Option (List (Key × D))
  | some (.dic ks) => some ks
  | _ => none
@[simp] theorem dicOf_dic {ks : List (Key × D)} : dicOf (some (.dic ks)) = some ks := rfl
def dsB1 (i : Nat) (g : Ev) (env : SE) (t : TapeO) (o : Option (List (Key × D))) (p : Option D) : RC := kO o fun ks => kO p fun d => dsK2 i env ks d (g env t)
@[simp] theorem dsB1_some {ks : List (Key × D)} {d : D} : dsB1 i g env ta (some ks) (some d) = dsK2 i env ks d (g env ta) := Eq.trans rfl rfl
def dsK1 (i : Nat) (g : Ev) (env : SE) (r : RE) : RC := kS r env fun x t => dsB1 i g env t (dicOf env[i]?) (valOf x)
@[simp] theorem dsK1_ok : dsK1 i g env (some (.ok x, t1)) = dsB1 i g env t1 (dicOf env[i]?) (valOf x) := Eq.trans rfl rfl
@[simp] theorem dsetC_ap : dsetC i f g env ta = dsK1 i g env (f env ta) := by
  unfold dsetC dsK1
  rw [onE_ap]
  refine kS_ext fun r t1 => ?_
  rcases env[i]? with _ | s
  · rfl
  · cases s <;> first | rfl | skip
    cases r <;> first | rfl | skip
    show onE _ _ _ _ = dsK2 _ _ _ _ _
    rw [onE_ap]
    refine kS_ext fun q t2 => ?_
    unfold dsB2
    cases q.key? <;> rfl
@[simp] theorem lenDS_one : lenDS [x] = x.dict?.map fun ks => .val (.int (ks.length : Int)) := by
  unfold lenDS
  dsimp only
  cases h : x.dict? <;> simp [h]
def siP (ps : List (Int × Int)) (t : TapeO) : RE := if ps.length < 64 ∧ ps.all (fun e => decide (0 ≤ e.1) && decide (0 ≤ e.2)) = true then some (.ok (.own ((sortP ps).map fun e => .tup [.int e.1, .int e.2])), t) else none
def siB (t : TapeO) (o : Option (List (Key × D))) : RE := kO o fun ks => kO (pairs? ks) fun ps => siP ps t
@[simp] theorem siB_some {ks : List (Key × D)} : siB ta (some ks) = kO (pairs? ks) fun ps => siP ps ta := Eq.trans rfl rfl
def siK (r : RE) : RE := kX r fun x t => siB t x.dict?
@[simp] theorem siK_ok : siK (some (.ok x, t1)) = siB t1 x.dict? := Eq.trans rfl rfl
@[simp] theorem sortItE_ap : sortItE f env ta = siK (f env ta) := by
  unfold sortItE siK
  rw [bindE_ap]
  refine kX_ext fun x t1 => ?_
  unfold siB
  cases x.dict? with
  | none => rfl
  | some ks =>
    dsimp only [kO]
    cases pairs? ks with
    | none => rfl
    | some ps =>
      dsimp only
      unfold siP
      split <;> rfl
/-! {k: v for ..} -/
def dcK2 (tg : Tg) (t : Tv) (ke f : Ev) (l : List D) (env : SE) (acc : List (Key × D)) (k : Key) (r : RE) : Option (List (Key × D) × TapeO) := kC r fun y t2 => dcompL tg t ke f l env t2 (putD acc k y)
@[simp] theorem dcK2_ok {ke : Ev} {acc : List (Key × D)} {k : Key} {d : D} : dcK2 tg t ke f l env acc k (some (.ok (.val d), t1)) = dcompL tg t ke f l env t1 (putD acc k d) := Eq.trans rfl rfl
def dcB (tg : Tg) (t : Tv) (ke f : Ev) (l : List D) (env env1 : SE) (acc : List (Key × D)) (ta : TapeO) (o : Option Key) : Option (List (Key × D) × TapeO) := kO o fun k => dcK2 tg t ke f l env acc k (f env1 ta)
@[simp] theorem dcB_some {ke : Ev} {acc : List (Key × D)} {k : Key} : dcB tg t ke f l env env1 acc ta (some k) = dcK2 tg t ke f l env acc k (f env1 ta) := Eq.trans rfl rfl
def kE {β : Type} (r : RE) (k : Sl → TapeO → Option β) : Option β := match r with
  | some (.ok x, t) => k x t
  | _ => none
def dcK1 (tg : Tg) (t : Tv) (ke f : Ev) (l : List D) (env env1 : SE) (acc : List (Key × D)) (r : RE) : Option (List (Key × D) × TapeO) := kE r fun x t1 => dcB tg t ke f l env env1 acc t1 x.key?
@[simp] theorem dcK1_ok {ke : Ev} {acc : List (Key × D)} : dcK1 tg t ke f l env env1 acc (some (.ok x, t1)) = dcB tg t ke f l env env1 acc t1 x.key? := Eq.trans rfl rfl
def dcK0 (tg : Tg) (t : Tv) (ke f : Ev) (l : List D) (env env1 : SE) (acc : List (Key × D)) (r : RB) : Option (List (Key × D) × TapeO) := kD r fun b t1 => if b = true then dcK1 tg t ke f l env env1 acc (ke env1 t1) else dcompL tg t ke f l env t1 acc
@[simp] theorem dcK0_ok {ke : Ev} {acc : List (Key × D)} : dcK0 tg t ke f l env env1 acc (some (.ok b, t1)) = if b = true then dcK1 tg t ke f l env env1 acc (ke env1 t1) else dcompL tg t ke f l env t1 acc := Eq.trans rfl rfl
def dcK (tg : Tg) (t : Tv) (ke f : Ev) (l : List D) (env : SE) (acc : List (Key × D)) (ta : TapeO) (o : Option SE) : Option (List (Key × D) × TapeO) := kO o fun env1 => dcK0 tg t ke f l env env1 acc (t env1 ta)
@[simp] theorem dcK_some {ke : Ev} {acc : List (Key × D)} : dcK tg t ke f l env acc ta (some env1) = dcK0 tg t ke f l env env1 acc (t env1 ta) := Eq.trans rfl rfl
@[simp] theorem dcompL_nil {ke : Ev} {acc : List (Key × D)} : dcompL tg t ke f [] env ta acc = some (acc, ta) := Eq.trans rfl rfl
theorem dcompL_cons {ke : Ev} {acc : List (Key × D)} {d : D} : dcompL tg t ke f (d :: l) env ta acc = dcK tg t ke f l env acc ta (tg.set d env) := by
  rw [dcompL]
  rcases tg.set d env with _ | env1
  · rfl
  · show _ = dcK0 tg t ke f l env env1 acc (t env1 ta)
    unfold dcK0
    (try dsimp only)
    rcases t env1 ta with _ | ⟨_ | b, t1⟩
    · rfl
    · rfl
    · cases b
      · rfl
      · show _ = dcK1 tg t ke f l env env1 acc (ke env1 t1)
        unfold dcK1
        (try dsimp only)
        rcases ke env1 t1 with _ | ⟨_ | x, t2⟩
        · rfl
        · rfl
        · show _ = dcB tg t ke f l env env1 acc t2 x.key?
          unfold dcB
          (try dsimp only)
          cases x.key? with
          | none => rfl
          | some k =>
            show _ = dcK2 tg t ke f l env acc k (f env1 t2)
            unfold dcK2
            (try dsimp only)
            rcases f env1 t2 with _ | ⟨_ | y, t3⟩
            · rfl
            · rfl
            · cases y <;> rfl
def dcompK (vs : List Nat) (tg : Tg) (t : Tv) (ke f : Ev) (env : SE) (r : RD) : RE := kX r fun l t1 => if l.length < LIM then (dcompL tg t ke f l (wipeE env vs) t1 []).map fun p => (.ok (.dic p.1), p.2) else none
@[simp] theorem dcompK_ok {ke : Ev} : dcompK vs tg t ke f env (some (.ok l, t1)) = if l.length < LIM then (dcompL tg t ke f l (wipeE env vs) t1 []).map fun p => (.ok (.dic p.1), p.2) else none := Eq.trans rfl rfl
@[simp] theorem dcompE_ap {ke : Ev} : dcompE it vs tg t ke f env ta = dcompK vs tg t ke f env (it env ta) := by
  unfold dcompE dcompK
  rcases it env ta with _ | ⟨_ | _, _⟩ <;> rfl
/-! targets with tuples in them -/
@[simp] theorem set_pat {ps : List Pt} : Tg.set (.pat ps) (.tup l) env = setPats ps l env := rfl
@[simp] theorem setPats_nil : setPats [] [] env = some env := rfl
@[simp] theorem setPats_cons {p : Pt} {ps : List Pt} {d : D} : setPats (p :: ps) (d :: l) env = (p.set d env).bind (setPats ps l) := rfl
@[simp] theorem setP_nm {d : D} : Pt.set (.nm j) d env = some (env.set j (.val d)) := rfl
@[simp] theorem setP_tu : Pt.set (.tu js) (.tup l) env = if l.length = js.length then some (setAll js l env) else none := rfl
def unpTB (tg : Tg) (env : SE) (t : TapeO) (o : Option D) : RC := kO o fun d => (tg.set d env).map fun e => (.nx, e, t)
@[simp] theorem unpTB_some {d : D} : unpTB tg env ta (some d) = (tg.set d env).map fun e => (.nx, e, ta) := Eq.trans rfl rfl
def unpTK (tg : Tg) (env : SE) (r : RE) : RC := kS r env fun x t => unpTB tg env t (valOf x)
@[simp] theorem unpTK_ok : unpTK tg env (some (.ok x, t1)) = unpTB tg env t1 (valOf x) := Eq.trans rfl rfl
@[simp] theorem unpTC_ap : unpTC tg f env ta = unpTK tg env (f env ta) := by
  unfold unpTC unpTK
  rw [onE_ap]
  refine kS_ext fun r t1 => ?_
  cases r <;> rfl
/-! x[::-1] -/
@[simp] theorem revS_tup : revS (.val (.tup l)) = some (.val (.tup l.reverse)) := rfl
@[simp] theorem revS_lst : revS (.val (.lst l)) = some (.own l.reverse) := rfl
/-! operations -/
theorem sum_ints (l : List Int) : sumAS [.val (.tup (l.map D.int))] = some (.val (.int l.sum)) := by
  unfold sumAS
  simp [ints?_map]
theorem sum_bor (l : List Int) : sumAS [.bor (l.map D.int)] = some (.val (.int l.sum)) := by
  unfold sumAS
  simp [ints?_map]
theorem sum_own (l : List Int) : sumAS [.own (l.map D.int)] = some (.val (.int l.sum)) := by
  unfold sumAS
  simp [ints?_map]
theorem zip_bor (l m : List D) : zipS false [.bor l, .bor m] = some (zipD l m) := rfl
theorem zip_tup (b : Bool) (l m : List D) : zipS b [.val (.tup l), .val (.tup m)] = some (zipD l m) := by cases b <;> rfl
theorem enum_tup (b : Bool) (l : List D) : enumS b [.val (.tup l)] = some (enumD l) := by cases b <;> rfl
end
end MP

/-! MPw: what the laws draw: _law_some, _law_order, _law_moved. -/
namespace MP
open PySem
theorem rgL_range'' (lo : Int) (n : Nat) : rgL lo n = (List.range' 0 n).map fun i => D.int (lo + (i : Nat)) := by
  unfold rgL; rw [List.range_eq_range']
theorem small62_of' {i : Int} (h : 0 ≤ i) (h2 : i < 1000000) : small62 i = true := by unfold small62; simp; omega
theorem rg1_ok' {j : Int} (h : 0 ≤ j) (h2 : j < 1000000) : rg1S [.val (.int j)] = some ((List.range' 0 j.toNat).map fun i => D.int (i : Nat)) := by
  unfold rg1S
  dsimp only
  rw [if_pos (small62_of' h h2), rgL_range'']
  simp
theorem take_next {n : Int} (h1 : 1 ≤ n) (h2 : n < 2 ^ 62) {t : Tape} (T : TOk t) : ∃ (a : Int) (t' : Tape), 0 ≤ a ∧ a < n ∧ TOk t' ∧ takeF [.tape, .val (.int n)] (some t) = some (.ok (.val (.int a)), some t') :=
  ⟨takeV t n, takeT t n, take_nn T h1 h2, take_lt T h1 h2, take_tok T h1 h2, take_eq T h1 h2⟩
def someC : Cs := (retC (compE (argI rg1S [(varE 2)]) [3] (.one 3) yesT (callF takeF [(varE 0), (varE 1)])))
def someF : Fn := defF 4 someC
theorem some_comp {n : Int} (h1 : 1 ≤ n) (h2 : n < 2 ^ 62) (m0 z : Sl) : ∀ (m j : Nat) (t : Tape), TOk t → ∃ (l : List Int) (t' : Tape), l.length = m ∧ (∀ x ∈ l, 0 ≤ x ∧ x < n) ∧ TOk t' ∧
    compL (.one 3) yesT (callF takeF [(varE 0), (varE 1)]) ((List.range' j m).map fun i => D.int (i : Nat)) [.tape, .val (.int n), m0, z] (some t) = some (l.map D.int, some t')
  | 0, j, t, T => ⟨[], t, rfl, (fun x h => by cases h), T, rfl⟩
  | m + 1, j, t, T => by
    obtain ⟨a, t1, a0, a1, T1, e1⟩ := take_next h1 h2 T
    obtain ⟨l, t2, hl, hx, T2, e2⟩ := some_comp h1 h2 m0 z m (j + 1) t1 T1
    refine ⟨a :: l, t2, by simp [hl], fun x h => ?_, T2, ?_⟩
    · rcases List.mem_cons.mp h with rfl | h
      · exact ⟨a0, a1⟩
      · exact hx x h
    · rw [List.range'_succ, List.map_cons, compL_cons]
      simp [e1, e2]
theorem some_ok {n : Int} (h1 : 1 ≤ n) (h2 : n < 2 ^ 62) {m : Int} (m0 : 0 ≤ m) (m1 : m < 1000) {t : Tape} (T : TOk t) : ∃ (l : List Int) (t' : Tape), (l.length : Int) = m ∧ (∀ x ∈ l, 0 ≤ x ∧ x < n) ∧ TOk t' ∧
    someF [.tape, .val (.int n), .val (.int m)] (some t) = some (.ok (.own (l.map D.int)), some t') := by
  obtain ⟨l, t', hl, hx, T', e⟩ := some_comp h1 h2 (.val (.int m)) .un m.toNat 0 t T
  refine ⟨l, t', by omega, hx, T', ?_⟩
  have rg := rg1_ok' m0 (show m < 1000000 by omega)
  have hL : m.toNat < LIM := by
    have : LIM = 16777216 := rfl
    omega
  unfold someF someC
  rw [defF_ap]
  simp [rg, hL, e]
/-! ### an order -/
theorem canLay_ints' : ∀ l : List Int, PyData.canLayAll0 (pys (l.map D.int)) = true
  | [] => rfl
  | n :: l => by simp [pys, D.py, PyData.canLayAll0, PyData.canLay0, canLay_ints' l]
theorem depth_ints' : ∀ l : List Int, PyData.depthAll (pys (l.map D.int)) = 0
  | [] => rfl
  | n :: l => by simp [pys, D.py, PyData.depthAll, PyData.depth, depth_ints' l]
theorem ne_bor_nil (l : List Int) : neS (.bor (l.map D.int)) (.own []) = some (.val (.bl (!decide (l = [])))) := by
  unfold neS eqC
  cases l with
  | nil => simp [Sl.dat?, D.py, pys, SeqAt.shaped, PyData.canLay0, PyData.canLayAll0, PyData.depth, PyData.depthAll, PyData.eqv, PyData.eqvAll]
  | cons n l => simp [Sl.dat?, D.py, pys, SeqAt.shaped, PyData.canLay0, PyData.canLayAll0, PyData.depth, PyData.depthAll, PyData.eqv, PyData.eqvAll, canLay_ints', depth_ints']
def orderC : Cs := (seqC (parC 2 3 (ofRg .own (rg1R (varE 1))) (lstE []))
  (seqC (whileC (ofE (binE neS (varE 2) (lstE []))) (appPopC 3 2 (callF takeF [(varE 0), (callE lenS [(varE 2)])])) 100000)
  (retC (callE tupleS [(varE 3)]))))
def orderF : Fn := defF 4 orderC
theorem perm_erase (l : List Int) (k : Nat) (h : k < l.length) : (l[k] :: l.eraseIdx k).Perm l := by
  induction l generalizing k with
  | nil => simp at h
  | cons a l ih =>
    cases k with
    | zero => simp
    | succ k =>
      simp only [List.length_cons, Nat.add_lt_add_iff_right] at h
      simp only [List.getElem_cons_succ, List.eraseIdx_cons_succ]
      exact (List.Perm.swap _ _ _).trans ((ih k h).cons a)
theorem map_erase {α β : Type} (f : α → β) : ∀ (l : List α) (k : Nat), (l.eraseIdx k).map f = (l.map f).eraseIdx k
  | [], _ => rfl
  | a :: l, 0 => rfl
  | a :: l, k + 1 => by
    rw [List.eraseIdx_cons_succ, List.map_cons, List.map_cons, List.eraseIdx_cons_succ, map_erase f l k]
theorem order_loop (n : Sl) : ∀ (fuel : Nat) (left found : List Int) (t : Tape), TOk t → left.length < fuel → left.length + found.length < 1000 → ∃ (ord : List Int) (t' : Tape), ord.Perm (found ++ left) ∧ TOk t' ∧
    whileC (ofE (binE neS (varE 2) (lstE []))) (appPopC 3 2 (callF takeF [(varE 0), (callE lenS [(varE 2)])])) fuel [.tape, n, .own (left.map D.int), .own (found.map D.int)] (some t) = some (.nx, [.tape, n, .own [], .own (ord.map D.int)], some t')
  | 0, left, found, t, T, h, _ => by omega
  | fuel + 1, left, found, t, T, h, hb => by
    by_cases hz : left = []
    · subst hz
      refine ⟨found, t, by simp, T, ?_⟩
      have e := ne_bor_nil []
      simp at e
      rw [while_ap]
      simp [e]
    · have hlen : 1 ≤ left.length := by
        cases left with
        | nil => exact absurd rfl hz
        | cons _ _ => simp
      obtain ⟨a, t1, a0, a1, T1, e1⟩ := take_next (n := (left.length : Int)) (by omega) (by omega) T
      have ha : a.toNat < left.length := by omega
      obtain ⟨ord, t2, hp, T2, e2⟩ := order_loop n fuel (left.eraseIdx a.toNat) (found ++ [left[a.toNat]]) t1 T1 (by rw [List.length_eraseIdx_of_lt ha]; omega) (by rw [List.length_eraseIdx_of_lt ha]; simp; omega)
      refine ⟨ord, t2, hp.trans ?_, T2, ?_⟩
      · rw [List.append_assoc]
        exact (perm_erase left a.toNat ha).append_left found
      · have e := ne_bor_nil left
        have hx : L2.ixN left.length a = some a.toNat := by unfold L2.ixN; rw [if_pos a0, if_pos (by omega)]
        have hL1 : found.length < LIM := by
          have : LIM = 16777216 := rfl
          omega
        have hL2 : left.length ≤ LIM := by
          have : LIM = 16777216 := rfl
          omega
        rw [List.map_append, List.map_cons, List.map_nil] at e2
        have ei : (left.eraseIdx a.toNat).map D.int = (left.map D.int).eraseIdx a.toNat := by
          exact map_erase _ _ _
        rw [ei] at e2
        rw [while_ap]
        simp [e, hz, lenS, e1, hx, hL1, hL2, ha, e2]
theorem order_ok {n : Int} (h1 : 0 ≤ n) (h2 : n < 500) {t : Tape} (T : TOk t) : ∃ (ord : List Int) (t' : Tape), ord.Perm ((List.range' 0 n.toNat).map fun i => (i : Nat)) ∧ TOk t' ∧
    orderF [.tape, .val (.int n)] (some t) = some (.ok (.val (.tup (ord.map D.int))), some t') := by
  obtain ⟨ord, t', hp, T', e⟩ := order_loop (.val (.int n)) 100000 ((List.range' 0 n.toNat).map fun i => ((i : Nat) : Int)) [] t T (by simp; omega) (by simp; omega)
  refine ⟨ord, t', by simpa using hp, T', ?_⟩
  have hr : rgOk 0 n = true := by
    unfold rgOk small62
    have : LIM = 16777216 := rfl
    simp
    omega
  have er : rgL 0 (n - 0).toNat = ((List.range' 0 n.toNat).map fun i => ((i : Nat) : Int)).map D.int := by
    rw [rgL_range'', List.map_map, Int.sub_zero]
    refine List.map_congr_left fun i _ => ?_
    simp
  rw [Int.sub_zero] at er
  unfold orderF orderC
  rw [defF_ap]
  simp at e er
  simp [hr, er, e, tupleS]
/-! ### moved -/
def movedC : Cs := (retC (callE tupleS [(compE (seqI (varE 1)) [2] (.one 2) yesT (binE ixS (varE 0) (varE 2)))]))
def movedF : Fn := defF 3 movedC
theorem moved_comp (row : List D) (o z : Sl) (ta : TapeO) : ∀ (ord : List Int), (∀ i ∈ ord, 0 ≤ i ∧ i < row.length) → compL (.one 2) yesT (binE ixS (varE 0) (varE 2)) (ord.map D.int) [.val (.tup row), o, z] ta = some (ord.map fun i => row.getD i.toNat .non, ta)
  | [], _ => rfl
  | i :: ord, h => by
    have ih := moved_comp row o z ta ord fun j hj => h j (List.mem_cons_of_mem _ hj)
    obtain ⟨h0, h1⟩ := h i List.mem_cons_self
    have hx : ixS (.val (.tup row)) (.val (.int i)) = some (.val (row.getD i.toNat .non)) := ix_at rfl h0 (by rw [List.getD_eq_getElem?_getD, List.getElem?_eq_getElem (by omega)]; rfl)
    rw [List.map_cons, compL_cons]
    simp at ih hx
    simp [hx, ih]
theorem moved_ok (row : List D) (ord : List Int) (ta : TapeO) (h : ∀ i ∈ ord, 0 ≤ i ∧ i < row.length) (hl : ord.length < 1000) : movedF [.val (.tup row), .val (.tup (ord.map D.int))] ta = some (.ok (.val (.tup (ord.map fun i => row.getD i.toNat .non))), ta) := by
  have e := moved_comp row (.val (.tup (ord.map D.int))) .un ta ord h
  have hL : ord.length < LIM := by
    have : LIM = 16777216 := rfl
    omega
  unfold movedF movedC
  rw [defF_ap]
  simp at e
  simp [hL, e, tupleS]
/-- an order of a row is as long as the row -/
theorem ord_mem {ord : List Int} {n : Nat} (h : ord.Perm ((List.range' 0 n).map fun i => (i : Nat))) : ∀ i ∈ ord, 0 ≤ i ∧ i < n := fun i hi => by
  have := h.mem_iff.mp hi
  obtain ⟨j, hj, rfl⟩ := List.mem_map.mp this
  rw [List.mem_range'_1] at hj
  omega
theorem range_getD {α : Type} (d : α) : ∀ (l : List α) (k : Nat), ((List.range' k l.length).map fun i => l.getD (i - k) d) = l
  | [], _ => rfl
  | a :: l, k => by
    rw [List.length_cons, List.range'_succ, List.map_cons, Nat.sub_self]
    show a :: _ = a :: l
    congr 1
    conv => rhs; rw [← range_getD d l (k + 1)]
    refine List.map_congr_left fun i hi => ?_
    rw [List.mem_range'_1] at hi
    rw [show i - k = (i - (k + 1)) + 1 by omega]
    rfl
theorem ord_perm {α : Type} (d : α) {ord : List Int} (l : List α) (h : ord.Perm ((List.range' 0 l.length).map fun i => (i : Nat))) : (ord.map fun i => l.getD i.toNat d).Perm l := by
  have h2 := h.map fun i : Int => l.getD i.toNat d
  rw [List.map_map] at h2
  refine h2.trans (List.Perm.of_eq ?_)
  conv => rhs; rw [← range_getD d l 0]
  refine List.map_congr_left fun i _ => ?_
  simp
theorem perm_sum {l m : List Int} (h : l.Perm m) : l.sum = m.sum := by
  induction h with
  | nil => rfl
  | cons a _ ih => simp [ih]
  | swap a b l => simp; omega
  | trans _ _ h1 h2 => rw [h1, h2]
/-! ### cuts -/
theorem cut_to (l : List D) {c : Int} (h : 0 ≤ c) (h2 : c ≤ l.length) : cutD l none (some c) = l.take c.toNat := by
  obtain ⟨k, rfl⟩ := Int.eq_ofNat_of_zero_le h
  unfold cutD
  rw [HT.sIx_none, HT.sIx_nat, Nat.min_eq_left (by omega)]
  simp
theorem cut_from (l : List D) {c : Int} (h : 0 ≤ c) (h2 : c ≤ l.length) : cutD l (some c) none = l.drop c.toNat := by
  obtain ⟨k, rfl⟩ := Int.eq_ofNat_of_zero_le h
  unfold cutD
  rw [HT.sIx_none, HT.sIx_nat, Nat.min_eq_left (by omega), List.take_of_length_le (by simp)]
  simp
end MP

/-! MPx: tuple(zip(a, b)), a and b lists. -/
namespace ZT
open PySem PySem.Spec PyProof.Rows PySem.W PySem.Calls L2
theorem zip_no_len : typeLookup (.type "zip") "__len__" = pure none := by rw [typeLookup_type, builtinLookup_eq_fast]; kernel_rfl
theorem zip_no_hint : typeLookup (.type "zip") "__length_hint__" = pure none := by rw [typeLookup_type, builtinLookup_eq_fast]; kernel_rfl
/-- a zip that has handed out k pairs; what it handed out stays, S is another thing -/
structure ZSt (h : Heap) (z TI TO i1 i2 l1 l2 S : Addr) (xs ys : Array Value) (k : Nat) : Prop where
  hTI : IsPair h TI (.ref i1) (.ref i2)
  h1 : h.IsListIter i1 l1 k
  h2 : h.IsListIter i2 l2 k
  hl1 : h.IsList l1 xs
  hl2 : h.IsList l2 ys
  hz : (IsZip h z TI TO .none ∧ ∃ a b, IsPair h TO a b) ∨ ∃ T f oT, IsZipHeld h z TI TO T f ∧ h.get? T = some oT ∧ T ≠ z ∧ T ≠ i1 ∧ T ≠ i2 ∧ T ≠ S
structure MadeZ (xs ys : Array Value) (lo : Addr) (h : Heap) (as : List Addr) : Prop where
  rise : as.Pairwise (· < ·)
  above : ∀ a ∈ as, lo < a
  pairs : ∀ (j : Nat) (a : Addr), as[j]? = some a → ∃ x y, xs[j]? = some x ∧ ys[j]? = some y ∧ IsPair h a x y
section
variable {prog : Program} {w : World} {A : Around} {E : Value → Shared → Prop} {s : Shared} {z TI TO i1 i2 l1 l2 S : Addr} {xs ys : Array Value} {k : Nat}
theorem MadeZ.there {lo : Addr} {h : Heap} {as : List Addr} (g : MadeZ xs ys lo h as) {a : Addr} (ha : a ∈ as) : a < h.objs.size := by
  obtain ⟨j, hj⟩ := List.mem_iff_getElem?.mp ha
  obtain ⟨_, _, _, _, e⟩ := g.pairs j a hj
  exact Heap.lt_size e
theorem ZSt.frame {h h' : Heap} (D : ZSt h z TI TO i1 i2 l1 l2 S xs ys k) (hk : ∀ b o, b ≠ S → h.get? b = some o → h'.get? b = some o) (n1 : z ≠ S) (n2 : TI ≠ S) (n3 : TO ≠ S) (n4 : i1 ≠ S) (n5 : i2 ≠ S) (n6 : l1 ≠ S) (n7 : l2 ≠ S) : ZSt h' z TI TO i1 i2 l1 l2 S xs ys k where
  hTI := hk _ _ n2 D.hTI
  h1 := D.h1.at fun o e => hk _ o n4 e
  h2 := D.h2.at fun o e => hk _ o n5 e
  hl1 := D.hl1.at fun o e => hk _ o n6 e
  hl2 := D.hl2.at fun o e => hk _ o n7 e
  hz := by
    rcases D.hz with ⟨hz, a, b, hTO⟩ | ⟨T, f, oT, hz, hT, r1, r2, r3, r4⟩
    · exact .inl ⟨hk _ _ n1 hz, a, b, hk _ _ n3 hTO⟩
    · exact .inr ⟨T, f, oT, hk _ _ n1 hz, hk _ _ r4 hT, r1, r2, r3, r4⟩
theorem nxtZ {Q : Option Value → Shared → Prop} (Dp : ZipApart z TI TO i1 i2 l1 l2) (D : ZSt s.heap z TI TO i1 i2 l1 l2 S xs ys k) (hS : S < s.heap.objs.size) {x y : Value} (hx : xs[k]? = some x) (hy : ys[k]? = some y)
    (hQ : ∀ h', ZSt h' z TI TO i1 i2 l1 l2 S xs ys (k + 1) → IsPair h' s.heap.objs.size x y → h'.objs.size = s.heap.objs.size + 1 → (∀ c o, c ≠ z → c ≠ TO → c ≠ i1 → c ≠ i2 → s.heap.get? c = some o → h'.get? c = some o) → Q (some (.ref s.heap.objs.size)) { s with heap := h' }) :
    wpAny (model prog w) A (pyNext (.ref z)) Q E s := by
  obtain ⟨hTI, h1, h2, hl1, hl2, hz⟩ := D
  have lt : ∀ {c o}, s.heap.get? c = some o → s.heap.objs.size ≠ c := fun e => Nat.ne_of_gt (Heap.lt_size e)
  have n1 : s.heap.objs.size ≠ i1 := let ⟨_, e, _⟩ := h1; lt e
  have n2 : s.heap.objs.size ≠ i2 := let ⟨_, e, _⟩ := h2; lt e
  rcases hz with ⟨hz, a, b, hTO⟩ | ⟨T, f, oT, hz, hT, r1, r2, r3, r4⟩
  · refine wpAny_pyNext_zip_item Dp hz hTI hTO h1 h2 hl1 hl2 hx hy fun h' a1 a2 a3 a4 a5 a6 hk => ?_
    exact hQ h' ⟨hk _ _ Dp.TIz Dp.TITO Dp.TIi1 Dp.TIi2 hTI, a3, a4, hl1.at fun o e => hk _ o Dp.l1z Dp.l1TO Dp.l1i1 Dp.l1i2 e, hl2.at fun o e => hk _ o Dp.l2z Dp.l2TO Dp.l2i1 Dp.l2i2 e,
      .inr ⟨s.heap.objs.size, false, _, a1, a5, lt hz, n1, n2, Nat.ne_of_gt hS⟩⟩ a5 a6 hk
  · refine wpAny_pyNext_zip_item_held Dp hz hT hTI h1 h2 hl1 hl2 hx hy fun h' a1 a3 a4 a5 a6 hk => ?_
    exact hQ h' ⟨hk _ _ Dp.TIz Dp.TIi1 Dp.TIi2 hTI, a3, a4, hl1.at fun o e => hk _ o Dp.l1z Dp.l1i1 Dp.l1i2 e, hl2.at fun o e => hk _ o Dp.l2z Dp.l2i1 Dp.l2i2 e,
      .inr ⟨T, true, oT, a1, hk _ _ r1 r2 r3 hT, r1, r2, r3, r4⟩⟩ a5 a6 fun c o c1 _ c3 c4 e => hk c o c1 c3 c4 e
theorem finZ {Q : Option Value → Shared → Prop} (hh : A.handled = none) (Dp : ZipApart z TI TO i1 i2 l1 l2) (D : ZSt s.heap z TI TO i1 i2 l1 l2 S xs ys k) (hend : xs[k]? = none ∨ ys[k]? = none)
    (hQ : ∀ h', (∀ c o, c ≠ z → c ≠ TO → c ≠ i1 → c ≠ i2 → s.heap.get? c = some o → h'.get? c = some o) → Q none { s with heap := h' }) : wpAny (model prog w) A (pyNext (.ref z)) Q E s := by
  obtain ⟨hTI, h1, h2, hl1, hl2, hz⟩ := D
  rcases hz with ⟨hz, a, b, hTO⟩ | ⟨T, f, oT, hz, hT, r1, r2, r3, r4⟩
  · exact wpAny_pyNext_zip_end hh Dp hz hTI hTO h1 h2 hl1 hl2 hend hQ
  · exact wpAny_pyNext_zip_end_held hh Dp hz hT hTI h1 h2 hl1 hl2 hend fun h' hk => hQ h' fun c o c1 _ c3 c4 e => hk c o c1 c3 c4 e
/-- what is laid out: all below S -/
structure Below (z TI TO i1 i2 l1 l2 S : Addr) : Prop where
  nz : z < S
  nTI : TI < S
  nTO : TO < S
  n1 : i1 < S
  n2 : i2 < S
  nl1 : l1 < S
  nl2 : l2 < S
theorem loopZ {R : Result → Shared → Prop} (hh : A.handled = none) (Dp : ZipApart z TI TO i1 i2 l1 l2) (Bl : Below z TI TO i1 i2 l1 l2 S) (n : Nat) (hnx : xs.size = n) (hny : ys.size = n) (hn : n ≤ sizeLine) (res : Value) {h₁ : Heap}
    (hR : ∀ h' tk acc c as, (∀ b o, b ≠ S → b ≠ z → b ≠ TO → b ≠ i1 → b ≠ i2 → h₁.get? b = some o → h'.get? b = some o) → h'.get? S = some { cls := .type "list", dict := none, data := .seq acc c, slots := #[] } → as.length = n → MadeZ xs ys S h' as →
      acc.toList = as.map Value.ref → R (.ok (.ret res)) { s with heap := h', toks := tk }) :
    ∀ (m i : Nat) (h : Heap) (tk c : Nat) (acc : Array Value) (as : List Addr), n - i = m → i ≤ n → ZSt h z TI TO i1 i2 l1 l2 S xs ys i → (∀ b o, b ≠ S → b ≠ z → b ≠ TO → b ≠ i1 → b ≠ i2 → h₁.get? b = some o → h.get? b = some o) →
      h.get? S = some { cls := .type "list", dict := none, data := .seq acc c, slots := #[] } → acc.toList = as.map Value.ref → as.length = i → MadeZ xs ys S h as →
      codeAny (model prog w) A (.builtin "list.extend.loop" ⟨[.ref S, .ref z, res], []⟩) R { s with heap := h, toks := tk } := by
  have ab : ∀ {b : Addr}, S < b → b ≠ z ∧ b ≠ TO ∧ b ≠ i1 ∧ b ≠ i2 := fun hb =>
    ⟨Nat.ne_of_gt (Nat.lt_trans Bl.nz hb), Nat.ne_of_gt (Nat.lt_trans Bl.nTO hb), Nat.ne_of_gt (Nat.lt_trans Bl.n1 hb), Nat.ne_of_gt (Nat.lt_trans Bl.n2 hb)⟩
  intro m
  induction m with
  | zero =>
    intro i h tk c acc as hk hi hst hkeep hS hacc hal hG
    refine codeAny_builtin PySem.F.entry_extend_loop ?_
    rw [Around.under_plainId PySem.F.plain_extend_loop _]
    show wpAny _ A.in1 (pyNext (.ref z) >>= _) _ _ _
    refine wpAny_bind (finZ (s := { s with heap := h, toks := tk }) (A := A.in1) hh Dp hst (.inl (Array.getElem?_eq_none (by omega))) fun h' he => ?_)
    refine wpAny_pure (hR h' tk acc c as (fun b o h0 h1 h2 h3 h4 e => he b o h1 h2 h3 h4 (hkeep b o h0 h1 h2 h3 h4 e)) (he S _ (Nat.ne_of_gt Bl.nz) (Nat.ne_of_gt Bl.nTO) (Nat.ne_of_gt Bl.n1) (Nat.ne_of_gt Bl.n2) hS) (by omega) ⟨hG.rise, hG.above, fun j a hj => ?_⟩ hacc)
    obtain ⟨x, y, e1, e2, e3⟩ := hG.pairs j a hj
    obtain ⟨b1, b2, b3, b4⟩ := ab (hG.above a (List.mem_of_getElem? hj))
    exact ⟨x, y, e1, e2, he a _ b1 b2 b3 b4 e3⟩
  | succ m ih =>
    intro i h tk c acc as hk hi hst hkeep hS hacc hal hG
    have hlt : i < n := by omega
    have hsz : acc.size = i := by rw [← Array.length_toList, hacc, List.length_map, hal]
    have ex : xs[i]? = some (xs[i]'(by omega)) := Array.getElem?_eq_getElem (by omega)
    have ey : ys[i]? = some (ys[i]'(by omega)) := Array.getElem?_eq_getElem (by omega)
    have hSl : S < h.objs.size := Heap.lt_size hS
    refine codeAny_builtin PySem.F.entry_extend_loop ?_
    rw [Around.under_plainId PySem.F.plain_extend_loop _]
    show wpAny _ A.in1 (pyNext (.ref z) >>= _) _ _ _
    refine wpAny_bind (nxtZ (s := { s with heap := h, toks := tk }) (S := S) Dp hst hSl ex ey fun h' hst' ht hz hkp => ?_)
    dsimp only at ht hz hkp ⊢
    have hS' := hkp S _ (Nat.ne_of_gt Bl.nz) (Nat.ne_of_gt Bl.nTO) (Nat.ne_of_gt Bl.n1) (Nat.ne_of_gt Bl.n2) hS
    have up : ∀ b o, b ≠ S → h'.get? b = some o → (h'.update S (Obj.mapSeq (·.push (Value.ref h.objs.size)))).get? b = some o := fun b o hb e => (Heap.get?_update_other _ _ (Ne.symm hb)).trans e
    show wpAny _ A.in1 (updateSeq S (·.push (Value.ref h.objs.size)) >>= _) _ _ _
    refine wpAny_bind ?_
    refine wpAny_updateSeq hS' rfl (wpAny_pure ⟨plainId_quiet PySem.F.plain_extend_loop _, ih (i + 1) _ tk _ (acc.push (Value.ref h.objs.size)) (as ++ [h.objs.size]) (by omega) hlt
      (hst'.frame up (Nat.ne_of_lt Bl.nz) (Nat.ne_of_lt Bl.nTI) (Nat.ne_of_lt Bl.nTO) (Nat.ne_of_lt Bl.n1) (Nat.ne_of_lt Bl.n2) (Nat.ne_of_lt Bl.nl1) (Nat.ne_of_lt Bl.nl2))
      (fun b o h0 h1 h2 h3 h4 e => up b o h0 (hkp b o h1 h2 h3 h4 (hkeep b o h0 h1 h2 h3 h4 e))) (Heap.get?_update_self _ hS' rfl) (by rw [Array.toList_push, hacc, List.map_append]; rfl) (by rw [List.length_append, hal]; rfl) ⟨?_, ?_, ?_⟩⟩) (by rw [hsz]; omega) (by show (acc.push (Value.ref h.objs.size)).size ≤ sizeLine + 1; rw [Array.size_push, hsz]; omega)
    · refine List.pairwise_append.mpr ⟨hG.rise, List.pairwise_singleton _ _, fun a ha b hb => ?_⟩
      rw [List.mem_singleton.mp hb]
      exact hG.there ha
    · intro a ha
      rcases List.mem_append.mp ha with ha | ha
      · exact hG.above a ha
      · rw [List.mem_singleton.mp ha]; exact hSl
    · intro j b hj
      rcases Nat.lt_trichotomy j as.length with h1 | h1 | h1
      · rw [List.getElem?_append_left h1] at hj
        obtain ⟨x, y, e1, e2, e3⟩ := hG.pairs j b hj
        have hb := hG.above b (List.mem_of_getElem? hj)
        obtain ⟨b1, b2, b3, b4⟩ := ab hb
        exact ⟨x, y, e1, e2, up b _ (Nat.ne_of_gt hb) (hkp b _ b1 b2 b3 b4 e3)⟩
      · subst h1
        have hb : h.objs.size = b := by simpa using hj
        subst hb
        exact ⟨_, _, by rw [hal]; exact ex, by rw [hal]; exact ey, up _ _ (Nat.ne_of_gt hSl) ht⟩
      · have hnone : (as ++ [h.objs.size])[j]? = none := List.getElem?_eq_none (by rw [List.length_append, List.length_singleton]; omega)
        rw [hnone] at hj; cases hj
end
section
variable {prog : Program} {w : World} {A : Around} {E : Value → Shared → Prop} {s : Shared} {z TI TO i1 i2 l1 l2 : Addr} {xs ys : Array Value}
theorem collectZ {Q : List Value → Shared → Prop} (hh : A.handled = none) (Dp : ZipApart z TI TO i1 i2 l1 l2) (Bl : Below z TI TO i1 i2 l1 l2 s.heap.objs.size) (n : Nat) (hnx : xs.size = n) (hny : ys.size = n) (hn : n ≤ sizeLine)
    (hz : IsZip s.heap z TI TO .none) (hTI : IsPair s.heap TI (.ref i1) (.ref i2)) {a b : Value} (hTO : IsPair s.heap TO a b) (h1 : s.heap.IsListIter i1 l1 0) (h2 : s.heap.IsListIter i2 l2 0) (hl1 : s.heap.IsList l1 xs) (hl2 : s.heap.IsList l2 ys)
    (hQ : ∀ h' tk as, (∀ b o, b ≠ z → b ≠ TO → b ≠ i1 → b ≠ i2 → s.heap.get? b = some o → h'.get? b = some o) → as.length = n → MadeZ xs ys s.heap.objs.size h' as → Q (as.map Value.ref) { s with heap := h', toks := tk }) :
    wpAny (model prog w) A (collect (.ref z)) Q E s := by
  have hSz : s.heap.objs.size ≠ z := Nat.ne_of_gt Bl.nz
  unfold collect
  refine wpAny_bind (wpAny_runValue (codeAny_builtin F.entry_proto_collect ?_))
  rw [Around.under_plainId F.plain_proto_collect _]
  show wpAny _ A.in1 (newList [] >>= fun l => again (.builtin "list.__iadd__" ⟨[l, .ref z], []⟩)) _ _ s
  refine wpAny_bind (wpAny_newObj_type ?_)
  refine wpAny_pure ⟨plainId_quiet F.plain_list_iadd _, codeAny_builtin F.entry_list_iadd ?_⟩
  rw [Around.under_plainId F.plain_list_iadd _]
  show wpAny _ A.in1 (Builtin.List.listExtendWith (.ref s.heap.objs.size) (.ref z) (.ref s.heap.objs.size)) _ _ _
  have hz₁ : IsZip (s.heap.push { cls := .type "list", data := .seq ([] : List Value).toArray }) z TI TO .none := Heap.get?_push_of_some _ hz
  have hTy : ∀ s' : Shared, s'.heap = s.heap.push { cls := .type "list", data := .seq ([] : List Value).toArray } → s'.TypeIs (.ref z) "zip" := fun s' e => ⟨_, by rw [e]; exact hz₁, rfl⟩
  unfold Builtin.List.listExtendWith
  refine wpAny_bind (wpAny_typeOf (hTy _ rfl) ?_)
  have g1 : Builtin.List.listSameRef (.ref s.heap.objs.size) (.ref z) = false := by simp [Builtin.List.listSameRef, hSz]
  have g2 : (Value.type "zip" == Value.type "list") = false := by decide
  have g3 : (Value.type "zip" == Value.type "tuple") = false := by decide
  simp only [g1, g2, g3, Bool.or_false, Bool.false_eq_true, if_false]
  refine wpAny_bind (wpAny_pyIter_zip (f0 := .none) hz₁ ?_)
  refine wpAny_bind (wpAny_holding ?_)
  unfold Builtin.List.listLengthHint
  refine wpAny_bind (wpAny_specialOf (hTy _ rfl) zip_no_len ?_)
  show wpAny _ A.in1 (specialOf (Value.ref z) (Str.ofString "__length_hint__") >>= _) _ _ _
  refine wpAny_bind (wpAny_specialOf (hTy _ rfl) zip_no_hint ?_)
  refine wpAny_pure ?_
  show wpAny _ A.in1 (rule "list.extend.makes-room" >>= fun _ => Builtin.List.listTouch (.ref s.heap.objs.size) >>= fun _ =>
    again (.builtin "list.extend.loop" ⟨[.ref s.heap.objs.size, .ref z, .ref s.heap.objs.size], []⟩)) _ _ _
  refine wpAny_bind (wpAny_rule ?_)
  have hS₁ : (s.heap.push { cls := .type "list", data := .seq ([] : List Value).toArray }).get? s.heap.objs.size = some { cls := .type "list", data := .seq ([] : List Value).toArray } := Heap.get?_push_size _ rfl
  refine wpAny_bind ?_
  show wpAny _ A.in1 (updateSeq s.heap.objs.size (·.push .none) >>= fun _ => updateSeq s.heap.objs.size (·.pop)) _ _ _
  refine wpAny_bind (wpAny_updateSeq hS₁ rfl ?_)
  have hS₂ := Heap.get?_update_self (Obj.mapSeq (·.push Value.none)) hS₁ rfl
  refine wpAny_updateSeq hS₂ rfl ?_
  have hS₃ := Heap.get?_update_self (Obj.mapSeq (·.pop)) hS₂ rfl
  have oth : ∀ b o, b ≠ s.heap.objs.size → s.heap.get? b = some o →
      (((s.heap.push { cls := .type "list", data := .seq ([] : List Value).toArray }).update s.heap.objs.size (Obj.mapSeq (·.push Value.none))).update s.heap.objs.size (Obj.mapSeq (·.pop))).get? b = some o :=
    fun b o hb e => (Heap.get?_update_other _ _ (Ne.symm hb)).trans ((Heap.get?_update_other _ _ (Ne.symm hb)).trans (Heap.get?_push_of_some _ e))
  refine wpAny_pure ⟨plainId_quiet F.plain_extend_loop _, loopZ (s := s) (h₁ := s.heap) hh Dp Bl n hnx hny hn _ (fun h' tk acc c as hk hS' hl hG hacc => ?_) n 0 _ s.toks _ _ [] (Nat.sub_zero _) (Nat.zero_le _)
    ((⟨hTI, h1, h2, hl1, hl2, .inl ⟨hz, a, b, hTO⟩⟩ : ZSt s.heap z TI TO i1 i2 l1 l2 s.heap.objs.size xs ys 0).frame oth (Nat.ne_of_lt Bl.nz) (Nat.ne_of_lt Bl.nTI) (Nat.ne_of_lt Bl.nTO) (Nat.ne_of_lt Bl.n1) (Nat.ne_of_lt Bl.n2) (Nat.ne_of_lt Bl.nl1) (Nat.ne_of_lt Bl.nl2))
    (fun b o hb _ _ _ _ e => oth b o hb e) hS₃ rfl rfl ⟨List.Pairwise.nil, (fun _ ha => nomatch ha), (fun j a hj => by simp at hj)⟩⟩
  show wpAny _ A (load s.heap.objs.size >>= _) _ _ _
  refine wpAny_bind (wpAny_load hS' ?_)
  refine wpAny_pure ?_
  show Q acc.toList _
  rw [hacc]
  exact hQ h' tk as (fun b o b1 b2 b3 b4 e => hk b o (Nat.ne_of_lt (Heap.lt_size e)) b1 b2 b3 b4 e) hl hG
theorem code_tuple_new_zip {Q₁ : Value → Shared → Prop} (hh : A.handled = none) (Dp : ZipApart z TI TO i1 i2 l1 l2) (Bl : Below z TI TO i1 i2 l1 l2 s.heap.objs.size) (n : Nat) (hnx : xs.size = n) (hny : ys.size = n) (hn : n ≤ sizeLine)
    (hz : IsZip s.heap z TI TO .none) (hTI : IsPair s.heap TI (.ref i1) (.ref i2)) {a b : Value} (hTO : IsPair s.heap TO a b) (h1 : s.heap.IsListIter i1 l1 0) (h2 : s.heap.IsListIter i2 l2 0) (hl1 : s.heap.IsList l1 xs) (hl2 : s.heap.IsList l2 ys)
    (h : ∀ h' tk as, (∀ b o, b ≠ z → b ≠ TO → b ≠ i1 → b ≠ i2 → s.heap.get? b = some o → h'.get? b = some o) → as.length = n → MadeZ xs ys s.heap.objs.size h' as →
      Q₁ (.ref h'.objs.size) { s with heap := h'.push { cls := .type "tuple", data := .seq (as.map Value.ref).toArray }, toks := tk }) :
    codeAny (model prog w) A (.call (.builtin "tuple.__new__") ⟨[.type "tuple", .ref z], []⟩) (wants Q₁ E) s := by
  refine codeAny_of_tree ?_
  show wpAny _ A.in1 (do checkBuiltinCall "tuple.__new__" ⟨[.type "tuple", .ref z], []⟩; again (.builtin "tuple.__new__" ⟨[.type "tuple", .ref z], []⟩)) _ _ s
  refine wpAny_bind (wpAny_of_eq (F.newCall_tuple_1 _) (wpAny_pure ⟨plainId_quiet F.plain_tuple_new _, codeAny_builtin F.entry_tuple_new ?_⟩))
  rw [Around.under_plainId F.plain_tuple_new _]
  have hsub := sub_tuple_self
  have hinit := init_tuple_lookup
  have hmh := madeHere_tuple
  have hTy : s.TypeIs (.ref z) "zip" := ⟨_, hz, rfl⟩
  have hh1 : A.in1.handled = none := hh
  wp_walk using wpAny_typeOf hTy, collectZ (A := A.in1) hh1 Dp Bl n hnx hny hn hz hTI hTO h1 h2 hl1 hl2
  intro h' tk as hk hl hG
  show wpAny _ _ (Builtin.Tuple.tupleExact (as.map Value.ref).toArray >>= fun v => ret v) _ _ _
  unfold Builtin.Tuple.tupleExact
  refine wpAny_bind (wpAny_newObj_type ?_ (by show (as.map Value.ref).toArray.size ≤ sizeLine; rw [List.size_toArray, List.length_map, hl]; exact hn))
  exact wpAny_pure (h h' tk as hk hl hG)
theorem call_tuple_zip {Q : Value → Shared → Prop} (hh : A.handled = none) (Dp : ZipApart z TI TO i1 i2 l1 l2) (Bl : Below z TI TO i1 i2 l1 l2 s.heap.objs.size) (n : Nat) (hnx : xs.size = n) (hny : ys.size = n) (hn : n ≤ sizeLine)
    (hz : IsZip s.heap z TI TO .none) (hTI : IsPair s.heap TI (.ref i1) (.ref i2)) {a b : Value} (hTO : IsPair s.heap TO a b) (h1 : s.heap.IsListIter i1 l1 0) (h2 : s.heap.IsListIter i2 l2 0) (hl1 : s.heap.IsList l1 xs) (hl2 : s.heap.IsList l2 ys)
    (hQ : ∀ h' tk as, (∀ b o, b ≠ z → b ≠ TO → b ≠ i1 → b ≠ i2 → s.heap.get? b = some o → h'.get? b = some o) → as.length = n → MadeZ xs ys s.heap.objs.size h' as →
      Q (.ref h'.objs.size) { s with heap := h'.push { cls := .type "tuple", data := .seq (as.map Value.ref).toArray }, toks := tk }) :
    wpAny (model prog w) A (call (.type "tuple") [.ref z]) Q E s := by
  refine callType_codes (Q₁ := fun obj s₁ => s₁.TypeIs obj "tuple" ∧ Q obj s₁) F.called_tuple (F.typeCall_tuple_1 _) F.entry_object_init
    (code_tuple_new_zip (A := A.in1) hh Dp Bl n hnx hny hn hz hTI hTO h1 h2 hl1 hl2 fun h' tk as hk hl hG => ⟨⟨_, Heap.get?_push_size _ rfl, rfl⟩, hQ h' tk as hk hl hG⟩) fun obj s₁ h₁ => ?_
  exact ⟨h₁.1, F.args_object_init_2 obj _, object_init_meets F.called_tuple.init.lookup F.called_tuple.made (by decide) prog w A.in1 _ s₁ ⟨h₁.1, rfl, h₁.2⟩⟩
end
end ZT
namespace L2
open PySem PySem.Spec PyProof.Rows ZT
/-- tuple(zip(a, b)), two lists of one length: a new tuple of new pairs -/
def tTupZip (K : PySem.W.Frag) (ta : TA) : TE := fun σ H Q => ta σ H fun vs H1 => ∃ a b xs ys, vs = [.ref a, .ref b] ∧ SqL K H1 a xs ∧ SqL K H1 b ys ∧ xs.length = ys.length ∧
  ∀ (H' : Hp) (p : Addr) (as : List Addr), (∀ b o, H1 b = some o → H' b = some o) → H1 p = none → as.length = xs.length → H' p = some (.tup (as.map V.ref)) → (∀ (j : Nat) (c : Addr), as[j]? = some c → ∃ x y, xs[j]? = some x ∧ ys[j]? = some y ∧ H' c = some (.tup [x, y])) → Q (.ref p) H'
theorem pe_tupZip {X : Cx} {e e2 : Expr} {ta : TA} {p p2 pos pos2 : Pos} (hc : X.calm = true) (hg : Gl X "zip") (hm : X.mg "zip" = none) (hgt : Gl X "tuple") (hmt : X.mg "tuple" = none) (ha : PA X [e, e2] ta)
    (hs : starEach [e, e2] X.env = (false, eval e X.env) :: starEach [e2] X.env := by rfl) (hpl : (backTo pos2 (starEach [e2] X.env)).any (·.1) = false := by rfl)
    (hs2 : starEach [.Call (.Name "zip" p2) [e, e2] [] pos2] X.env = (false, eval (.Call (.Name "zip" p2) [e, e2] [] pos2) X.env) :: starEach [] X.env := by rfl) :
    PE X (.Call (.Name "tuple" p) [.Call (.Name "zip" p2) [e, e2] [] pos2] [] pos) (tTupZip X.K ta) := by
  refine ⟨fun pins s σ H Q I h => ?_⟩
  refine Call_ (ld_blt I hgt hmt boot_tuple (PyProof.Rows.callWith_type1 ?_ hs2 rfl))
  rw [hs2]
  show wpAny _ _ (spliced ((false, eval (.Call (.Name "zip" p2) [e, e2] [] pos2) X.env) :: backTo pos (starEach [] X.env))) _ _ s
  refine Calls.spliced_cons ?_
  refine Call_ (ld_blt I hg hm PyProof.Rows.boot_zip (PyProof.Rows.callWith_type1 (thn (ha.run pos2 pins s σ H _ I h) fun us s1 ⟨vs, H1, I1, r1, q1⟩ => ?_) hs hpl))
  obtain ⟨a, b, xs, ys, ex, hqx, hqy, hxy, q⟩ := q1
  subst ex
  cases r1 with
  | cons r rr =>
    cases rr with
    | cons r' rr =>
      cases rr
      cases r
      cases r'
      obtain ⟨its, rv, p1, z1⟩ := I1.list hqx
      obtain ⟨its2, rv2, p2, z2⟩ := I1.list hqy
      have la : a < s1.heap.objs.size := p1.lt
      have lb : b < s1.heap.objs.size := p2.lt
      have hh : X.A.handled = none := I1.ok.hd hc
      refine call_zip_2 p1.isList p2.isList fun h' hz hTI hTO h1 h2 hsz hk => Calls.spliced_nil ?_
      have ln1 : its.toArray.size = xs.length := by rw [List.size_toArray]; exact rv.length.symm
      have ln2 : its2.toArray.size = xs.length := by rw [List.size_toArray, hxy]; exact rv2.length.symm
      refine call_tuple_zip (s := { s1 with heap := h' }) hh (PySem.W.ktu_apart s1.heap.objs.size a b la lb) ?_ xs.length ln1 ln2 z1 hz hTI hTO h1 h2 (p1.isList.at fun o e => hk _ o e) (p2.isList.at fun o e => hk _ o e) fun h2' tk as hk2 hl hG => ?_
      · show Below _ _ _ _ _ _ _ h'.objs.size
        rw [hsz]
        constructor <;> first | omega | (show (_ : Nat) < _; omega) | exact Nat.lt_of_lt_of_le la (Nat.le_add_right _ _) | exact Nat.lt_of_lt_of_le lb (Nat.le_add_right _ _)
      · dsimp only at hk2 hG ⊢
        have h2le : s1.heap.objs.size ≤ h'.objs.size := by rw [hsz]; exact Nat.le_add_right _ _
        have kS : ∀ b o, s1.heap.get? b = some o → h2'.get? b = some o := fun b o e => by
          have hb : b < s1.heap.objs.size := Heap.lt_size e
          exact hk2 b o (Nat.ne_of_lt (Nat.lt_of_lt_of_le hb (Nat.le_add_right _ _))) (Nat.ne_of_lt (Nat.lt_of_lt_of_le hb (Nat.le_add_right _ _))) (Nat.ne_of_lt hb) (Nat.ne_of_lt (Nat.lt_of_lt_of_le hb (Nat.le_add_right _ _))) (hk b o e)
        have kP : ∀ b o, h2'.get? b = some o → (h2'.push { cls := .type "tuple", data := .seq (as.map Value.ref).toArray }).get? b = some o := fun b o e => Heap.get?_push_of_some _ e
        have hp : (h2'.push { cls := .type "tuple", data := .seq (as.map Value.ref).toArray }).get? h2'.objs.size = some { cls := .type "tuple", data := .seq (as.map Value.ref).toArray } := Heap.get?_push_size _ rfl
        have Dp := PySem.W.ktu_apart s1.heap.objs.size a b la lb
        have szS : s1.heap.objs.size ≤ h2'.objs.size := Nat.le_trans (Nat.le_add_right _ 2) (Nat.le_of_lt (Heap.lt_size (hk2 _ _ Dp.TIz Dp.TITO Dp.TIi1 Dp.TIi2 hTI)))
        generalize hh3 : h2'.push { cls := .type "tuple", data := .seq (as.map Value.ref).toArray } = h3 at kP hp ⊢
        have I3 : Inv X pins σ H1 { s1 with heap := h3, toks := tk } := I1.kept (t' := tk) fun b o e => kP b o (kS b o e)
        have nd : as.Nodup := List.Pairwise.imp (fun h => Nat.ne_of_lt h) hG.rise
        have pr : ∀ (j : Nat) (c : Addr), as[j]? = some c → ∃ (x y : V) (u v : Value), xs[j]? = some x ∧ ys[j]? = some y ∧ RelV x u ∧ RelV y v ∧ h2'.get? c = some { cls := .type "tuple", data := .seq #[u, v] } := by
          intro j c hj
          obtain ⟨u, v, e1, e2, e3⟩ := hG.pairs j c hj
          rw [List.getElem?_toArray] at e1 e2
          obtain ⟨x, ex, rx⟩ := DX.pget rv e1
          obtain ⟨y, ey, ry⟩ := DX.pget rv2 e2
          exact ⟨x, y, u, v, ex, ey, rx, ry, e3⟩
        have hnp : H1 h2'.objs.size = none := I1.hok.fresh szS
        have I4 : Inv X pins σ (upd H1 h2'.objs.size (.tup (as.map V.ref))) { s1 with heap := h3, toks := tk } :=
          I3.take (h' := h3) (t' := tk) (fun b ob _ e => e) (I1.fpOk szS hnp) ⟨by rw [List.length_map, hl]; exact z1, as.map Value.ref, vals_maps (fun c : Addr => V.ref c) (fun c => Value.ref c) as fun _ _ => rfl, ⟨_, hp, rfl, 0, rfl⟩⟩
        obtain ⟨H2, I5, g, qt⟩ := DX.takeT (P := fun c vs => ∃ (j : Nat) (x y : V), as[j]? = some c ∧ xs[j]? = some x ∧ ys[j]? = some y ∧ vs = [x, y]) I1 as _ I4 nd fun c hc => by
          obtain ⟨j, hj⟩ := List.mem_iff_getElem?.mp hc
          obtain ⟨x, y, u, v, ex, ey, rx, ry, hg⟩ := pr j c hj
          have hcl : s1.heap.objs.size ≤ c := Nat.le_trans h2le (Nat.le_of_lt (hG.above c hc))
          refine ⟨hcl, ?_, [x, y], ⟨j, x, y, hj, ex, ey, rfl⟩, fun H3 => ⟨(by rw [sizeLine_eq]; show 2 ≤ 16777216; omega), [u, v], .cons rx (.cons ry .nil), ⟨_, kP _ _ hg, rfl, 0, rfl⟩⟩⟩
          rw [upd_ne (Nat.ne_of_lt (hG.there hc))]
          exact I1.hok.fresh hcl
        refine ⟨.ref h2'.objs.size, H2, I5, rfl, q _ _ as (fun b o e => g b o (by rw [upd_ne (ne_of_none e hnp)]; exact e)) hnp hl (g _ _ upd_same) fun j c hj => ?_⟩
        obtain ⟨vs, ⟨i, x, y, i1, i2, i3, ev⟩, hH⟩ := qt c (List.mem_of_getElem? hj)
        have eij : i = j := (List.getElem?_inj (List.getElem?_eq_some_iff.mp i1).1 nd).mp (i1.trans hj.symm)
        subst eij
        rw [ev] at hH
        exact ⟨x, y, i2, i3, hH⟩
end L2
namespace MP
open PySem PySem.Spec PyProof.Rows L2
def tupZipS : List Sl → Option Sl
  | [x, y] => match x.items?, y.items? with
    | some ds, some es => if ds.length = es.length then some (.val (.tup (zipD ds es))) else none
    | _, _ => none
  | _ => none
theorem tupZip_own (ds es : List D) : tupZipS [.own ds, .own es] = if ds.length = es.length then some (.val (.tup (zipD ds es))) else none := rfl
theorem tupZip_bor (ds es : List D) : tupZipS [.bor ds, .bor es] = if ds.length = es.length then some (.val (.tup (zipD ds es))) else none := rfl
theorem reps_zip {K : PySem.W.Frag} {H H' : Hp} (s : Stab H H') : ∀ {as : List Addr} {xs ys : List V} {ds es : List D}, Reps K H xs ds → Reps K H ys es → ds.length = es.length → as.length = xs.length →
    (∀ (j : Nat) (c : Addr), as[j]? = some c → ∃ x y, xs[j]? = some x ∧ ys[j]? = some y ∧ H' c = some (.tup [x, y])) → Reps K H' (as.map V.ref) (zipD ds es)
  | [], _, _, _, _, .nil, .nil, _, _, _ => .nil
  | a :: as, _, _, _, _, .cons r1 t1, .cons r2 t2, hl, hl2, h => by
    obtain ⟨x, y, e1, e2, e3⟩ := h 0 a rfl
    cases e1
    cases e2
    exact .cons (.tup (SqT.of e3) (.cons (r1.st s) (.cons (r2.st s) .nil))) (reps_zip s t1 t2 (by simpa using hl) (by simpa using hl2) fun j c hj => h (j + 1) c (by simpa using hj))
  | _ :: _, _, _, _, _, .nil, .nil, _, hl, _ => by simp at hl
  | _, _, _, _, _, .nil, .cons _ _, hl, _, _ => by simp at hl
  | _, _, _, _, _, .cons _ _, .nil, hl, _, _ => by simp at hl
  | [], _, _, _, _, .cons _ _, .cons _ _, _, hl, _ => by simp at hl
section
variable {X : Cx} {c : Ct} {W : WX} {e e2 : Expr} {fs : List Ev} {p p2 pos pos2 : Pos}
theorem v_tupZip (hmt : X.mg "tuple" = none) (hm : X.mg "zip" = none) (ha : PAv X c W [e, e2] fs) (hc : X.calm = true := by rfl) (hg : Gl X "zip" := by rfl) (hgt : Gl X "tuple" := by rfl)
    (hs : starEach [e, e2] X.env = (false, eval e X.env) :: starEach [e2] X.env := by rfl) (hpl : (backTo pos2 (starEach [e2] X.env)).any (·.1) = false := by rfl)
    (hs2 : starEach [.Call (.Name "zip" p2) [e, e2] [] pos2] X.env = (false, eval (.Call (.Name "zip" p2) [e, e2] [] pos2) X.env) :: starEach [] X.env := by rfl) :
    PEv X c W (.Call (.Name "tuple" p) [.Call (.Name "zip" p2) [e, e2] [] pos2] [] pos) (callE tupZipS fs) := by
  refine ⟨pe_mono (pe_tupZip hc hg hm hgt hmt ha.pa hs hpl hs2) ?_⟩
  rintro σ H Q ⟨B, tp, env, ta, RS, h⟩
  refine ⟨B, tp, env, ta, RS, ?_⟩
  unfold callE at h
  cases q : evs fs env ta with
  | none => rw [q] at h; exact h
  | some z =>
    obtain ⟨rs, t⟩ := z
    rw [q] at h
    cases rs with
    | error x => exact h
    | ok rs =>
      dsimp only at h
      intro vs H1 R1 K1 VS
      cases ez : tupZipS rs with
      | none => rw [ez] at h; exact h.elim
      | some z =>
        rw [ez] at h
        unfold tupZipS at ez
        split at ez
        · rename_i x y
          split at ez
          · rename_i ds es ex ey
            split at ez
            · rename_i hl
              cases ez
              cases VS with
              | cons V1 VS =>
                cases VS with
                | cons V2 VS =>
                  cases VS
                  obtain ⟨a, xs, rfl, s1, r1⟩ := V1.list ex
                  obtain ⟨b, ys, rfl, s2, r2⟩ := V2.list ey
                  refine ⟨a, b, xs, ys, rfl, s1, s2, by rw [r1.length, r2.length]; exact hl, fun H' p as sm hp hla ht hj => ?_⟩
                  exact EPost.same R1 (h.later K1) sm (Rep.tup (SqT.of ht) (reps_zip (.of_same sm) r1 r2 hl hla hj))
            · cases ez
          · cases ez
        · cases ez
end
end MP
namespace MP
open PySem PySem.Spec PyProof.Rows L2
/-! a list times an int -/
def repS : Sl → Sl → Option Sl
  | .own ds, .val (.int k) => if 0 ≤ k ∧ k < 2 ^ 62 ∧ ds.length * k.toNat ≤ LIM then some (.own (List.replicate k.toNat ds).flatten) else none
  | .bor ds, .val (.int k) => if 0 ≤ k ∧ k < 2 ^ 62 ∧ ds.length * k.toNat ≤ LIM then some (.own (List.replicate k.toNat ds).flatten) else none
  | _, _ => none
theorem ok_rep {K : PySem.W.Frag} {c : Ct} : OpOk K c rRep repS := by
  intro tp H0 H1 H v u x y z Q nv hx hy e k
  have go : ∀ (a : Addr) (xs : List V) (ds : List D) (k' : Int), H a = some (.lst xs) → Reps K H xs ds → 0 ≤ k' → k' < 2 ^ 62 → ds.length * k'.toNat ≤ LIM → (∀ w H', Same H H' → RepV K c tp H H' w (.own (List.replicate k'.toNat ds).flatten) → Q w H') → rRep (.ref a) (.int k') H Q :=
    fun a xs ds k' ha r h0 h1 hl kk => ⟨a, k', xs, rfl, rfl, ha, by omega, by omega, by rw [r.length]; exact lim_line hl, fun p hp => kk _ _ (Same.new hp) (RepV.newL hp (nv _ hp) (r.flat _))⟩
  unfold repS at e
  split at e
  · split at e
    · rename_i hk
      cases e
      obtain ⟨a, xs, rfl, n, nv', ha, r⟩ := hx
      cases (show Rep K H u (.int _) from hy)
      exact go a xs _ _ ha r hk.1 hk.2.1 hk.2.2 k
    · cases e
  · split at e
    · rename_i hk
      cases e
      obtain ⟨a, xs, rfl, ha, nv', r⟩ := hx
      cases (show Rep K H u (.int _) from hy)
      exact go a xs _ _ ha r hk.1 hk.2.1 hk.2.2 k
    · cases e
  · cases e
end MP

/-! MPy: data are equal to themselves; lists of bools; lists of pairs of ints. -/
namespace MP
open PySem
mutual
/-- no texts in it -/
def D.ns : D → Bool
  | .str _ => false
  | .tup ds => nss ds
  | .lst ds => nss ds
  | _ => true
def nss : List D → Bool
  | [] => true
  | d :: ds => d.ns && nss ds
end
mutual
theorem canLay_py : ∀ d : D, d.ns = true → PyData.canLay0 d.py = true
  | .non, _ => rfl
  | .bl _, _ => rfl
  | .int _, _ => rfl
  | .str _, h => by simp [D.ns] at h
  | .tup ds, h => by simp [D.py, PyData.canLay0, canLay_pys ds (by simpa [D.ns] using h)]
  | .lst ds, h => by simp [D.py, PyData.canLay0, canLay_pys ds (by simpa [D.ns] using h)]
theorem canLay_pys : ∀ ds : List D, nss ds = true → PyData.canLayAll0 (pys ds) = true
  | [], _ => rfl
  | d :: ds, h => by
    simp [nss] at h
    simp [pys, PyData.canLayAll0, canLay_py d h.1, canLay_pys ds h.2]
end
theorem nss_of {ds : List D} (h : ∀ d ∈ ds, d.ns = true) : nss ds = true := by
  induction ds with
  | nil => rfl
  | cons d ds ih => simp [nss, h d List.mem_cons_self, ih fun x hx => h x (List.mem_cons_of_mem _ hx)]
theorem nss_ints (l : List Int) : nss (l.map D.int) = true := nss_of fun d hd => by
  obtain ⟨i, _, rfl⟩ := List.mem_map.mp hd
  rfl
mutual
theorem eqv_self : ∀ d : D, PyData.eqv d.py d.py = true
  | .non => by simp [D.py, PyData.eqv]
  | .bl b => by cases b <;> simp [D.py, PyData.eqv]
  | .int _ => by simp [D.py, PyData.eqv]
  | .str _ => by simp [D.py, PyData.eqv]
  | .tup ds => by simp [D.py, PyData.eqv, eqv_selfs ds]
  | .lst ds => by simp [D.py, PyData.eqv, eqv_selfs ds]
theorem eqv_selfs : ∀ ds : List D, PyData.eqvAll (pys ds) (pys ds) = true
  | [] => by simp [pys, PyData.eqvAll]
  | d :: ds => by simp [pys, PyData.eqvAll, eqv_self d, eqv_selfs ds]
end
theorem shaped_py (d : D) (hn : d.ns = true) (h : d.py.depth ≤ 64) : SeqAt.shaped d.py = true := by
  unfold SeqAt.shaped
  rw [canLay_py d hn, decide_eq_true h]
  rfl
theorem ne_self (d : D) (hn : d.ns = true) (h : d.py.depth ≤ 64) : neS (.val d) (.val d) = some (.val (.bl false)) := by
  unfold neS eqC
  simp only [Sl.dat?]
  rw [if_pos ⟨shaped_py d hn h, shaped_py d hn h⟩, eqv_self]
  rfl
theorem ne_selfB (ds : List D) (hn : nss ds = true) (h : (D.lst ds).py.depth ≤ 64) : neS (.bor ds) (.bor ds) = some (.val (.bl false)) := ne_self (.lst ds) (by simpa [D.ns] using hn) h
theorem ne_selfO (ds : List D) (hn : nss ds = true) (h : (D.lst ds).py.depth ≤ 64) : neS (.own ds) (.own ds) = some (.val (.bl false)) := ne_self (.lst ds) (by simpa [D.ns] using hn) h
theorem depth_all {ds : List D} {n : Nat} (h : ∀ d ∈ ds, d.py.depth ≤ n) : PyData.depthAll (pys ds) ≤ n := by
  induction ds with
  | nil => simp [pys, PyData.depthAll]
  | cons d ds ih =>
    have h1 := h d List.mem_cons_self
    have h2 := ih fun x hx => h x (List.mem_cons_of_mem _ hx)
    simp [pys, PyData.depthAll]
    omega
theorem depth_tup {ds : List D} {n : Nat} (h : ∀ d ∈ ds, d.py.depth ≤ n) : (D.tup ds).py.depth ≤ n + 1 := by
  have := depth_all h
  simp [D.py, PyData.depth]
  omega
theorem depth_lst {ds : List D} {n : Nat} (h : ∀ d ∈ ds, d.py.depth ≤ n) : (D.lst ds).py.depth ≤ n + 1 := by
  have := depth_all h
  simp [D.py, PyData.depth]
  omega
theorem depth_int (i : Int) : (D.int i).py.depth ≤ 0 := by simp [D.py, PyData.depth]
theorem depth_pair (i j : Int) : (D.tup [.int i, .int j]).py.depth ≤ 1 := depth_tup fun d hd => by
  simp at hd
  rcases hd with rfl | rfl <;> exact depth_int _
theorem depth_ints0 (l : List Int) : (D.tup (l.map D.int)).py.depth ≤ 1 := depth_tup fun d hd => by
  obtain ⟨i, _, rfl⟩ := List.mem_map.mp hd
  exact depth_int _
/-! bools -/
theorem all_own (bs : List Bool) : allS [.own (bs.map D.bl)] = some (.val (.bl (bs.all id))) := by
  unfold allS onBls
  simp [bls?_map]
theorem any_own (bs : List Bool) : anyS [.own (bs.map D.bl)] = some (.val (.bl (bs.any id))) := by
  unfold anyS onBls
  simp [bls?_map]
/-! pairs -/
def pD (e : Int × Int) : D := .tup [.int e.1, .int e.2]
theorem eqv_pair (e f : Int × Int) : PyData.eqv (pD e).py (pD f).py = decide (e = f) := by
  obtain ⟨a, b⟩ := e
  obtain ⟨c, d⟩ := f
  simp [pD, D.py, pys, PyData.eqv, PyData.eqvAll]
  by_cases h : a = c <;> by_cases k : b = d <;> simp [h, k]
theorem depth_pD (e : Int × Int) : (pD e).py.depth ≤ 1 := depth_pair _ _
theorem any_pair (e : Int × Int) : ∀ L : List (Int × Int), ((pys (L.map pD)).any fun z => PyData.eqv z (pD e).py) = decide (e ∈ L)
  | [] => by simp [pys]
  | f :: L => by
    rw [List.map_cons, pys, List.any_cons, eqv_pair, any_pair e L]
    by_cases h : f = e
    · simp [h]
    · have h' : ¬ e = f := fun z => h z.symm
      simp [h, h']
theorem nin_pairs (e : Int × Int) (L : List (Int × Int)) : ninS (.val (pD e)) (.bor (L.map pD)) = some (.val (.bl (!decide (e ∈ L)))) := by
  unfold ninS inC
  have h1 : SeqAt.shaped (pD e).py = true := shaped_py _ rfl (Nat.le_trans (depth_pD e) (by decide))
  have h2 : SeqAt.shaped (.list (pys (L.map pD))) = true := shaped_py (.lst (L.map pD)) (show nss _ = true from nss_of fun d hd => by
    obtain ⟨f, _, rfl⟩ := List.mem_map.mp hd
    rfl) (Nat.le_trans (depth_lst (n := 1) fun d hd => by
    obtain ⟨f, _, rfl⟩ := List.mem_map.mp hd
    exact depth_pD f) (by decide))
  simp [h1, h2, any_pair]
end MP

namespace MP
open PySem PySem.Spec PyProof.Rows L2
namespace K57
def top (i : Nat) : Stmt := PySem.Challenge.pw_secrethall_k57_whole_rings_and_hands_tha.main.body.getD i (.Pass ⟨0, 0, 0, 0⟩)
def FUEL : Nat := 100000
/-! _law_begin(script): 0 script, 1 seed, 2 cell -/
def N__law_begin : List Str := ["script", "seed", "cell"]
def C__law_begin : Cs :=
  (seqC (asgC 1 (cstE (.int 1)))
  (seqC (forC (seqF (varE 0)) (.one 2) (asgC 1 (binE modS (binE addS (binE addS (binE mulS (varE 1) (cstE (.int 69621))) (binE modS (callE intS [(varE 2)]) (cstE (.int 2147483629)))) (cstE (.int 7))) (cstE (.int 2147483647)))))
  (retC (lstE [(escE (callE listS [(varE 0)])), (cstE (.int 0)), (cstE (.int 0)), (varE 1)]))))
def F__law_begin : Fn := defF 3 C__law_begin
/-! _law_take(d, many): 0 d, 1 many, 2 small, 3 digit -/
def N__law_take : List Str := ["d", "many", "small", "digit"]
def C__law_take : Cs :=
  (seqC (ifC (andT (ofE (binE eqS (tgetE 0 2) (cstE (.int 0)))) (ofE (binE ltS (tgetE 0 1) (callE lenS [(tgetE 0 0)])))) (seqC (tsetC 0 2 (callE absS [(callE intS [(binE ixS (tgetE 0 0) (tgetE 0 1))])]))
  (seqC (tsetC 0 1 (binE addS (tgetE 0 1) (cstE (.int 1))))
  (ifC (ofE (binE ltS (tgetE 0 2) (binE powS (cstE (.int 10)) (cstE (.int 18))))) (seqC (asgC 2 (callE intS [(tgetE 0 2)]))
  (seqC (tsetC 0 2 (cstE (.int 0)))
  (retC (binE modS (varE 2) (varE 1))))) skipC))) skipC)
  (seqC (ifC (ofE (binE gtS (tgetE 0 2) (cstE (.int 0)))) (seqC (asgC 3 (binE modS (callE intS [(tgetE 0 2)]) (varE 1)))
  (seqC (tsetC 0 2 (binE fdivS (callE intS [(tgetE 0 2)]) (varE 1)))
  (retVC 3))) skipC)
  (seqC (tsetC 0 3 (binE modS (callE intS [(binE addS (binE mulS (tgetE 0 3) (cstE (.int 48271))) (cstE (.int 11)))]) (cstE (.int 2147483647))))
  (retC (binE modS (callE intS [(binE fdivS (tgetE 0 3) (cstE (.int 3)))]) (varE 1))))))
def F__law_take : Fn := defF 4 C__law_take
/-! _law_group(d): 0 d, 1 rows -/
def N__law_group : List Str := ["d", "rows"]
def C__law_group : Cs :=
  (seqC (asgC 1 (lstE [(tupE [(cstE (.int 5)), (cstE (.int 2)), (cstE (.int 4))]), (tupE [(cstE (.int 7)), (cstE (.int 3)), (cstE (.int 2))]), (tupE [(cstE (.int 11)), (cstE (.int 5)), (cstE (.int 3))]), (tupE [(cstE (.int 13)), (cstE (.int 3)), (cstE (.int 3))]), (tupE [(cstE (.int 23)), (cstE (.int 11)), (cstE (.int 2))]), (tupE [(cstE (.int 29)), (cstE (.int 7)), (cstE (.int 7))]), (tupE [(cstE (.int 31)), (cstE (.int 5)), (cstE (.int 2))]), (tupE [(cstE (.int 47)), (cstE (.int 23)), (cstE (.int 2))]), (tupE [(cstE (.int 7)), (cstE (.int 2)), (cstE (.int 6))]), (tupE [(cstE (.int 3)), (cstE (.int 2)), (cstE (.int 2))])]))
  (retC (binE ixS (varE 1) (callF F__law_take [(varE 0), (cstE (.int 10))]))))
def F__law_group : Fn := defF 2 C__law_group
/-! is_prime(number): 0 number, 1 one -/
def N_is_prime : List Str := ["number", "one"]
def C_is_prime : Cs :=
  (seqC (ifC (ofE (binE ltS (varE 0) (cstE (.int 2)))) (retC (cstE (.bl false))) skipC)
  (seqC (asgC 1 (cstE (.int 2)))
  (seqC (whileC (ofE (binE leS (binE mulS (varE 1) (varE 1)) (varE 0))) (seqC (ifC (ofE (binE eqS (binE modS (varE 0) (varE 1)) (cstE (.int 0)))) (retC (cstE (.bl false))) skipC)
  (augC 1 iaddS (cstE (.int 1)))) FUEL)
  (retC (cstE (.bl true))))))
def F_is_prime : Fn := defF 2 C_is_prime
/-! power_in(p, base, times): 0 p, 1 base, 2 times, 3 found -/
def N_power_in : List Str := ["p", "base", "times", "found"]
def C_power_in : Cs :=
  (seqC (asgC 3 (cstE (.int 1)))
  (seqC (augC 1 modS (varE 0))
  (seqC (whileC (ofE (binE gtS (varE 2) (cstE (.int 0)))) (seqC (ifC (ofE (binE eqS (binE modS (varE 2) (cstE (.int 2))) (cstE (.int 1)))) (asgC 3 (binE modS (binE mulS (varE 3) (varE 1)) (varE 0))) skipC)
  (seqC (asgC 1 (binE modS (binE mulS (varE 1) (varE 1)) (varE 0)))
  (augC 2 fdivS (cstE (.int 2))))) FUEL)
  (retVC 3))))
def F_power_in : Fn := defF 4 C_power_in
/-! check(group): 0 group, 1 p, 2 q, 3 g -/
def N_check : List Str := ["group", "p", "q", "g"]
def C_check : Cs :=
  (seqC (unpC [1, 2, 3] (varE 0))
  (seqC (ifC (orT (notT (ofE (chainE leS leS (cstE (.int 3)) (varE 1) (cstE (.int 400))))) (notT (ofE (callF F_is_prime [(varE 1)])))) neverC skipC)
  (seqC (ifC (orT (notT (ofE (callF F_is_prime [(varE 2)]))) (ofE (binE neS (binE modS (binE subS (varE 1) (cstE (.int 1))) (varE 2)) (cstE (.int 0))))) neverC skipC)
  (ifC (orT (notT (ofE (chainE leS ltS (cstE (.int 2)) (varE 3) (varE 1)))) (ofE (binE neS (callF F_power_in [(varE 1), (varE 3), (varE 2)]) (cstE (.int 1))))) neverC skipC))))
def F_check : Fn := defF 4 C_check
/-! check_oracle(group, oracle): 0 group, 1 oracle, 2 one -/
def N_check_oracle : List Str := ["group", "oracle", "one"]
def C_check_oracle : Cs :=
  (seqC (dropC (callF F_check [(varE 0)]))
  (ifC (orT (notT (ofE (chainE leS leS (cstE (.int 1)) (callE lenS [(varE 1)]) (cstE (.int 200))))) (notT (ofE (callE allS [(compE (seqI (varE 1)) [2] (.one 2) yesT (chainE leS ltS (cstE (.int 0)) (varE 2) (binE ixS (varE 0) (cstE (.int 1)))))])))) neverC skipC))
def F_check_oracle : Fn := defF 3 C_check_oracle
/-! check_key(group, key): 0 group, 1 key -/
def N_check_key : List Str := ["group", "key"]
def C_check_key : Cs :=
  (seqC (dropC (callF F_check [(varE 0)]))
  (ifC (notT (ofE (chainE leS ltS (cstE (.int 0)) (varE 1) (binE ixS (varE 0) (cstE (.int 1)))))) neverC skipC))
def F_check_key : Fn := defF 2 C_check_key
/-! check_message(message): 0 message -/
def N_check_message : List Str := ["message"]
def C_check_message : Cs :=
  (ifC (ofE (binE ltS (varE 0) (cstE (.int 0)))) neverC skipC)
def F_check_message : Fn := defF 1 C_check_message
/-! asked_of(group, oracle, first, message): 0 group, 1 oracle, 2 first, 3 message -/
def N_asked_of : List Str := ["group", "oracle", "first", "message"]
def C_asked_of : Cs :=
  (seqC (dropC (callF F_check_oracle [(varE 0), (varE 1)]))
  (seqC (dropC (callF F_check_message [(varE 3)]))
  (retC (binE ixS (varE 1) (binE modS (binE addS (binE mulS (varE 2) (cstE (.int 13))) (binE mulS (varE 3) (cstE (.int 29)))) (callE lenS [(varE 1)]))))))
def F_asked_of : Fn := defF 4 C_asked_of
/-! sign(group, oracle, key, message, drawn): 0 group, 1 oracle, 2 key, 3 message, 4 drawn, 5 first, 6 asked -/
def N_sign : List Str := ["group", "oracle", "key", "message", "drawn", "first", "asked"]
def C_sign : Cs :=
  (seqC (dropC (callF F_check_oracle [(varE 0), (varE 1)]))
  (seqC (dropC (callF F_check_key [(varE 0), (varE 2)]))
  (seqC (dropC (callF F_check_message [(varE 3)]))
  (seqC (dropC (callF F_check_key [(varE 0), (varE 4)]))
  (seqC (asgC 5 (callF F_power_in [(binE ixS (varE 0) (cstE (.int 0))), (binE ixS (varE 0) (cstE (.int 2))), (varE 4)]))
  (seqC (asgC 6 (callF F_asked_of [(varE 0), (varE 1), (varE 5), (varE 3)]))
  (retC (tupE [(varE 6), (binE modS (binE addS (varE 4) (binE mulS (varE 6) (varE 2))) (binE ixS (varE 0) (cstE (.int 1))))]))))))))
def F_sign : Fn := defF 7 C_sign
/-! together(group, oracle, keys, message, draws): 0 group, 1 oracle, 2 keys, 3 message, 4 draws, 5 key, 6 drawn, 7 p, 8 q, 9 g, 10 firsts, 11 first, 12 one, 13 asked, 14 answers -/
def N_together : List Str := ["group", "oracle", "keys", "message", "draws", "key", "drawn", "p", "q", "g", "firsts", "first", "one", "asked", "answers"]
def C_together : Cs :=
  (seqC (dropC (callF F_check_oracle [(varE 0), (varE 1)]))
  (seqC (ifC (orT (notT (ofE (chainE leS leS (cstE (.int 1)) (callE lenS [(varE 2)]) (cstE (.int 6))))) (ofE (binE neS (callE lenS [(varE 4)]) (callE lenS [(varE 2)])))) neverC skipC)
  (seqC (forC (seqF (varE 2)) (.one 5) (dropC (callF F_check_key [(varE 0), (varE 5)])))
  (seqC (dropC (callF F_check_message [(varE 3)]))
  (seqC (forC (seqF (varE 4)) (.one 6) (dropC (callF F_check_key [(varE 0), (varE 6)])))
  (seqC (unpC [7, 8, 9] (varE 0))
  (seqC (asgC 10 (compE (seqI (varE 4)) [6] (.one 6) yesT (callF F_power_in [(varE 7), (varE 9), (varE 6)])))
  (seqC (asgC 11 (cstE (.int 1)))
  (seqC (seqC (frzC 10) (forC (seqF (varE 10)) (.one 12) (asgC 11 (binE modS (binE mulS (varE 11) (varE 12)) (varE 7)))))
  (seqC (asgC 13 (callF F_asked_of [(varE 0), (varE 1), (varE 11), (varE 3)]))
  (seqC (asgC 14 (compE (argI (zipS false) [(varE 2), (varE 4)]) [5, 6] (.tup [5, 6]) yesT (binE modS (binE addS (varE 6) (binE mulS (varE 13) (varE 5))) (varE 8))))
  (retC (tupE [(callE tupZipS [(varE 10), (varE 14)]), (tupE [(varE 13), (binE modS (callE sumAS [(varE 14)]) (varE 8))])])))))))))))))
def F_together : Fn := defF 15 C_together
/-! check_member(group, one): 0 group, 1 one -/
def N_check_member : List Str := ["group", "one"]
def C_check_member : Cs :=
  (seqC (dropC (callF F_check [(varE 0)]))
  (ifC (orT (notT (ofE (chainE leS ltS (cstE (.int 1)) (varE 1) (binE ixS (varE 0) (cstE (.int 0)))))) (ofE (binE neS (callF F_power_in [(binE ixS (varE 0) (cstE (.int 0))), (varE 1), (binE ixS (varE 0) (cstE (.int 1)))]) (cstE (.int 1))))) neverC skipC))
def F_check_member : Fn := defF 2 C_check_member
/-! check_ring(group, publics): 0 group, 1 publics, 2 public -/
def N_check_ring : List Str := ["group", "publics", "public"]
def C_check_ring : Cs :=
  (seqC (dropC (callF F_check [(varE 0)]))
  (seqC (ifC (notT (ofE (chainE leS leS (cstE (.int 1)) (callE lenS [(varE 1)]) (cstE (.int 6))))) neverC skipC)
  (forC (seqF (varE 1)) (.one 2) (dropC (callF F_check_member [(varE 0), (varE 2)])))))
def F_check_ring : Fn := defF 3 C_check_ring
/-! public_of(group, key): 0 group, 1 key -/
def N_public_of : List Str := ["group", "key"]
def C_public_of : Cs :=
  (seqC (dropC (callF F_check_key [(varE 0), (varE 1)]))
  (retC (callF F_power_in [(binE ixS (varE 0) (cstE (.int 0))), (binE ixS (varE 0) (cstE (.int 2))), (varE 1)])))
def F_public_of : Fn := defF 2 C_public_of
/-! ring_sign(group, oracle, publics, place, key, message, drawn, answers): 0 group, 1 oracle, 2 publics, 3 place, 4 key, 5 message, 6 drawn, 7 answers, 8 one, 9 p, 10 q, 11 g, 12 many, 13 asked, 14 now, 15 told, 16 step, 17 k, 18 first -/
def N_ring_sign : List Str := ["group", "oracle", "publics", "place", "key", "message", "drawn", "answers", "one", "p", "q", "g", "many", "asked", "now", "told", "step", "k", "first"]
def C_ring_sign : Cs :=
  (seqC (dropC (callF F_check_oracle [(varE 0), (varE 1)]))
  (seqC (dropC (callF F_check_ring [(varE 0), (varE 2)]))
  (seqC (ifC (orT (notT (ofE (chainE leS ltS (cstE (.int 0)) (varE 3) (callE lenS [(varE 2)])))) (ofE (binE neS (callF F_public_of [(varE 0), (varE 4)]) (binE ixS (varE 2) (varE 3))))) neverC skipC)
  (seqC (dropC (callF F_check_message [(varE 5)]))
  (seqC (dropC (callF F_check_key [(varE 0), (varE 6)]))
  (seqC (ifC (ofE (binE neS (callE lenS [(varE 7)]) (callE lenS [(varE 2)]))) neverC skipC)
  (seqC (forC (seqF (varE 7)) (.one 8) (dropC (callF F_check_key [(varE 0), (varE 8)])))
  (seqC (unpC [9, 10, 11] (varE 0))
  (seqC (asgC 12 (callE lenS [(varE 2)]))
  (seqC (asgC 13 (binE repS (lstE [(cstE (.int 0))]) (varE 12)))
  (seqC (asgC 14 (callF F_asked_of [(varE 0), (varE 1), (callF F_power_in [(varE 9), (varE 11), (varE 6)]), (varE 5)]))
  (seqC (asgC 15 (callE listS [(varE 7)]))
  (seqC (forC (argI rg2S [(cstE (.int 1)), (binE addS (varE 12) (cstE (.int 1)))]) (.one 16) (seqC (asgC 17 (binE modS (binE addS (varE 3) (varE 16)) (varE 12)))
  (seqC (setC 13 (varE 14) (varE 17))
  (ifC (ofE (binE neS (varE 17) (varE 3))) (seqC (asgC 18 (binE modS (binE mulS (callF F_power_in [(varE 9), (varE 11), (binE ixS (varE 15) (varE 17))]) (callF F_power_in [(varE 9), (binE ixS (varE 2) (varE 17)), (binE subS (varE 10) (varE 14))])) (varE 9)))
  (asgC 14 (callF F_asked_of [(varE 0), (varE 1), (varE 18), (varE 5)]))) skipC))))
  (seqC (setC 15 (binE modS (binE addS (varE 6) (binE mulS (binE ixS (varE 13) (varE 3)) (varE 4))) (varE 10)) (varE 3))
  (retC (tupE [(binE ixS (varE 13) (cstE (.int 0))), (callE tupleS [(varE 15)])]))))))))))))))))
def F_ring_sign : Fn := defF 19 C_ring_sign
/-! _law_order(d, many): 0 d, 1 many, 2 left, 3 found -/
def N__law_order : List Str := ["d", "many", "left", "found"]
def C__law_order : Cs :=
  (seqC (parC 2 3 (ofRg .own (rg1R (varE 1))) (lstE []))
  (seqC (whileC (ofE (binE neS (varE 2) (lstE []))) (appPopC 3 2 (callF F__law_take [(varE 0), (callE lenS [(varE 2)])])) FUEL)
  (retC (callE tupleS [(varE 3)]))))
def F__law_order : Fn := defF 4 C__law_order
/-! is_ring_signed(group, oracle, publics, message, signature): 0 group, 1 oracle, 2 publics, 3 message, 4 signature, 5 start, 6 told, 7 p, 8 q, 9 g, 10 now, 11 public, 12 one, 13 first -/
def N_is_ring_signed : List Str := ["group", "oracle", "publics", "message", "signature", "start", "told", "p", "q", "g", "now", "public", "one", "first"]
def C_is_ring_signed : Cs :=
  (seqC (dropC (callF F_check_oracle [(varE 0), (varE 1)]))
  (seqC (dropC (callF F_check_ring [(varE 0), (varE 2)]))
  (seqC (dropC (callF F_check_message [(varE 3)]))
  (seqC (unpC [5, 6] (varE 4))
  (seqC (unpC [7, 8, 9] (varE 0))
  (seqC (ifC (orT (ofE (binE neS (callE lenS [(varE 6)]) (callE lenS [(varE 2)]))) (orT (notT (ofE (chainE leS ltS (cstE (.int 0)) (varE 5) (varE 8)))) (notT (ofE (callE allS [(compE (seqI (varE 6)) [12] (.one 12) yesT (chainE leS ltS (cstE (.int 0)) (varE 12) (varE 8)))]))))) (retC (cstE (.bl false))) skipC)
  (seqC (asgC 10 (varE 5))
  (seqC (forC (argI (zipS true) [(varE 2), (varE 6)]) (.tup [11, 12]) (seqC (asgC 13 (binE modS (binE mulS (callF F_power_in [(varE 7), (varE 9), (varE 12)]) (callF F_power_in [(varE 7), (varE 11), (binE subS (varE 8) (varE 10))])) (varE 7)))
  (asgC 10 (callF F_asked_of [(varE 0), (varE 1), (varE 13), (varE 3)]))))
  (retC (binE eqS (varE 10) (varE 5)))))))))))
def F_is_ring_signed : Fn := defF 14 C_is_ring_signed
/-! _law_moved(row, order): 0 row, 1 order, 2 k -/
def N__law_moved : List Str := ["row", "order", "k"]
def C__law_moved : Cs :=
  (retC (callE tupleS [(compE (seqI (varE 1)) [2] (.one 2) yesT (binE ixS (varE 0) (varE 2)))]))
def F__law_moved : Fn := defF 3 C__law_moved
/-! is_signed(group, oracle, public, message, signature): 0 group, 1 oracle, 2 public, 3 message, 4 signature, 5 asked, 6 told, 7 p, 8 q, 9 g, 10 first -/
def N_is_signed : List Str := ["group", "oracle", "public", "message", "signature", "asked", "told", "p", "q", "g", "first"]
def C_is_signed : Cs :=
  (seqC (dropC (callF F_check_oracle [(varE 0), (varE 1)]))
  (seqC (dropC (callF F_check_member [(varE 0), (varE 2)]))
  (seqC (dropC (callF F_check_message [(varE 3)]))
  (seqC (unpC [5, 6] (varE 4))
  (seqC (unpC [7, 8, 9] (varE 0))
  (seqC (ifC (notT (andT (ofE (chainE leS ltS (cstE (.int 0)) (varE 5) (varE 8))) (ofE (chainE leS ltS (cstE (.int 0)) (varE 6) (varE 8))))) (retC (cstE (.bl false))) skipC)
  (seqC (asgC 10 (binE modS (binE mulS (callF F_power_in [(varE 7), (varE 9), (varE 6)]) (callF F_power_in [(varE 7), (varE 2), (binE subS (varE 8) (varE 5))])) (varE 7)))
  (retC (binE eqS (callF F_asked_of [(varE 0), (varE 1), (varE 10), (varE 3)]) (varE 5))))))))))
def F_is_signed : Fn := defF 11 C_is_signed
/-! by_shares(group, oracle, shares, places, message, draws): 0 group, 1 oracle, 2 shares, 3 places, 4 message, 5 draws, 6 q, 7 keys, 8 place, 9 share, 10 top, 11 bottom, 12 other -/
def N_by_shares : List Str := ["group", "oracle", "shares", "places", "message", "draws", "q", "keys", "place", "share", "top", "bottom", "other"]
def C_by_shares : Cs :=
  (seqC (dropC (callF F_check_oracle [(varE 0), (varE 1)]))
  (seqC (asgC 6 (binE ixS (varE 0) (cstE (.int 1))))
  (seqC (ifC (orT (ofE (binE neS (callE lenS [(varE 2)]) (callE lenS [(varE 3)]))) (orT (ofE (binE neS (callE lenS [(varE 5)]) (callE lenS [(varE 3)]))) (notT (ofE (chainE leS leS (cstE (.int 1)) (callE lenS [(varE 3)]) (cstE (.int 6))))))) neverC skipC)
  (seqC (ifC (orT (ofE (binE neS (callE lenDS [(dcompE (seqI (varE 3)) [8] (.one 8) yesT (binE modS (varE 8) (varE 6)) (cstE (.bl true)))]) (callE lenS [(varE 3)]))) (ofE (callE anyS [(compE (seqI (varE 3)) [8] (.one 8) yesT (binE eqS (binE modS (varE 8) (varE 6)) (cstE (.int 0))))]))) neverC skipC)
  (seqC (asgC 7 (lstE []))
  (seqC (forC (argI (zipS true) [(varE 3), (varE 2)]) (.tup [8, 9]) (seqC (dropC (callF F_check_key [(varE 0), (varE 9)]))
  (seqC (unpC [10, 11] (tupE [(cstE (.int 1)), (cstE (.int 1))]))
  (seqC (forC (seqF (varE 3)) (.one 12) (ifC (ofE (binE neS (varE 12) (varE 8))) (seqC (asgC 10 (binE modS (binE mulS (varE 10) (binE subS (cstE (.int 0)) (varE 12))) (varE 6)))
  (asgC 11 (binE modS (binE mulS (varE 11) (binE subS (varE 8) (varE 12))) (varE 6)))) skipC))
  (appC 7 (binE modS (binE mulS (binE mulS (varE 9) (varE 10)) (callF F_power_in [(varE 6), (varE 11), (binE subS (varE 6) (cstE (.int 2)))])) (varE 6)))))))
  (retC (binE ixS (callF F_together [(varE 0), (varE 1), (callE tupleS [(varE 7)]), (varE 4), (varE 5)]) (cstE (.int 1))))))))))
def F_by_shares : Fn := defF 13 C_by_shares
/-! _law_some(d, many, often): 0 d, 1 many, 2 often, 3 k -/
def N__law_some : List Str := ["d", "many", "often", "k"]
def C__law_some : Cs :=
  (retC (compE (argI rg1S [(varE 2)]) [3] (.one 3) yesT (callF F__law_take [(varE 0), (varE 1)])))
def F__law_some : Fn := defF 4 C__law_some
/-! part_is_right(group, public, first, asked, told): 0 group, 1 public, 2 first, 3 asked, 4 told, 5 p, 6 _, 7 g -/
def N_part_is_right : List Str := ["group", "public", "first", "asked", "told", "p", "_", "g"]
def C_part_is_right : Cs :=
  (seqC (dropC (callF F_check_member [(varE 0), (varE 1)]))
  (seqC (dropC (callF F_check_member [(varE 0), (varE 2)]))
  (seqC (dropC (callF F_check_key [(varE 0), (varE 3)]))
  (seqC (dropC (callF F_check_key [(varE 0), (varE 4)]))
  (seqC (unpC [5, 6, 7] (varE 0))
  (retC (binE eqS (callF F_power_in [(varE 5), (varE 7), (varE 4)]) (binE modS (binE mulS (varE 2) (callF F_power_in [(varE 5), (varE 1), (varE 3)])) (varE 5)))))))))
def F_part_is_right : Fn := defF 8 C_part_is_right
/-! power(group, base, times): 0 group, 1 base, 2 times -/
def N_power : List Str := ["group", "base", "times"]
def C_power : Cs :=
  (seqC (dropC (callF F_check [(varE 0)]))
  (seqC (ifC (notT (ofE (chainE leS ltS (cstE (.int 1)) (varE 1) (binE ixS (varE 0) (cstE (.int 0)))))) neverC skipC)
  (retC (callF F_power_in [(binE ixS (varE 0) (cstE (.int 0))), (varE 1), (binE modS (varE 2) (binE subS (binE ixS (varE 0) (cstE (.int 0))) (cstE (.int 1))))]))))
def F_power : Fn := defF 3 C_power
/-! members(group): 0 group, 1 found, 2 now, 3 _ -/
def N_members : List Str := ["group", "found", "now", "_"]
def C_members : Cs :=
  (seqC (dropC (callF F_check [(varE 0)]))
  (seqC (asgC 1 (lstE []))
  (seqC (asgC 2 (cstE (.int 1)))
  (seqC (forC (argI rg1S [(binE ixS (varE 0) (cstE (.int 1)))]) (.one 3) (seqC (appC 1 (varE 2))
  (asgC 2 (binE modS (binE mulS (varE 2) (binE ixS (varE 0) (cstE (.int 2)))) (binE ixS (varE 0) (cstE (.int 0)))))))
  (retC (callE tupleS [(callE sortedS [(varE 1)])]))))))
def F_members : Fn := defF 4 C_members
/-! _law_power(p, base, times): 0 p, 1 base, 2 times, 3 found, 4 k -/
def N__law_power : List Str := ["p", "base", "times", "found", "k"]
def C__law_power : Cs :=
  (seqC (asgC 3 (cstE (.int 1)))
  (seqC (forC (argI rg1S [(varE 2)]) (.one 4) (asgC 3 (binE modS (callE intS [(binE mulS (varE 3) (varE 1))]) (varE 0))))
  (retVC 3)))
def F__law_power : Fn := defF 5 C__law_power
/-! _law_part2(d, group, p, q, g, oracle, message, secret, drawn, public, first, told, many, keys, draws, parts, signature, order): 0 d, 1 group, 2 p, 3 q, 4 g, 5 oracle, 6 message, 7 secret, 8 drawn, 9 public, 10 first, 11 told, 12 many, 13 keys, 14 draws, 15 parts, 16 signature, 17 order, 18 places, 19 one, 20 two, 21 shares, 22 both, 23 mixed, 24 publics, 25 at, 26 ring, 27 now, 28 asked, 29 k, 30 by, 31 alone, 32 key, 33 part, 34 poly, 35 place, 36 factor, 37 x, 38 y -/
def N__law_part2 : List Str := [("d" : Str), ("group" : Str), ("p" : Str), ("q" : Str), ("g" : Str), ("oracle" : Str), ("message" : Str), ("secret" : Str), ("drawn" : Str), ("public" : Str), ("first" : Str), ("told" : Str), ("many" : Str), ("keys" : Str), ("draws" : Str), ("parts" : Str), ("signature" : Str), ("order" : Str), ("places" : Str), ("one" : Str), ("two" : Str), ("shares" : Str), ("both" : Str), ("mixed" : Str), ("publics" : Str), ("at" : Str), ("ring" : Str), ("now" : Str), ("asked" : Str), ("k" : Str), ("by" : Str), ("alone" : Str), ("key" : Str), ("part" : Str), ("poly" : Str), ("place" : Str), ("factor" : Str), ("x" : Str), ("y" : Str)]
def C__law_part2 : Cs :=
  (seqC (ifC (ofE (binE neS (callF F_together [(varE 1), (varE 5), (callF F__law_moved [(varE 13), (varE 17)]), (varE 6), (callF F__law_moved [(varE 14), (varE 17)])]) (tupE [(callF F__law_moved [(varE 15), (varE 17)]), (varE 16)]))) (retC (cstE (.bl false))) skipC)
  (seqC (ifC (ofE (binE neS (varE 16) (callF F_sign [(varE 1), (varE 5), (binE modS (callE intS [(callE sumAS [(varE 13)])]) (varE 3)), (varE 6), (binE modS (callE intS [(callE sumAS [(varE 14)])]) (varE 3))]))) (retC (cstE (.bl false))) skipC)
  (seqC (ifC (ofE (callE anyS [(compE (argI (zipS false) [(varE 13), (varE 15)]) [32, 33] (.tup [32, 33]) yesT (notE (callF F_part_is_right [(varE 1), (callF F_power [(varE 1), (varE 4), (varE 32)]), (binE ixS (varE 33) (cstE (.int 0))), (binE ixS (varE 16) (cstE (.int 0))), (binE ixS (varE 33) (cstE (.int 1)))])))])) (retC (cstE (.bl false))) skipC)
  (seqC (ifC (orT (andT (ofE (binE ltS (varE 12) (cstE (.int 6)))) (ofE (binE neS (binE ixS (callF F_together [(varE 1), (varE 5), (binE addS (varE 13) (tupE [(cstE (.int 0))])), (varE 6), (binE addS (varE 14) (tupE [(cstE (.int 0))]))]) (cstE (.int 1))) (varE 16)))) (ofE (binE neS (callF F_together [(varE 1), (varE 5), (tupE [(varE 7)]), (varE 6), (tupE [(varE 8)])]) (tupE [(tupE [(tupE [(varE 10), (binE ixS (varE 11) (cstE (.int 1)))])]), (varE 11)])))) (retC (cstE (.bl false))) skipC)
  (seqC (ifC (ofE (binE gtS (varE 3) (varE 12))) (seqC (asgC 18 (callE tupleS [(compE (seqI (slE (callF F__law_order [(varE 0), (binE subS (varE 3) (cstE (.int 1)))]) noP (someP (varE 12)))) [29] (.one 29) yesT (binE addS (varE 29) (cstE (.int 1))))]))
  (seqC (par2C 19 20 [(callE tupleS [(callF F__law_some [(varE 0), (varE 3), (varE 12)])]), (callE tupleS [(callF F__law_some [(varE 0), (varE 3), (varE 12)])])])
  (seqC (asgC 21 (compE (seqI (tupE [(varE 19), (varE 20)])) [34] (.one 34) yesT (callE tupleS [(compE (seqI (varE 18)) [35] (.one 35) yesT (binE modS (callE intS [(callE sumAS [(compE (argI (enumS false) [(varE 34)]) [29, 36] (.tup [29, 36]) yesT (binE mulS (varE 36) (callF F__law_power [(varE 3), (varE 35), (varE 29)])))])]) (varE 3)))])))
  (seqC (asgC 22 (callE tupleS [(compE (argI (zipS false) [(binE ixS (varE 21) (cstE (.int 0))), (binE ixS (varE 21) (cstE (.int 1)))]) [37, 38] (.tup [37, 38]) yesT (binE modS (callE intS [(binE addS (varE 37) (varE 38))]) (varE 3)))]))
  (seqC (ifC (notT (ofE (callF F_is_signed [(varE 1), (varE 5), (callF F_power [(varE 1), (varE 4), (binE addS (binE ixS (varE 19) (cstE (.int 0))) (binE ixS (varE 20) (cstE (.int 0))))]), (varE 6), (callF F_by_shares [(varE 1), (varE 5), (varE 22), (varE 18), (varE 6), (varE 14)])]))) (retC (cstE (.bl false))) skipC)
  (seqC (asgC 23 (callF F__law_order [(varE 0), (varE 12)]))
  (ifC (ofE (binE neS (callF F_by_shares [(varE 1), (varE 5), (callF F__law_moved [(varE 22), (varE 23)]), (callF F__law_moved [(varE 18), (varE 23)]), (varE 6), (callF F__law_moved [(varE 14), (varE 23)])]) (callF F_by_shares [(varE 1), (varE 5), (varE 22), (varE 18), (varE 6), (varE 14)]))) (retC (cstE (.bl false))) skipC))))))) skipC)
  (seqC (par2C 24 25 [(callE tupleS [(compE (seqI (varE 13)) [32] (.one 32) yesT (callF F_power [(varE 1), (varE 4), (varE 32)]))]), (callF F__law_take [(varE 0), (varE 12)])])
  (seqC (asgC 26 (callF F_ring_sign [(varE 1), (varE 5), (varE 24), (varE 25), (binE ixS (varE 13) (varE 25)), (varE 6), (varE 8), (callE tupleS [(callF F__law_some [(varE 0), (varE 3), (varE 12)])])]))
  (seqC (ifC (notT (ofE (callF F_is_ring_signed [(varE 1), (varE 5), (varE 24), (varE 6), (varE 26)]))) (retC (cstE (.bl false))) skipC)
  (seqC (parC 27 28 (binE ixS (varE 26) (cstE (.int 0))) (lstE []))
  (seqC (forC (argI rg1S [(varE 12)]) (.one 29) (seqC (appC 28 (varE 27))
  (asgC 27 (callF F_asked_of [(varE 1), (varE 5), (binE modS (binE mulS (callF F_power [(varE 1), (varE 4), (binE ixS (binE ixS (varE 26) (cstE (.int 1))) (varE 29))]) (callF F_power [(varE 1), (binE ixS (varE 24) (varE 29)), (binE subS (varE 3) (varE 27))])) (varE 2)), (varE 6)]))))
  (seqC (ifC (ofE (binE neS (varE 27) (binE ixS (varE 26) (cstE (.int 0))))) (retC (cstE (.bl false))) skipC)
  (seqC (forC (argI rg1S [(varE 12)]) (.one 30) (ifC (notT (ofE (callF F_is_ring_signed [(varE 1), (varE 5), (binE addS (slE (varE 24) (someP (varE 30)) noP) (slE (varE 24) noP (someP (varE 30)))), (varE 6), (tupE [(binE ixS (varE 28) (varE 30)), (binE addS (slE (binE ixS (varE 26) (cstE (.int 1))) (someP (varE 30)) noP) (slE (binE ixS (varE 26) (cstE (.int 1))) noP (someP (varE 30))))])]))) (retC (cstE (.bl false))) skipC))
  (seqC (asgC 31 (tupE [(binE ixS (varE 11) (cstE (.int 0))), (tupE [(binE ixS (varE 11) (cstE (.int 1)))])]))
  (retC (andE (callF F_is_ring_signed [(varE 1), (varE 5), (tupE [(varE 9)]), (varE 6), (varE 31)]) (andE (binE eqS (callF F_ring_sign [(varE 1), (varE 5), (tupE [(varE 9)]), (cstE (.int 0)), (varE 7), (varE 6), (varE 8), (tupE [(cstE (.int 0))])]) (varE 31)) (binE eqS (callE lenS [(callF F_members [(varE 1)])]) (varE 3))))))))))))))))))
def F__law_part2 : Fn := defF 39 C__law_part2
/-! is_right(group, public, row): 0 group, 1 public, 2 row, 3 first, 4 asked, 5 told, 6 p, 7 _, 8 g -/
def N_is_right : List Str := ["group", "public", "row", "first", "asked", "told", "p", "_", "g"]
def C_is_right : Cs :=
  (seqC (dropC (callF F_check_member [(varE 0), (varE 1)]))
  (seqC (unpC [3, 4, 5] (varE 2))
  (seqC (ifC (notT (andT (ofE (chainE leS ltS (cstE (.int 1)) (varE 3) (binE ixS (varE 0) (cstE (.int 0))))) (andT (ofE (chainE leS ltS (cstE (.int 0)) (varE 4) (binE ixS (varE 0) (cstE (.int 1))))) (ofE (chainE leS ltS (cstE (.int 0)) (varE 5) (binE ixS (varE 0) (cstE (.int 1)))))))) (retC (cstE (.bl false))) skipC)
  (seqC (unpC [6, 7, 8] (varE 0))
  (retC (binE eqS (callF F_power_in [(varE 6), (varE 8), (varE 5)]) (binE modS (binE mulS (varE 3) (callF F_power_in [(varE 6), (varE 1), (varE 4)])) (varE 6))))))))
def F_is_right : Fn := defF 9 C_is_right
/-! key_from(group, oracle, first, other): 0 group, 1 oracle, 2 first, 3 other, 4 q, 5 asked, 6 told -/
def N_key_from : List Str := ["group", "oracle", "first", "other", "q", "asked", "told"]
def C_key_from : Cs :=
  (seqC (dropC (callF F_check_oracle [(varE 0), (varE 1)]))
  (seqC (asgC 4 (binE ixS (varE 0) (cstE (.int 1))))
  (seqC (forC (seqF (tupE [(varE 2), (varE 3)])) (.tup [5, 6]) (ifC (notT (andT (ofE (chainE leS ltS (cstE (.int 0)) (varE 5) (varE 4))) (ofE (chainE leS ltS (cstE (.int 0)) (varE 6) (varE 4))))) (retC (cstE .non)) skipC))
  (seqC (ifC (ofE (binE eqS (binE ixS (varE 2) (cstE (.int 0))) (binE ixS (varE 3) (cstE (.int 0))))) (retC (cstE .non)) skipC)
  (retC (binE modS (binE mulS (binE subS (binE ixS (varE 2) (cstE (.int 1))) (binE ixS (varE 3) (cstE (.int 1)))) (callF F_power_in [(varE 4), (binE modS (binE subS (binE ixS (varE 2) (cstE (.int 0))) (binE ixS (varE 3) (cstE (.int 0)))) (varE 4)), (binE subS (varE 4) (cstE (.int 2)))])) (varE 4)))))))
def F_key_from : Fn := defF 7 C_key_from
/-! blind_forgeries(group, oracle, public, message): 0 group, 1 oracle, 2 public, 3 message, 4 found, 5 asked, 6 told -/
def N_blind_forgeries : List Str := ["group", "oracle", "public", "message", "found", "asked", "told"]
def C_blind_forgeries : Cs :=
  (seqC (dropC (callF F_check_oracle [(varE 0), (varE 1)]))
  (seqC (dropC (callF F_check_member [(varE 0), (varE 2)]))
  (seqC (dropC (callF F_check_message [(varE 3)]))
  (seqC (ifC (ofE (binE gtS (binE ixS (varE 0) (cstE (.int 1))) (cstE (.int 31)))) neverC skipC)
  (seqC (asgC 4 (lstE []))
  (seqC (forC (argI rg1S [(binE ixS (varE 0) (cstE (.int 1)))]) (.one 5) (forC (argI rg1S [(binE ixS (varE 0) (cstE (.int 1)))]) (.one 6) (ifC (ofE (callF F_is_signed [(varE 0), (varE 1), (varE 2), (varE 3), (tupE [(varE 5), (varE 6)])])) (appC 4 (tupE [(varE 5), (varE 6)])) skipC)))
  (retC (callE tupleS [(varE 4)]))))))))
def F_blind_forgeries : Fn := defF 7 C_blind_forgeries
/-! made_row(group, public, asked, told): 0 group, 1 public, 2 asked, 3 told, 4 p, 5 q, 6 g -/
def N_made_row : List Str := ["group", "public", "asked", "told", "p", "q", "g"]
def C_made_row : Cs :=
  (seqC (dropC (callF F_check_member [(varE 0), (varE 1)]))
  (seqC (dropC (callF F_check_key [(varE 0), (varE 2)]))
  (seqC (dropC (callF F_check_key [(varE 0), (varE 3)]))
  (seqC (unpC [4, 5, 6] (varE 0))
  (retC (tupE [(binE modS (binE mulS (callF F_power_in [(varE 4), (varE 6), (varE 3)]) (callF F_power_in [(varE 4), (varE 1), (binE subS (varE 5) (varE 2))])) (varE 4)), (varE 2), (varE 3)]))))))
def F_made_row : Fn := defF 7 C_made_row
/-! law(script): 0 script, 1 d, 2 group, 3 p, 4 q, 5 g, 6 oracle, 7 message, 8 secret, 9 drawn, 10 public, 11 first, 12 told, 13 other, 14 rows, 15 due, 16 asked, 17 fresh, 18 far, 19 many, 20 keys, 21 draws, 22 parts, 23 signature, 24 whole, 25 order, 26 answer -/
def N_law : List Str := ["script", "d", "group", "p", "q", "g", "oracle", "message", "secret", "drawn", "public", "first", "told", "other", "rows", "due", "asked", "fresh", "far", "many", "keys", "draws", "parts", "signature", "whole", "order", "answer"]
def C_law : Cs :=
  (seqC (asgC 1 (callF F__law_begin [(varE 0)]))
  (seqC (seqC (tapeC 1) (asgC 2 (callF F__law_group [(varE 1)])))
  (seqC (unpC [3, 4, 5] (varE 2))
  (seqC (unpC [6, 7] (tupE [(callE tupleS [(callF F__law_some [(varE 1), (varE 4), (binE addS (cstE (.int 1)) (callF F__law_take [(varE 1), (cstE (.int 7))]))])]), (callF F__law_take [(varE 1), (cstE (.int 40))])]))
  (seqC (par2C 8 9 [(callF F__law_take [(varE 1), (varE 4)]), (callF F__law_take [(varE 1), (varE 4)])])
  (seqC (unpC [10, 11] (tupE [(callF F_power [(varE 2), (varE 5), (varE 8)]), (callF F_power [(varE 2), (varE 5), (varE 9)])]))
  (seqC (asgC 12 (callF F_sign [(varE 2), (varE 6), (varE 8), (varE 7), (varE 9)]))
  (seqC (ifC (orT (ofE (binE neS (binE ixS (varE 12) (cstE (.int 0))) (callF F_asked_of [(varE 2), (varE 6), (varE 11), (varE 7)]))) (orT (notT (ofE (callF F_is_signed [(varE 2), (varE 6), (varE 10), (varE 7), (varE 12)]))) (notT (ofE (callF F_is_right [(varE 2), (varE 10), (tupE [(varE 11), (binE ixS (varE 12) (cstE (.int 0))), (binE ixS (varE 12) (cstE (.int 1)))])]))))) (retC (cstE (.bl false))) skipC)
  (seqC (ifC (ofE (binE isntBS (callF F_part_is_right [(varE 2), (varE 10), (varE 11), (binE ixS (varE 12) (cstE (.int 0))), (binE ixS (varE 12) (cstE (.int 1)))]) (cstE (.bl true)))) (retC (cstE (.bl false))) skipC)
  (seqC (ifC (orT (notT (ofE (callF F_is_signed [(varE 2), (varE 6), (varE 10), (binE addS (varE 7) (callE lenS [(varE 6)])), (varE 12)]))) (ofE (binE neS (callF F_asked_of [(varE 2), (varE 6), (varE 11), (binE addS (varE 7) (binE mulS (cstE (.int 3)) (callE lenS [(varE 6)])))]) (binE ixS (varE 12) (cstE (.int 0)))))) (retC (cstE (.bl false))) skipC)
  (seqC (asgC 13 (callF F__law_take [(varE 1), (cstE (.int 40))]))
  (seqC (ifC (ofE (binE neS (callF F_is_signed [(varE 2), (varE 6), (varE 10), (varE 13), (varE 12)]) (binE eqS (callF F_asked_of [(varE 2), (varE 6), (varE 11), (varE 13)]) (binE ixS (varE 12) (cstE (.int 0)))))) (retC (cstE (.bl false))) skipC)
  (seqC (ifC (ofE (binE leS (varE 4) (cstE (.int 11)))) (seqC (asgC 14 (compE (seqI (callF F_blind_forgeries [(varE 2), (varE 6), (varE 10), (varE 7)])) [16, 26] (.tup [16, 26]) yesT (tupE [(varE 16), (varE 26)])))
  (seqC (asgC 15 (lstE []))
  (seqC (forC (argI rg1S [(varE 4)]) (.one 16) (asgC 15 (binE addS (varE 15) (compE (argI rg1S [(varE 4)]) [26] (.one 26) (ofE (binE eqS (callF F_asked_of [(varE 2), (varE 6), (binE ixS (callF F_made_row [(varE 2), (varE 10), (varE 16), (varE 26)]) (cstE (.int 0))), (varE 7)]) (varE 16))) (tupE [(varE 16), (varE 26)])))))
  (ifC (orT (ofE (binE neS (varE 14) (varE 15))) (ofE (binE ninS (varE 12) (varE 14)))) (retC (cstE (.bl false))) skipC)))) skipC)
  (seqC (asgC 17 (callF F__law_take [(varE 1), (cstE (.int 40))]))
  (seqC (asgC 18 (callF F_sign [(varE 2), (varE 6), (varE 8), (varE 17), (varE 9)]))
  (seqC (ifC (orT (ofE (binE neS (callF F_key_from [(varE 2), (varE 6), (varE 12), (varE 18)]) (ifE (ofE (binE neS (binE ixS (varE 18) (cstE (.int 0))) (binE ixS (varE 12) (cstE (.int 0))))) (varE 8) (cstE .non)))) (ofE (binE neS (callF F_key_from [(varE 2), (varE 6), (varE 18), (varE 12)]) (callF F_key_from [(varE 2), (varE 6), (varE 12), (varE 18)])))) (retC (cstE (.bl false))) skipC)
  (seqC (asgC 19 (binE addS (cstE (.int 1)) (callF F__law_take [(varE 1), (cstE (.int 4))])))
  (seqC (par2C 20 21 [(callE tupleS [(callF F__law_some [(varE 1), (varE 4), (varE 19)])]), (callE tupleS [(callF F__law_some [(varE 1), (varE 4), (varE 19)])])])
  (seqC (unpC [22, 23] (callF F_together [(varE 2), (varE 6), (varE 20), (varE 7), (varE 21)]))
  (seqC (par2C 24 25 [(callF F_power [(varE 2), (varE 5), (callE sumAS [(varE 20)])]), (callF F__law_order [(varE 1), (varE 19)])])
  (seqC (ifC (notT (ofE (callF F_is_signed [(varE 2), (varE 6), (varE 24), (varE 7), (varE 23)]))) (retC (cstE (.bl false))) skipC)
  (retC (callF F__law_part2 [(varE 1), (varE 2), (varE 3), (varE 4), (varE 5), (varE 6), (varE 7), (varE 8), (varE 9), (varE 10), (varE 11), (varE 12), (varE 19), (varE 20), (varE 21), (varE 22), (varE 23), (varE 25)])))))))))))))))))))))))
def F_law : Fn := defF 27 C_law
structure Env (K : PySem.W.Frag) (mg : Str → Option Value) where
  a__law_begin : Addr
  fd__law_begin : FuncData
  F__law_begin : Fun K "_law_begin" "_law_begin" (top 32) a__law_begin fd__law_begin
  m__law_begin : mg "_law_begin" = some (.ref a__law_begin)
  k__law_begin : PySem.W.keepIn K (.ref a__law_begin) = true
  b__law_begin : Binds K fd__law_begin ["script"] []
  a__law_take : Addr
  fd__law_take : FuncData
  F__law_take : Fun K "_law_take" "_law_take" (top 33) a__law_take fd__law_take
  m__law_take : mg "_law_take" = some (.ref a__law_take)
  k__law_take : PySem.W.keepIn K (.ref a__law_take) = true
  b__law_take : Binds K fd__law_take ["d", "many"] []
  a__law_group : Addr
  fd__law_group : FuncData
  F__law_group : Fun K "_law_group" "_law_group" (top 37) a__law_group fd__law_group
  m__law_group : mg "_law_group" = some (.ref a__law_group)
  k__law_group : PySem.W.keepIn K (.ref a__law_group) = true
  b__law_group : Binds K fd__law_group ["d"] []
  a_is_prime : Addr
  fd_is_prime : FuncData
  F_is_prime : Fun K "is_prime" "is_prime" (top 4) a_is_prime fd_is_prime
  m_is_prime : mg "is_prime" = some (.ref a_is_prime)
  k_is_prime : PySem.W.keepIn K (.ref a_is_prime) = true
  b_is_prime : Binds K fd_is_prime ["number"] []
  a_power_in : Addr
  fd_power_in : FuncData
  F_power_in : Fun K "power_in" "power_in" (top 6) a_power_in fd_power_in
  m_power_in : mg "power_in" = some (.ref a_power_in)
  k_power_in : PySem.W.keepIn K (.ref a_power_in) = true
  b_power_in : Binds K fd_power_in ["p", "base", "times"] []
  a_check : Addr
  fd_check : FuncData
  F_check : Fun K "check" "check" (top 5) a_check fd_check
  m_check : mg "check" = some (.ref a_check)
  k_check : PySem.W.keepIn K (.ref a_check) = true
  b_check : Binds K fd_check ["group"] []
  a_check_oracle : Addr
  fd_check_oracle : FuncData
  F_check_oracle : Fun K "check_oracle" "check_oracle" (top 15) a_check_oracle fd_check_oracle
  m_check_oracle : mg "check_oracle" = some (.ref a_check_oracle)
  k_check_oracle : PySem.W.keepIn K (.ref a_check_oracle) = true
  b_check_oracle : Binds K fd_check_oracle ["group", "oracle"] []
  a_check_key : Addr
  fd_check_key : FuncData
  F_check_key : Fun K "check_key" "check_key" (top 10) a_check_key fd_check_key
  m_check_key : mg "check_key" = some (.ref a_check_key)
  k_check_key : PySem.W.keepIn K (.ref a_check_key) = true
  b_check_key : Binds K fd_check_key ["group", "key"] []
  a_check_message : Addr
  fd_check_message : FuncData
  F_check_message : Fun K "check_message" "check_message" (top 16) a_check_message fd_check_message
  m_check_message : mg "check_message" = some (.ref a_check_message)
  k_check_message : PySem.W.keepIn K (.ref a_check_message) = true
  b_check_message : Binds K fd_check_message ["message"] []
  a_asked_of : Addr
  fd_asked_of : FuncData
  F_asked_of : Fun K "asked_of" "asked_of" (top 17) a_asked_of fd_asked_of
  m_asked_of : mg "asked_of" = some (.ref a_asked_of)
  k_asked_of : PySem.W.keepIn K (.ref a_asked_of) = true
  b_asked_of : Binds K fd_asked_of ["group", "oracle", "first", "message"] []
  a_sign : Addr
  fd_sign : FuncData
  F_sign : Fun K "sign" "sign" (top 18) a_sign fd_sign
  m_sign : mg "sign" = some (.ref a_sign)
  k_sign : PySem.W.keepIn K (.ref a_sign) = true
  b_sign : Binds K fd_sign ["group", "oracle", "key", "message", "drawn"] []
  a_together : Addr
  fd_together : FuncData
  F_together : Fun K "together" "together" (top 22) a_together fd_together
  m_together : mg "together" = some (.ref a_together)
  k_together : PySem.W.keepIn K (.ref a_together) = true
  b_together : Binds K fd_together ["group", "oracle", "keys", "message", "draws"] []
  a_check_member : Addr
  fd_check_member : FuncData
  F_check_member : Fun K "check_member" "check_member" (top 9) a_check_member fd_check_member
  m_check_member : mg "check_member" = some (.ref a_check_member)
  k_check_member : PySem.W.keepIn K (.ref a_check_member) = true
  b_check_member : Binds K fd_check_member ["group", "one"] []
  a_check_ring : Addr
  fd_check_ring : FuncData
  F_check_ring : Fun K "check_ring" "check_ring" (top 25) a_check_ring fd_check_ring
  m_check_ring : mg "check_ring" = some (.ref a_check_ring)
  k_check_ring : PySem.W.keepIn K (.ref a_check_ring) = true
  b_check_ring : Binds K fd_check_ring ["group", "publics"] []
  a_public_of : Addr
  fd_public_of : FuncData
  F_public_of : Fun K "public_of" "public_of" (top 12) a_public_of fd_public_of
  m_public_of : mg "public_of" = some (.ref a_public_of)
  k_public_of : PySem.W.keepIn K (.ref a_public_of) = true
  b_public_of : Binds K fd_public_of ["group", "key"] []
  a_ring_sign : Addr
  fd_ring_sign : FuncData
  F_ring_sign : Fun K "ring_sign" "ring_sign" (top 26) a_ring_sign fd_ring_sign
  m_ring_sign : mg "ring_sign" = some (.ref a_ring_sign)
  k_ring_sign : PySem.W.keepIn K (.ref a_ring_sign) = true
  b_ring_sign : Binds K fd_ring_sign ["group", "oracle", "publics", "place", "key", "message", "drawn", "answers"] []
  a__law_order : Addr
  fd__law_order : FuncData
  F__law_order : Fun K "_law_order" "_law_order" (top 35) a__law_order fd__law_order
  m__law_order : mg "_law_order" = some (.ref a__law_order)
  k__law_order : PySem.W.keepIn K (.ref a__law_order) = true
  b__law_order : Binds K fd__law_order ["d", "many"] []
  a_is_ring_signed : Addr
  fd_is_ring_signed : FuncData
  F_is_ring_signed : Fun K "is_ring_signed" "is_ring_signed" (top 27) a_is_ring_signed fd_is_ring_signed
  m_is_ring_signed : mg "is_ring_signed" = some (.ref a_is_ring_signed)
  k_is_ring_signed : PySem.W.keepIn K (.ref a_is_ring_signed) = true
  b_is_ring_signed : Binds K fd_is_ring_signed ["group", "oracle", "publics", "message", "signature"] []
  a__law_moved : Addr
  fd__law_moved : FuncData
  F__law_moved : Fun K "_law_moved" "_law_moved" (top 38) a__law_moved fd__law_moved
  m__law_moved : mg "_law_moved" = some (.ref a__law_moved)
  k__law_moved : PySem.W.keepIn K (.ref a__law_moved) = true
  b__law_moved : Binds K fd__law_moved ["row", "order"] []
  a_is_signed : Addr
  fd_is_signed : FuncData
  F_is_signed : Fun K "is_signed" "is_signed" (top 19) a_is_signed fd_is_signed
  m_is_signed : mg "is_signed" = some (.ref a_is_signed)
  k_is_signed : PySem.W.keepIn K (.ref a_is_signed) = true
  b_is_signed : Binds K fd_is_signed ["group", "oracle", "public", "message", "signature"] []
  a_by_shares : Addr
  fd_by_shares : FuncData
  F_by_shares : Fun K "by_shares" "by_shares" (top 24) a_by_shares fd_by_shares
  m_by_shares : mg "by_shares" = some (.ref a_by_shares)
  k_by_shares : PySem.W.keepIn K (.ref a_by_shares) = true
  b_by_shares : Binds K fd_by_shares ["group", "oracle", "shares", "places", "message", "draws"] []
  a__law_some : Addr
  fd__law_some : FuncData
  F__law_some : Fun K "_law_some" "_law_some" (top 34) a__law_some fd__law_some
  m__law_some : mg "_law_some" = some (.ref a__law_some)
  k__law_some : PySem.W.keepIn K (.ref a__law_some) = true
  b__law_some : Binds K fd__law_some ["d", "many", "often"] []
  a_part_is_right : Addr
  fd_part_is_right : FuncData
  F_part_is_right : Fun K "part_is_right" "part_is_right" (top 23) a_part_is_right fd_part_is_right
  m_part_is_right : mg "part_is_right" = some (.ref a_part_is_right)
  k_part_is_right : PySem.W.keepIn K (.ref a_part_is_right) = true
  b_part_is_right : Binds K fd_part_is_right ["group", "public", "first", "asked", "told"] []
  a_power : Addr
  fd_power : FuncData
  F_power : Fun K "power" "power" (top 7) a_power fd_power
  m_power : mg "power" = some (.ref a_power)
  k_power : PySem.W.keepIn K (.ref a_power) = true
  b_power : Binds K fd_power ["group", "base", "times"] []
  a_members : Addr
  fd_members : FuncData
  F_members : Fun K "members" "members" (top 8) a_members fd_members
  m_members : mg "members" = some (.ref a_members)
  k_members : PySem.W.keepIn K (.ref a_members) = true
  b_members : Binds K fd_members ["group"] []
  a__law_power : Addr
  fd__law_power : FuncData
  F__law_power : Fun K "_law_power" "_law_power" (top 36) a__law_power fd__law_power
  m__law_power : mg "_law_power" = some (.ref a__law_power)
  k__law_power : PySem.W.keepIn K (.ref a__law_power) = true
  b__law_power : Binds K fd__law_power ["p", "base", "times"] []
  a__law_part2 : Addr
  fd__law_part2 : FuncData
  F__law_part2 : Fun K "_law_part2" "_law_part2" (top 39) a__law_part2 fd__law_part2
  m__law_part2 : mg "_law_part2" = some (.ref a__law_part2)
  k__law_part2 : PySem.W.keepIn K (.ref a__law_part2) = true
  b__law_part2 : Binds K fd__law_part2 ["d", "group", "p", "q", "g", "oracle", "message", "secret", "drawn", "public", "first", "told", "many", "keys", "draws", "parts", "signature", "order"] []
  a_is_right : Addr
  fd_is_right : FuncData
  F_is_right : Fun K "is_right" "is_right" (top 29) a_is_right fd_is_right
  m_is_right : mg "is_right" = some (.ref a_is_right)
  k_is_right : PySem.W.keepIn K (.ref a_is_right) = true
  b_is_right : Binds K fd_is_right ["group", "public", "row"] []
  a_key_from : Addr
  fd_key_from : FuncData
  F_key_from : Fun K "key_from" "key_from" (top 20) a_key_from fd_key_from
  m_key_from : mg "key_from" = some (.ref a_key_from)
  k_key_from : PySem.W.keepIn K (.ref a_key_from) = true
  b_key_from : Binds K fd_key_from ["group", "oracle", "first", "other"] []
  a_blind_forgeries : Addr
  fd_blind_forgeries : FuncData
  F_blind_forgeries : Fun K "blind_forgeries" "blind_forgeries" (top 21) a_blind_forgeries fd_blind_forgeries
  m_blind_forgeries : mg "blind_forgeries" = some (.ref a_blind_forgeries)
  k_blind_forgeries : PySem.W.keepIn K (.ref a_blind_forgeries) = true
  b_blind_forgeries : Binds K fd_blind_forgeries ["group", "oracle", "public", "message"] []
  a_made_row : Addr
  fd_made_row : FuncData
  F_made_row : Fun K "made_row" "made_row" (top 30) a_made_row fd_made_row
  m_made_row : mg "made_row" = some (.ref a_made_row)
  k_made_row : PySem.W.keepIn K (.ref a_made_row) = true
  b_made_row : Binds K fd_made_row ["group", "public", "asked", "told"] []
  a_law : Addr
  fd_law : FuncData
  F_law : Fun K "law" "law" (top 40) a_law fd_law
  m_law : mg "law" = some (.ref a_law)
  k_law : PySem.W.keepIn K (.ref a_law) = true
  b_law : Binds K fd_law ["script"] []
  n_abs : mg "abs" = none
  n_all : mg "all" = none
  n_any : mg "any" = none
  n_enumerate : mg "enumerate" = none
  n_int : mg "int" = none
  n_len : mg "len" = none
  n_list : mg "list" = none
  n_range : mg "range" = none
  n_sorted : mg "sorted" = none
  n_sum : mg "sum" = none
  n_tuple : mg "tuple" = none
  n_zip : mg "zip" = none
  g_MOST : ∃ t, mg "MOST" = some (.int 400 t)
  g_MOST_HANDS : ∃ t, mg "MOST_HANDS" = some (.int 6 t)
section
variable {P : Program} {w : World} {K : PySem.W.Frag} {mg : Str → Option Value} {base : Heap}
theorem ok__law_begin (E : Env K mg) : FnOk P w K mg base (L2.CX P w) 1 E.a__law_begin E.fd__law_begin ["script"] (FSp K ⟨[], 0⟩ 1 F__law_begin) := by
  have S : FnScope N__law_begin ["script"] (defScope (top 32)) := ⟨rfl, rfl, rfl, by decide +kernel, rfl, by decide +kernel, by decide +kernel⟩
  refine fn_def (N := N__law_begin) (cs := C__law_begin) E.F__law_begin S (by decide) fun cdv A outer s H Ex hr => ?_
  refine ss_cons ?_ ?_
  · skip
    exact s_asg (i := 1) S.nd v_int
  refine ss_cons ?_ ?_
  · skip
    refine s_for (passes_of rfl) (i_seqF (v_var (i := 0))) (pg_name (i := 2) S.nd rfl (by first | exact Or.inl rfl | exact Or.inr rfl)) ?_
    refine ss_one ?_
    · skip
      exact s_asg (i := 1) S.nd (v_op op_mod ok_mod (v_op op_addAll ok_add (v_op op_addAll ok_add (v_op op_mulW ok_mul (v_var (i := 1)) v_int) (v_op op_mod ok_mod (v_callTy call_int1 co_int E.n_int (a_cons (v_var (i := 2)) a_nil)) v_int)) v_int) v_int)
  refine ss_one ?_
  · skip
    exact s_ret (v_lst (a_cons (v_esc (v_callTy call_list_of co_list E.n_list (a_cons (v_var (i := 0)) a_nil))) (a_cons v_int (a_cons v_int (a_cons (v_var (i := 1)) a_nil)))))
theorem ok__law_take (E : Env K mg) : FnOk P w K mg base (L2.CX P w) 1 E.a__law_take E.fd__law_take ["d", "many"] (FSp K ⟨[], 0⟩ 2 F__law_take) := by
  have S : FnScope N__law_take ["d", "many"] (defScope (top 33)) := ⟨rfl, rfl, rfl, by decide +kernel, rfl, by decide +kernel, by decide +kernel⟩
  refine fn_def (N := N__law_take) (cs := C__law_take) E.F__law_take S (by decide) fun cdv A outer s H Ex hr => ?_
  refine ss_cons ?_ ?_
  · skip
    refine s_if (t_w (w_and (t_cmp (op_eqD hr.units) ok_eq bl_eq (v_tget (i := 0) (k := 2)) v_int) (w_and1 (t_cmp op_lt ok_lt bl_lt (v_tget (i := 0) (k := 1)) (v_callB call_len_seq co_len E.n_len (a_cons (v_tget (i := 0) (k := 0)) a_nil)))))) ?_ ?_
    · skip
      refine ss_cons ?_ ?_
      · skip
        exact s_tset (i := 0) (k := 2) (v_callB call_abs co_abs E.n_abs (a_cons (v_callTy call_int1 co_int E.n_int (a_cons (v_ix (v_tget (i := 0) (k := 0)) (v_tget (i := 0) (k := 1))) a_nil)) a_nil))
      refine ss_cons ?_ ?_
      · skip
        exact s_tset (i := 0) (k := 1) (v_op op_addAll ok_add (v_tget (i := 0) (k := 1)) v_int)
      refine ss_one ?_
      · skip
        refine s_if (t_cmp op_lt ok_lt bl_lt (v_tget (i := 0) (k := 2)) (v_op op_pow ok_pow v_int v_int)) ?_ ?_
        · skip
          refine ss_cons ?_ ?_
          · skip
            exact s_asg (i := 2) S.nd (v_callTy call_int1 co_int E.n_int (a_cons (v_tget (i := 0) (k := 2)) a_nil))
          refine ss_cons ?_ ?_
          · skip
            exact s_tset (i := 0) (k := 2) v_int
          refine ss_one ?_
          · skip
            exact s_ret (v_op op_mod ok_mod (v_var (i := 2)) (v_var (i := 1)))
        · skip
          exact ss_nil
    · skip
      exact ss_nil
  refine ss_cons ?_ ?_
  · skip
    refine s_if (t_cmp op_gt ok_gt bl_gt (v_tget (i := 0) (k := 2)) v_int) ?_ ?_
    · skip
      refine ss_cons ?_ ?_
      · skip
        exact s_asg (i := 3) S.nd (v_op op_mod ok_mod (v_callTy call_int1 co_int E.n_int (a_cons (v_tget (i := 0) (k := 2)) a_nil)) (v_var (i := 1)))
      refine ss_cons ?_ ?_
      · skip
        exact s_tset (i := 0) (k := 2) (v_op op_fdivW ok_fdiv (v_callTy call_int1 co_int E.n_int (a_cons (v_tget (i := 0) (k := 2)) a_nil)) (v_var (i := 1)))
      refine ss_one ?_
      · skip
        exact s_retV (i := 3)
    · skip
      exact ss_nil
  refine ss_cons ?_ ?_
  · skip
    exact s_tset (i := 0) (k := 3) (v_op op_mod ok_mod (v_callTy call_int1 co_int E.n_int (a_cons (v_op op_addAll ok_add (v_op op_mulW ok_mul (v_tget (i := 0) (k := 3)) v_int) v_int) a_nil)) v_int)
  refine ss_one ?_
  · skip
    exact s_ret (v_op op_mod ok_mod (v_callTy call_int1 co_int E.n_int (a_cons (v_op op_fdivW ok_fdiv (v_tget (i := 0) (k := 3)) v_int) a_nil)) (v_var (i := 1)))
theorem ok__law_group (E : Env K mg) : FnOk P w K mg base (L2.CX P w) 2 E.a__law_group E.fd__law_group ["d"] (FSp K ⟨[], 0⟩ 1 F__law_group) := by
  have S : FnScope N__law_group ["d"] (defScope (top 37)) := ⟨rfl, rfl, rfl, by decide +kernel, rfl, by decide +kernel, by decide +kernel⟩
  refine fn_def (N := N__law_group) (cs := C__law_group) E.F__law_group S (by decide) fun cdv A outer s H Ex hr => ?_
  refine ss_cons ?_ ?_
  · skip
    exact s_asg (i := 1) S.nd (v_lst (a_cons (v_tup (a_cons v_int (a_cons v_int (a_cons v_int a_nil)))) (a_cons (v_tup (a_cons v_int (a_cons v_int (a_cons v_int a_nil)))) (a_cons (v_tup (a_cons v_int (a_cons v_int (a_cons v_int a_nil)))) (a_cons (v_tup (a_cons v_int (a_cons v_int (a_cons v_int a_nil)))) (a_cons (v_tup (a_cons v_int (a_cons v_int (a_cons v_int a_nil)))) (a_cons (v_tup (a_cons v_int (a_cons v_int (a_cons v_int a_nil)))) (a_cons (v_tup (a_cons v_int (a_cons v_int (a_cons v_int a_nil)))) (a_cons (v_tup (a_cons v_int (a_cons v_int (a_cons v_int a_nil)))) (a_cons (v_tup (a_cons v_int (a_cons v_int (a_cons v_int a_nil)))) (a_cons (v_tup (a_cons v_int (a_cons v_int (a_cons v_int a_nil)))) a_nil)))))))))))
  refine ss_one ?_
  · skip
    exact s_ret (v_ix (v_var (i := 1)) (v_call (ok__law_take E) (takes_of rfl rfl rfl rfl) (hr.mono (by decide)) E.m__law_take E.k__law_take E.b__law_take (a_cons (v_var (i := 0)) (a_cons v_int a_nil))))
theorem ok_is_prime (E : Env K mg) : FnOk P w K mg base (L2.CX P w) 1 E.a_is_prime E.fd_is_prime ["number"] (FSp K ⟨[], 0⟩ 1 F_is_prime) := by
  have S : FnScope N_is_prime ["number"] (defScope (top 4)) := ⟨rfl, rfl, rfl, by decide +kernel, rfl, by decide +kernel, by decide +kernel⟩
  refine fn_def (N := N_is_prime) (cs := C_is_prime) E.F_is_prime S (by decide) fun cdv A outer s H Ex hr => ?_
  refine ss_cons ?_ ?_
  · skip
    refine s_if (t_cmp op_lt ok_lt bl_lt (v_var (i := 0)) v_int) ?_ ?_
    · skip
      refine ss_one ?_
      · skip
        exact s_ret v_bl
    · skip
      exact ss_nil
  refine ss_cons ?_ ?_
  · skip
    exact s_asg (i := 1) S.nd v_int
  refine ss_cons ?_ ?_
  · skip
    refine s_while FUEL (passes_of rfl) (t_cmp op_le ok_le bl_le (v_op op_mulW ok_mul (v_var (i := 1)) (v_var (i := 1))) (v_var (i := 0))) ?_
    refine ss_cons ?_ ?_
    · skip
      refine s_if (t_cmp (op_eqD hr.units) ok_eq bl_eq (v_op op_mod ok_mod (v_var (i := 0)) (v_var (i := 1))) v_int) ?_ ?_
      · skip
        refine ss_one ?_
        · skip
          exact s_ret v_bl
      · skip
        exact ss_nil
    refine ss_one ?_
    · skip
      exact s_aug (i := 1) iop_add ok_iadd S.nd v_int
  refine ss_one ?_
  · skip
    exact s_ret v_bl
theorem ok_power_in (E : Env K mg) : FnOk P w K mg base (L2.CX P w) 1 E.a_power_in E.fd_power_in ["p", "base", "times"] (FSp K ⟨[], 0⟩ 3 F_power_in) := by
  have S : FnScope N_power_in ["p", "base", "times"] (defScope (top 6)) := ⟨rfl, rfl, rfl, by decide +kernel, rfl, by decide +kernel, by decide +kernel⟩
  refine fn_def (N := N_power_in) (cs := C_power_in) E.F_power_in S (by decide) fun cdv A outer s H Ex hr => ?_
  refine ss_cons ?_ ?_
  · skip
    exact s_asg (i := 3) S.nd v_int
  refine ss_cons ?_ ?_
  · skip
    exact s_aug (i := 1) iop_mod ok_mod S.nd (v_var (i := 0))
  refine ss_cons ?_ ?_
  · skip
    refine s_while FUEL (passes_of rfl) (t_cmp op_gt ok_gt bl_gt (v_var (i := 2)) v_int) ?_
    refine ss_cons ?_ ?_
    · skip
      refine s_if (t_cmp (op_eqD hr.units) ok_eq bl_eq (v_op op_mod ok_mod (v_var (i := 2)) v_int) v_int) ?_ ?_
      · skip
        refine ss_one ?_
        · skip
          exact s_asg (i := 3) S.nd (v_op op_mod ok_mod (v_op op_mulW ok_mul (v_var (i := 3)) (v_var (i := 1))) (v_var (i := 0)))
      · skip
        exact ss_nil
    refine ss_cons ?_ ?_
    · skip
      exact s_asg (i := 1) S.nd (v_op op_mod ok_mod (v_op op_mulW ok_mul (v_var (i := 1)) (v_var (i := 1))) (v_var (i := 0)))
    refine ss_one ?_
    · skip
      exact s_aug (i := 2) iop_fdivW ok_fdiv S.nd v_int
  refine ss_one ?_
  · skip
    exact s_retV (i := 3)
theorem ok_check (E : Env K mg) : FnOk P w K mg base (L2.CX P w) 2 E.a_check E.fd_check ["group"] (FSp K ⟨[], 0⟩ 1 F_check) := by
  have S : FnScope N_check ["group"] (defScope (top 5)) := ⟨rfl, rfl, rfl, by decide +kernel, rfl, by decide +kernel, by decide +kernel⟩
  refine fn_def (N := N_check) (cs := C_check) E.F_check S (by decide) fun cdv A outer s H Ex hr => ?_
  refine ss_cons ?_ ?_
  · skip
    exact s_unp (js := [1, 2, 3]) (v_var (i := 0)) (pg_tup rfl (pgs_cons (pg_name (i := 1) S.nd rfl (by first | exact Or.inl rfl | exact Or.inr rfl)) (pgs_cons (pg_name (i := 2) S.nd rfl (by first | exact Or.inl rfl | exact Or.inr rfl)) (pgs_cons (pg_name (i := 3) S.nd rfl (by first | exact Or.inl rfl | exact Or.inr rfl)) pgs_nil))))
  refine ss_cons ?_ ?_
  · skip
    refine s_if (t_w (w_or (t_not (t_chain op_le op_le ok_le ok_le bl_le v_int (v_var (i := 1)) (v_gint E.g_MOST))) (w_or1 (t_not (t_val (v_call (ok_is_prime E) (takes_of rfl rfl rfl rfl) (hr.mono (by decide)) E.m_is_prime E.k_is_prime E.b_is_prime (a_cons (v_var (i := 1)) a_nil))))))) ?_ ?_
    · skip
      exact ss_never
    · skip
      exact ss_nil
  refine ss_cons ?_ ?_
  · skip
    refine s_if (t_w (w_or (t_not (t_val (v_call (ok_is_prime E) (takes_of rfl rfl rfl rfl) (hr.mono (by decide)) E.m_is_prime E.k_is_prime E.b_is_prime (a_cons (v_var (i := 2)) a_nil)))) (w_or1 (t_cmp (op_neD hr.units) ok_ne bl_ne (v_op op_mod ok_mod (v_op op_sub ok_sub (v_var (i := 1)) v_int) (v_var (i := 2))) v_int)))) ?_ ?_
    · skip
      exact ss_never
    · skip
      exact ss_nil
  refine ss_one ?_
  · skip
    refine s_if (t_w (w_or (t_not (t_chain op_le op_lt ok_le ok_lt bl_lt v_int (v_var (i := 3)) (v_var (i := 1)))) (w_or1 (t_cmp (op_neD hr.units) ok_ne bl_ne (v_call (ok_power_in E) (takes_of rfl rfl rfl rfl) (hr.mono (by decide)) E.m_power_in E.k_power_in E.b_power_in (a_cons (v_var (i := 1)) (a_cons (v_var (i := 3)) (a_cons (v_var (i := 2)) a_nil)))) v_int)))) ?_ ?_
    · skip
      exact ss_never
    · skip
      exact ss_nil
theorem ok_check_oracle (E : Env K mg) : FnOk P w K mg base (L2.CX P w) 3 E.a_check_oracle E.fd_check_oracle ["group", "oracle"] (FSp K ⟨[], 0⟩ 2 F_check_oracle) := by
  have S : FnScope N_check_oracle ["group", "oracle"] (defScope (top 15)) := ⟨rfl, rfl, rfl, by decide +kernel, rfl, by decide +kernel, by decide +kernel⟩
  refine fn_def (N := N_check_oracle) (cs := C_check_oracle) E.F_check_oracle S (by decide) fun cdv A outer s H Ex hr => ?_
  refine ss_cons ?_ ?_
  · skip
    exact s_drop (v_call (ok_check E) (takes_of rfl rfl rfl rfl) (hr.mono (by decide)) E.m_check E.k_check E.b_check (a_cons (v_var (i := 0)) a_nil))
  refine ss_one ?_
  · skip
    refine s_if (t_w (w_or (t_not (t_chain op_le op_le ok_le ok_le bl_le v_int (v_callB call_len_seq co_len E.n_len (a_cons (v_var (i := 1)) a_nil)) v_int)) (w_or1 (t_not (t_val (v_callB (cr_all rfl) co_all E.n_all (a_cons (v_comp S.nd (i_seq (v_var (i := 1))) [("one", 2)] (by show blkC N_check_oracle (defScope (top 15)) _ _ = true; decide +kernel) (fun _ _ _ _ _ => (pg_name (i := 2) S.nd rfl (by first | exact Or.inl rfl | exact Or.inr rfl))) (fun _ _ _ _ _ => c_nil) (fun _ _ _ _ _ => (v_chain op_le op_lt ok_le ok_lt v_int (v_var (i := 2)) (v_ix (v_var (i := 0)) v_int)))) a_nil))))))) ?_ ?_
    · skip
      exact ss_never
    · skip
      exact ss_nil
theorem ok_check_key (E : Env K mg) : FnOk P w K mg base (L2.CX P w) 3 E.a_check_key E.fd_check_key ["group", "key"] (FSp K ⟨[], 0⟩ 2 F_check_key) := by
  have S : FnScope N_check_key ["group", "key"] (defScope (top 10)) := ⟨rfl, rfl, rfl, by decide +kernel, rfl, by decide +kernel, by decide +kernel⟩
  refine fn_def (N := N_check_key) (cs := C_check_key) E.F_check_key S (by decide) fun cdv A outer s H Ex hr => ?_
  refine ss_cons ?_ ?_
  · skip
    exact s_drop (v_call (ok_check E) (takes_of rfl rfl rfl rfl) (hr.mono (by decide)) E.m_check E.k_check E.b_check (a_cons (v_var (i := 0)) a_nil))
  refine ss_one ?_
  · skip
    refine s_if (t_not (t_chain op_le op_lt ok_le ok_lt bl_lt v_int (v_var (i := 1)) (v_ix (v_var (i := 0)) v_int))) ?_ ?_
    · skip
      exact ss_never
    · skip
      exact ss_nil
theorem ok_check_message (E : Env K mg) : FnOk P w K mg base (L2.CX P w) 1 E.a_check_message E.fd_check_message ["message"] (FSp K ⟨[], 0⟩ 1 F_check_message) := by
  have S : FnScope N_check_message ["message"] (defScope (top 16)) := ⟨rfl, rfl, rfl, by decide +kernel, rfl, by decide +kernel, by decide +kernel⟩
  refine fn_def (N := N_check_message) (cs := C_check_message) E.F_check_message S (by decide) fun cdv A outer s H Ex hr => ?_
  refine ss_one ?_
  · skip
    refine s_if (t_cmp op_lt ok_lt bl_lt (v_var (i := 0)) v_int) ?_ ?_
    · skip
      exact ss_never
    · skip
      exact ss_nil
theorem ok_asked_of (E : Env K mg) : FnOk P w K mg base (L2.CX P w) 4 E.a_asked_of E.fd_asked_of ["group", "oracle", "first", "message"] (FSp K ⟨[], 0⟩ 4 F_asked_of) := by
  have S : FnScope N_asked_of ["group", "oracle", "first", "message"] (defScope (top 17)) := ⟨rfl, rfl, rfl, by decide +kernel, rfl, by decide +kernel, by decide +kernel⟩
  refine fn_def (N := N_asked_of) (cs := C_asked_of) E.F_asked_of S (by decide) fun cdv A outer s H Ex hr => ?_
  refine ss_cons ?_ ?_
  · skip
    exact s_drop (v_call (ok_check_oracle E) (takes_of rfl rfl rfl rfl) (hr.mono (by decide)) E.m_check_oracle E.k_check_oracle E.b_check_oracle (a_cons (v_var (i := 0)) (a_cons (v_var (i := 1)) a_nil)))
  refine ss_cons ?_ ?_
  · skip
    exact s_drop (v_call (ok_check_message E) (takes_of rfl rfl rfl rfl) (hr.mono (by decide)) E.m_check_message E.k_check_message E.b_check_message (a_cons (v_var (i := 3)) a_nil))
  refine ss_one ?_
  · skip
    exact s_ret (v_ix (v_var (i := 1)) (v_op op_mod ok_mod (v_op op_addAll ok_add (v_op op_mulW ok_mul (v_var (i := 2)) v_int) (v_op op_mulW ok_mul (v_var (i := 3)) v_int)) (v_callB call_len_seq co_len E.n_len (a_cons (v_var (i := 1)) a_nil))))
theorem ok_sign (E : Env K mg) : FnOk P w K mg base (L2.CX P w) 5 E.a_sign E.fd_sign ["group", "oracle", "key", "message", "drawn"] (FSp K ⟨[], 0⟩ 5 F_sign) := by
  have S : FnScope N_sign ["group", "oracle", "key", "message", "drawn"] (defScope (top 18)) := ⟨rfl, rfl, rfl, by decide +kernel, rfl, by decide +kernel, by decide +kernel⟩
  refine fn_def (N := N_sign) (cs := C_sign) E.F_sign S (by decide) fun cdv A outer s H Ex hr => ?_
  refine ss_cons ?_ ?_
  · skip
    exact s_drop (v_call (ok_check_oracle E) (takes_of rfl rfl rfl rfl) (hr.mono (by decide)) E.m_check_oracle E.k_check_oracle E.b_check_oracle (a_cons (v_var (i := 0)) (a_cons (v_var (i := 1)) a_nil)))
  refine ss_cons ?_ ?_
  · skip
    exact s_drop (v_call (ok_check_key E) (takes_of rfl rfl rfl rfl) (hr.mono (by decide)) E.m_check_key E.k_check_key E.b_check_key (a_cons (v_var (i := 0)) (a_cons (v_var (i := 2)) a_nil)))
  refine ss_cons ?_ ?_
  · skip
    exact s_drop (v_call (ok_check_message E) (takes_of rfl rfl rfl rfl) (hr.mono (by decide)) E.m_check_message E.k_check_message E.b_check_message (a_cons (v_var (i := 3)) a_nil))
  refine ss_cons ?_ ?_
  · skip
    exact s_drop (v_call (ok_check_key E) (takes_of rfl rfl rfl rfl) (hr.mono (by decide)) E.m_check_key E.k_check_key E.b_check_key (a_cons (v_var (i := 0)) (a_cons (v_var (i := 4)) a_nil)))
  refine ss_cons ?_ ?_
  · skip
    exact s_asg (i := 5) S.nd (v_call (ok_power_in E) (takes_of rfl rfl rfl rfl) (hr.mono (by decide)) E.m_power_in E.k_power_in E.b_power_in (a_cons (v_ix (v_var (i := 0)) v_int) (a_cons (v_ix (v_var (i := 0)) v_int) (a_cons (v_var (i := 4)) a_nil))))
  refine ss_cons ?_ ?_
  · skip
    exact s_asg (i := 6) S.nd (v_call (ok_asked_of E) (takes_of rfl rfl rfl rfl) (hr.mono (by decide)) E.m_asked_of E.k_asked_of E.b_asked_of (a_cons (v_var (i := 0)) (a_cons (v_var (i := 1)) (a_cons (v_var (i := 5)) (a_cons (v_var (i := 3)) a_nil)))))
  refine ss_one ?_
  · skip
    exact s_ret (v_tup (a_cons (v_var (i := 6)) (a_cons (v_op op_mod ok_mod (v_op op_addAll ok_add (v_var (i := 4)) (v_op op_mulW ok_mul (v_var (i := 6)) (v_var (i := 2)))) (v_ix (v_var (i := 0)) v_int)) a_nil)))
theorem ok_together (E : Env K mg) : FnOk P w K mg base (L2.CX P w) 5 E.a_together E.fd_together ["group", "oracle", "keys", "message", "draws"] (FSp K ⟨[], 0⟩ 5 F_together) := by
  have S : FnScope N_together ["group", "oracle", "keys", "message", "draws"] (defScope (top 22)) := ⟨rfl, rfl, rfl, by decide +kernel, rfl, by decide +kernel, by decide +kernel⟩
  refine fn_def (N := N_together) (cs := C_together) E.F_together S (by decide) fun cdv A outer s H Ex hr => ?_
  refine ss_cons ?_ ?_
  · skip
    exact s_drop (v_call (ok_check_oracle E) (takes_of rfl rfl rfl rfl) (hr.mono (by decide)) E.m_check_oracle E.k_check_oracle E.b_check_oracle (a_cons (v_var (i := 0)) (a_cons (v_var (i := 1)) a_nil)))
  refine ss_cons ?_ ?_
  · skip
    refine s_if (t_w (w_or (t_not (t_chain op_le op_le ok_le ok_le bl_le v_int (v_callB call_len_seq co_len E.n_len (a_cons (v_var (i := 2)) a_nil)) (v_gint E.g_MOST_HANDS))) (w_or1 (t_cmp (op_neD hr.units) ok_ne bl_ne (v_callB call_len_seq co_len E.n_len (a_cons (v_var (i := 4)) a_nil)) (v_callB call_len_seq co_len E.n_len (a_cons (v_var (i := 2)) a_nil)))))) ?_ ?_
    · skip
      exact ss_never
    · skip
      exact ss_nil
  refine ss_cons ?_ ?_
  · skip
    refine s_for (passes_of rfl) (i_seqF (v_var (i := 2))) (pg_name (i := 5) S.nd rfl (by first | exact Or.inl rfl | exact Or.inr rfl)) ?_
    refine ss_one ?_
    · skip
      exact s_drop (v_call (ok_check_key E) (takes_of rfl rfl rfl rfl) (hr.mono (by decide)) E.m_check_key E.k_check_key E.b_check_key (a_cons (v_var (i := 0)) (a_cons (v_var (i := 5)) a_nil)))
  refine ss_cons ?_ ?_
  · skip
    exact s_drop (v_call (ok_check_message E) (takes_of rfl rfl rfl rfl) (hr.mono (by decide)) E.m_check_message E.k_check_message E.b_check_message (a_cons (v_var (i := 3)) a_nil))
  refine ss_cons ?_ ?_
  · skip
    refine s_for (passes_of rfl) (i_seqF (v_var (i := 4))) (pg_name (i := 6) S.nd rfl (by first | exact Or.inl rfl | exact Or.inr rfl)) ?_
    refine ss_one ?_
    · skip
      exact s_drop (v_call (ok_check_key E) (takes_of rfl rfl rfl rfl) (hr.mono (by decide)) E.m_check_key E.k_check_key E.b_check_key (a_cons (v_var (i := 0)) (a_cons (v_var (i := 6)) a_nil)))
  refine ss_cons ?_ ?_
  · skip
    exact s_unp (js := [7, 8, 9]) (v_var (i := 0)) (pg_tup rfl (pgs_cons (pg_name (i := 7) S.nd rfl (by first | exact Or.inl rfl | exact Or.inr rfl)) (pgs_cons (pg_name (i := 8) S.nd rfl (by first | exact Or.inl rfl | exact Or.inr rfl)) (pgs_cons (pg_name (i := 9) S.nd rfl (by first | exact Or.inl rfl | exact Or.inr rfl)) pgs_nil))))
  refine ss_cons ?_ ?_
  · skip
    exact (s_asgComp (i := 10) S.nd (i_seq (v_var (i := 4))) [("drawn", 6)] (by show blkC N_together (defScope (top 22)) _ _ = true; decide +kernel) (fun _ _ _ _ _ => (pg_name (i := 6) S.nd rfl (by first | exact Or.inl rfl | exact Or.inr rfl))) (fun _ _ _ _ _ => c_nil) (fun _ _ _ _ _ => (v_call (ok_power_in E) takes0 (hr.mono (by decide)) E.m_power_in E.k_power_in E.b_power_in (a_cons (v_var (i := 7)) (a_cons (v_var (i := 9)) (a_cons (v_var (i := 6)) a_nil))))) (hsw := by rfl))
  refine ss_cons ?_ ?_
  · skip
    exact s_asg (i := 11) S.nd v_int
  refine ss_cons ?_ ?_
  · skip
    refine s_frz ?_
    refine s_for (passes_of rfl) (i_seqF (v_var (i := 10))) (pg_name (i := 12) S.nd rfl (by first | exact Or.inl rfl | exact Or.inr rfl)) ?_
    refine ss_one ?_
    · skip
      exact s_asg (i := 11) S.nd (v_op op_mod ok_mod (v_op op_mulW ok_mul (v_var (i := 11)) (v_var (i := 12))) (v_var (i := 7)))
  refine ss_cons ?_ ?_
  · skip
    exact s_asg (i := 13) S.nd (v_call (ok_asked_of E) (takes_of rfl rfl rfl rfl) (hr.mono (by decide)) E.m_asked_of E.k_asked_of E.b_asked_of (a_cons (v_var (i := 0)) (a_cons (v_var (i := 1)) (a_cons (v_var (i := 11)) (a_cons (v_var (i := 3)) a_nil)))))
  refine ss_cons ?_ ?_
  · skip
    exact (s_asgComp (i := 14) S.nd (i_zip E.n_zip (a_cons (v_var (i := 2)) (a_cons (v_var (i := 4)) a_nil))) [("key", 5), ("drawn", 6)] (by show blkC N_together (defScope (top 22)) _ _ = true; decide +kernel) (fun _ _ _ _ _ => (pg_tup rfl (pgs_cons (pg_name (i := 5) S.nd rfl (by first | exact Or.inl rfl | exact Or.inr rfl)) (pgs_cons (pg_name (i := 6) S.nd rfl (by first | exact Or.inl rfl | exact Or.inr rfl)) pgs_nil)))) (fun _ _ _ _ _ => c_nil) (fun _ _ _ _ _ => (v_op op_mod ok_mod (v_op op_addAll ok_add (v_var (i := 6)) (v_op op_mulW ok_mul (v_var (i := 13)) (v_var (i := 5)))) (v_var (i := 8)))) (hsw := by rfl))
  refine ss_one ?_
  · skip
    exact s_ret (v_tup (a_cons (v_tupZip E.n_tuple E.n_zip (a_cons (v_var (i := 10)) (a_cons (v_var (i := 14)) a_nil))) (a_cons (v_tup (a_cons (v_var (i := 13)) (a_cons (v_op op_mod ok_mod (v_callB (cr_sumA rfl) co_sumA E.n_sum (a_cons (v_var (i := 14)) a_nil)) (v_var (i := 8))) a_nil))) a_nil)))
theorem ok_check_member (E : Env K mg) : FnOk P w K mg base (L2.CX P w) 3 E.a_check_member E.fd_check_member ["group", "one"] (FSp K ⟨[], 0⟩ 2 F_check_member) := by
  have S : FnScope N_check_member ["group", "one"] (defScope (top 9)) := ⟨rfl, rfl, rfl, by decide +kernel, rfl, by decide +kernel, by decide +kernel⟩
  refine fn_def (N := N_check_member) (cs := C_check_member) E.F_check_member S (by decide) fun cdv A outer s H Ex hr => ?_
  refine ss_cons ?_ ?_
  · skip
    exact s_drop (v_call (ok_check E) (takes_of rfl rfl rfl rfl) (hr.mono (by decide)) E.m_check E.k_check E.b_check (a_cons (v_var (i := 0)) a_nil))
  refine ss_one ?_
  · skip
    refine s_if (t_w (w_or (t_not (t_chain op_le op_lt ok_le ok_lt bl_lt v_int (v_var (i := 1)) (v_ix (v_var (i := 0)) v_int))) (w_or1 (t_cmp (op_neD hr.units) ok_ne bl_ne (v_call (ok_power_in E) (takes_of rfl rfl rfl rfl) (hr.mono (by decide)) E.m_power_in E.k_power_in E.b_power_in (a_cons (v_ix (v_var (i := 0)) v_int) (a_cons (v_var (i := 1)) (a_cons (v_ix (v_var (i := 0)) v_int) a_nil)))) v_int)))) ?_ ?_
    · skip
      exact ss_never
    · skip
      exact ss_nil
theorem ok_check_ring (E : Env K mg) : FnOk P w K mg base (L2.CX P w) 4 E.a_check_ring E.fd_check_ring ["group", "publics"] (FSp K ⟨[], 0⟩ 2 F_check_ring) := by
  have S : FnScope N_check_ring ["group", "publics"] (defScope (top 25)) := ⟨rfl, rfl, rfl, by decide +kernel, rfl, by decide +kernel, by decide +kernel⟩
  refine fn_def (N := N_check_ring) (cs := C_check_ring) E.F_check_ring S (by decide) fun cdv A outer s H Ex hr => ?_
  refine ss_cons ?_ ?_
  · skip
    exact s_drop (v_call (ok_check E) (takes_of rfl rfl rfl rfl) (hr.mono (by decide)) E.m_check E.k_check E.b_check (a_cons (v_var (i := 0)) a_nil))
  refine ss_cons ?_ ?_
  · skip
    refine s_if (t_not (t_chain op_le op_le ok_le ok_le bl_le v_int (v_callB call_len_seq co_len E.n_len (a_cons (v_var (i := 1)) a_nil)) (v_gint E.g_MOST_HANDS))) ?_ ?_
    · skip
      exact ss_never
    · skip
      exact ss_nil
  refine ss_one ?_
  · skip
    refine s_for (passes_of rfl) (i_seqF (v_var (i := 1))) (pg_name (i := 2) S.nd rfl (by first | exact Or.inl rfl | exact Or.inr rfl)) ?_
    refine ss_one ?_
    · skip
      exact s_drop (v_call (ok_check_member E) (takes_of rfl rfl rfl rfl) (hr.mono (by decide)) E.m_check_member E.k_check_member E.b_check_member (a_cons (v_var (i := 0)) (a_cons (v_var (i := 2)) a_nil)))
theorem ok_public_of (E : Env K mg) : FnOk P w K mg base (L2.CX P w) 4 E.a_public_of E.fd_public_of ["group", "key"] (FSp K ⟨[], 0⟩ 2 F_public_of) := by
  have S : FnScope N_public_of ["group", "key"] (defScope (top 12)) := ⟨rfl, rfl, rfl, by decide +kernel, rfl, by decide +kernel, by decide +kernel⟩
  refine fn_def (N := N_public_of) (cs := C_public_of) E.F_public_of S (by decide) fun cdv A outer s H Ex hr => ?_
  refine ss_cons ?_ ?_
  · skip
    exact s_drop (v_call (ok_check_key E) (takes_of rfl rfl rfl rfl) (hr.mono (by decide)) E.m_check_key E.k_check_key E.b_check_key (a_cons (v_var (i := 0)) (a_cons (v_var (i := 1)) a_nil)))
  refine ss_one ?_
  · skip
    exact s_ret (v_call (ok_power_in E) (takes_of rfl rfl rfl rfl) (hr.mono (by decide)) E.m_power_in E.k_power_in E.b_power_in (a_cons (v_ix (v_var (i := 0)) v_int) (a_cons (v_ix (v_var (i := 0)) v_int) (a_cons (v_var (i := 1)) a_nil))))
theorem ok_ring_sign (E : Env K mg) : FnOk P w K mg base (L2.CX P w) 5 E.a_ring_sign E.fd_ring_sign ["group", "oracle", "publics", "place", "key", "message", "drawn", "answers"] (FSp K ⟨[], 0⟩ 8 F_ring_sign) := by
  have S : FnScope N_ring_sign ["group", "oracle", "publics", "place", "key", "message", "drawn", "answers"] (defScope (top 26)) := ⟨rfl, rfl, rfl, by decide +kernel, rfl, by decide +kernel, by decide +kernel⟩
  refine fn_def (N := N_ring_sign) (cs := C_ring_sign) E.F_ring_sign S (by decide) fun cdv A outer s H Ex hr => ?_
  refine ss_cons ?_ ?_
  · skip
    exact s_drop (v_call (ok_check_oracle E) (takes_of rfl rfl rfl rfl) (hr.mono (by decide)) E.m_check_oracle E.k_check_oracle E.b_check_oracle (a_cons (v_var (i := 0)) (a_cons (v_var (i := 1)) a_nil)))
  refine ss_cons ?_ ?_
  · skip
    exact s_drop (v_call (ok_check_ring E) (takes_of rfl rfl rfl rfl) (hr.mono (by decide)) E.m_check_ring E.k_check_ring E.b_check_ring (a_cons (v_var (i := 0)) (a_cons (v_var (i := 2)) a_nil)))
  refine ss_cons ?_ ?_
  · skip
    refine s_if (t_w (w_or (t_not (t_chain op_le op_lt ok_le ok_lt bl_lt v_int (v_var (i := 3)) (v_callB call_len_seq co_len E.n_len (a_cons (v_var (i := 2)) a_nil)))) (w_or1 (t_cmp (op_neD hr.units) ok_ne bl_ne (v_call (ok_public_of E) (takes_of rfl rfl rfl rfl) (hr.mono (by decide)) E.m_public_of E.k_public_of E.b_public_of (a_cons (v_var (i := 0)) (a_cons (v_var (i := 4)) a_nil))) (v_ix (v_var (i := 2)) (v_var (i := 3))))))) ?_ ?_
    · skip
      exact ss_never
    · skip
      exact ss_nil
  refine ss_cons ?_ ?_
  · skip
    exact s_drop (v_call (ok_check_message E) (takes_of rfl rfl rfl rfl) (hr.mono (by decide)) E.m_check_message E.k_check_message E.b_check_message (a_cons (v_var (i := 5)) a_nil))
  refine ss_cons ?_ ?_
  · skip
    exact s_drop (v_call (ok_check_key E) (takes_of rfl rfl rfl rfl) (hr.mono (by decide)) E.m_check_key E.k_check_key E.b_check_key (a_cons (v_var (i := 0)) (a_cons (v_var (i := 6)) a_nil)))
  refine ss_cons ?_ ?_
  · skip
    refine s_if (t_cmp (op_neD hr.units) ok_ne bl_ne (v_callB call_len_seq co_len E.n_len (a_cons (v_var (i := 7)) a_nil)) (v_callB call_len_seq co_len E.n_len (a_cons (v_var (i := 2)) a_nil))) ?_ ?_
    · skip
      exact ss_never
    · skip
      exact ss_nil
  refine ss_cons ?_ ?_
  · skip
    refine s_for (passes_of rfl) (i_seqF (v_var (i := 7))) (pg_name (i := 8) S.nd rfl (by first | exact Or.inl rfl | exact Or.inr rfl)) ?_
    refine ss_one ?_
    · skip
      exact s_drop (v_call (ok_check_key E) (takes_of rfl rfl rfl rfl) (hr.mono (by decide)) E.m_check_key E.k_check_key E.b_check_key (a_cons (v_var (i := 0)) (a_cons (v_var (i := 8)) a_nil)))
  refine ss_cons ?_ ?_
  · skip
    exact s_unp (js := [9, 10, 11]) (v_var (i := 0)) (pg_tup rfl (pgs_cons (pg_name (i := 9) S.nd rfl (by first | exact Or.inl rfl | exact Or.inr rfl)) (pgs_cons (pg_name (i := 10) S.nd rfl (by first | exact Or.inl rfl | exact Or.inr rfl)) (pgs_cons (pg_name (i := 11) S.nd rfl (by first | exact Or.inl rfl | exact Or.inr rfl)) pgs_nil))))
  refine ss_cons ?_ ?_
  · skip
    exact s_asg (i := 12) S.nd (v_callB call_len_seq co_len E.n_len (a_cons (v_var (i := 2)) a_nil))
  refine ss_cons ?_ ?_
  · skip
    exact s_asg (i := 13) S.nd (v_op op_rep ok_rep (v_lst (a_cons v_int a_nil)) (v_var (i := 12)))
  refine ss_cons ?_ ?_
  · skip
    exact s_asg (i := 14) S.nd (v_call (ok_asked_of E) (takes_of rfl rfl rfl rfl) (hr.mono (by decide)) E.m_asked_of E.k_asked_of E.b_asked_of (a_cons (v_var (i := 0)) (a_cons (v_var (i := 1)) (a_cons (v_call (ok_power_in E) (takes_of rfl rfl rfl rfl) (hr.mono (by decide)) E.m_power_in E.k_power_in E.b_power_in (a_cons (v_var (i := 9)) (a_cons (v_var (i := 11)) (a_cons (v_var (i := 6)) a_nil)))) (a_cons (v_var (i := 5)) a_nil)))))
  refine ss_cons ?_ ?_
  · skip
    exact s_asg (i := 15) S.nd (v_callTy call_list_of co_list E.n_list (a_cons (v_var (i := 7)) a_nil))
  refine ss_cons ?_ ?_
  · skip
    refine s_for (passes_of rfl) (i_range2 E.n_range (a_cons v_int (a_cons (v_op op_addAll ok_add (v_var (i := 12)) v_int) a_nil))) (pg_name (i := 16) S.nd rfl (by first | exact Or.inl rfl | exact Or.inr rfl)) ?_
    refine ss_cons ?_ ?_
    · skip
      exact s_asg (i := 17) S.nd (v_op op_mod ok_mod (v_op op_addAll ok_add (v_var (i := 3)) (v_var (i := 16))) (v_var (i := 12)))
    refine ss_cons ?_ ?_
    · skip
      exact s_set (i := 13) (v_var (i := 14)) (v_var (i := 17))
    refine ss_one ?_
    · skip
      refine s_if (t_cmp (op_neD hr.units) ok_ne bl_ne (v_var (i := 17)) (v_var (i := 3))) ?_ ?_
      · skip
        refine ss_cons ?_ ?_
        · skip
          exact s_asg (i := 18) S.nd (v_op op_mod ok_mod (v_op op_mulW ok_mul (v_call (ok_power_in E) (takes_of rfl rfl rfl rfl) (hr.mono (by decide)) E.m_power_in E.k_power_in E.b_power_in (a_cons (v_var (i := 9)) (a_cons (v_var (i := 11)) (a_cons (v_ix (v_var (i := 15)) (v_var (i := 17))) a_nil)))) (v_call (ok_power_in E) (takes_of rfl rfl rfl rfl) (hr.mono (by decide)) E.m_power_in E.k_power_in E.b_power_in (a_cons (v_var (i := 9)) (a_cons (v_ix (v_var (i := 2)) (v_var (i := 17))) (a_cons (v_op op_sub ok_sub (v_var (i := 10)) (v_var (i := 14))) a_nil))))) (v_var (i := 9)))
        refine ss_one ?_
        · skip
          exact s_asg (i := 14) S.nd (v_call (ok_asked_of E) (takes_of rfl rfl rfl rfl) (hr.mono (by decide)) E.m_asked_of E.k_asked_of E.b_asked_of (a_cons (v_var (i := 0)) (a_cons (v_var (i := 1)) (a_cons (v_var (i := 18)) (a_cons (v_var (i := 5)) a_nil)))))
      · skip
        exact ss_nil
  refine ss_cons ?_ ?_
  · skip
    exact s_set (i := 15) (v_op op_mod ok_mod (v_op op_addAll ok_add (v_var (i := 6)) (v_op op_mulW ok_mul (v_ix (v_var (i := 13)) (v_var (i := 3))) (v_var (i := 4)))) (v_var (i := 10))) (v_var (i := 3))
  refine ss_one ?_
  · skip
    exact s_ret (v_tup (a_cons (v_ix (v_var (i := 13)) v_int) (a_cons (v_callTy call_tuple_of co_tuple E.n_tuple (a_cons (v_var (i := 15)) a_nil)) a_nil)))
theorem ok__law_order (E : Env K mg) : FnOk P w K mg base (L2.CX P w) 2 E.a__law_order E.fd__law_order ["d", "many"] (FSp K ⟨[], 0⟩ 2 F__law_order) := by
  have S : FnScope N__law_order ["d", "many"] (defScope (top 35)) := ⟨rfl, rfl, rfl, by decide +kernel, rfl, by decide +kernel, by decide +kernel⟩
  refine fn_def (N := N__law_order) (cs := C__law_order) E.F__law_order S (by decide) fun cdv A outer s H Ex hr => ?_
  refine ss_cons ?_ ?_
  · skip
    exact s_par (i := 2) (j := 3) S.nd (v_listRg E.n_list (r_1 E.n_range (v_var (i := 1)))) (v_lst a_nil) (hw := by rfl)
  refine ss_cons ?_ ?_
  · skip
    refine s_while FUEL (passes_of rfl) (t_cmp (op_neD hr.units) ok_ne bl_ne (v_var (i := 2)) (v_lst a_nil)) ?_
    refine ss_one ?_
    · skip
      exact s_appPop (i := 3) (j := 2) (v_call (ok__law_take E) (takes_of rfl rfl rfl rfl) (hr.mono (by decide)) E.m__law_take E.k__law_take E.b__law_take (a_cons (v_var (i := 0)) (a_cons (v_callB call_len_seq co_len E.n_len (a_cons (v_var (i := 2)) a_nil)) a_nil)))
  refine ss_one ?_
  · skip
    exact s_ret (v_callTy call_tuple_of co_tuple E.n_tuple (a_cons (v_var (i := 3)) a_nil))
theorem ok_is_ring_signed (E : Env K mg) : FnOk P w K mg base (L2.CX P w) 5 E.a_is_ring_signed E.fd_is_ring_signed ["group", "oracle", "publics", "message", "signature"] (FSp K ⟨[], 0⟩ 5 F_is_ring_signed) := by
  have S : FnScope N_is_ring_signed ["group", "oracle", "publics", "message", "signature"] (defScope (top 27)) := ⟨rfl, rfl, rfl, by decide +kernel, rfl, by decide +kernel, by decide +kernel⟩
  refine fn_def (N := N_is_ring_signed) (cs := C_is_ring_signed) E.F_is_ring_signed S (by decide) fun cdv A outer s H Ex hr => ?_
  refine ss_cons ?_ ?_
  · skip
    exact s_drop (v_call (ok_check_oracle E) (takes_of rfl rfl rfl rfl) (hr.mono (by decide)) E.m_check_oracle E.k_check_oracle E.b_check_oracle (a_cons (v_var (i := 0)) (a_cons (v_var (i := 1)) a_nil)))
  refine ss_cons ?_ ?_
  · skip
    exact s_drop (v_call (ok_check_ring E) (takes_of rfl rfl rfl rfl) (hr.mono (by decide)) E.m_check_ring E.k_check_ring E.b_check_ring (a_cons (v_var (i := 0)) (a_cons (v_var (i := 2)) a_nil)))
  refine ss_cons ?_ ?_
  · skip
    exact s_drop (v_call (ok_check_message E) (takes_of rfl rfl rfl rfl) (hr.mono (by decide)) E.m_check_message E.k_check_message E.b_check_message (a_cons (v_var (i := 3)) a_nil))
  refine ss_cons ?_ ?_
  · skip
    exact s_unp (js := [5, 6]) (v_var (i := 4)) (pg_tup rfl (pgs_cons (pg_name (i := 5) S.nd rfl (by first | exact Or.inl rfl | exact Or.inr rfl)) (pgs_cons (pg_name (i := 6) S.nd rfl (by first | exact Or.inl rfl | exact Or.inr rfl)) pgs_nil)))
  refine ss_cons ?_ ?_
  · skip
    exact s_unp (js := [7, 8, 9]) (v_var (i := 0)) (pg_tup rfl (pgs_cons (pg_name (i := 7) S.nd rfl (by first | exact Or.inl rfl | exact Or.inr rfl)) (pgs_cons (pg_name (i := 8) S.nd rfl (by first | exact Or.inl rfl | exact Or.inr rfl)) (pgs_cons (pg_name (i := 9) S.nd rfl (by first | exact Or.inl rfl | exact Or.inr rfl)) pgs_nil))))
  refine ss_cons ?_ ?_
  · skip
    refine s_if (t_w (w_or (t_cmp (op_neD hr.units) ok_ne bl_ne (v_callB call_len_seq co_len E.n_len (a_cons (v_var (i := 6)) a_nil)) (v_callB call_len_seq co_len E.n_len (a_cons (v_var (i := 2)) a_nil))) (w_or (t_not (t_chain op_le op_lt ok_le ok_lt bl_lt v_int (v_var (i := 5)) (v_var (i := 8)))) (w_or1 (t_not (t_val (v_callB (cr_all rfl) co_all E.n_all (a_cons (v_comp S.nd (i_seq (v_var (i := 6))) [("one", 12)] (by show blkC N_is_ring_signed (defScope (top 27)) _ _ = true; decide +kernel) (fun _ _ _ _ _ => (pg_name (i := 12) S.nd rfl (by first | exact Or.inl rfl | exact Or.inr rfl))) (fun _ _ _ _ _ => c_nil) (fun _ _ _ _ _ => (v_chain op_le op_lt ok_le ok_lt v_int (v_var (i := 12)) (v_var (i := 8))))) a_nil)))))))) ?_ ?_
    · skip
      refine ss_one ?_
      · skip
        exact s_ret v_bl
    · skip
      exact ss_nil
  refine ss_cons ?_ ?_
  · skip
    exact s_asg (i := 10) S.nd (v_var (i := 5))
  refine ss_cons ?_ ?_
  · skip
    refine s_for (passes_of rfl) (i_zip E.n_zip (a_cons (v_var (i := 2)) (a_cons (v_var (i := 6)) a_nil))) (pg_tup rfl (pgs_cons (pg_name (i := 11) S.nd rfl (by first | exact Or.inl rfl | exact Or.inr rfl)) (pgs_cons (pg_name (i := 12) S.nd rfl (by first | exact Or.inl rfl | exact Or.inr rfl)) pgs_nil))) ?_
    refine ss_cons ?_ ?_
    · skip
      exact s_asg (i := 13) S.nd (v_op op_mod ok_mod (v_op op_mulW ok_mul (v_call (ok_power_in E) (takes_of rfl rfl rfl rfl) (hr.mono (by decide)) E.m_power_in E.k_power_in E.b_power_in (a_cons (v_var (i := 7)) (a_cons (v_var (i := 9)) (a_cons (v_var (i := 12)) a_nil)))) (v_call (ok_power_in E) (takes_of rfl rfl rfl rfl) (hr.mono (by decide)) E.m_power_in E.k_power_in E.b_power_in (a_cons (v_var (i := 7)) (a_cons (v_var (i := 11)) (a_cons (v_op op_sub ok_sub (v_var (i := 8)) (v_var (i := 10))) a_nil))))) (v_var (i := 7)))
    refine ss_one ?_
    · skip
      exact s_asg (i := 10) S.nd (v_call (ok_asked_of E) (takes_of rfl rfl rfl rfl) (hr.mono (by decide)) E.m_asked_of E.k_asked_of E.b_asked_of (a_cons (v_var (i := 0)) (a_cons (v_var (i := 1)) (a_cons (v_var (i := 13)) (a_cons (v_var (i := 3)) a_nil)))))
  refine ss_one ?_
  · skip
    exact s_ret (v_cmp (op_eqD hr.units) ok_eq (v_var (i := 10)) (v_var (i := 5)))
theorem ok__law_moved (E : Env K mg) : FnOk P w K mg base (L2.CX P w) 1 E.a__law_moved E.fd__law_moved ["row", "order"] (FSp K ⟨[], 0⟩ 2 F__law_moved) := by
  have S : FnScope N__law_moved ["row", "order"] (defScope (top 38)) := ⟨rfl, rfl, rfl, by decide +kernel, rfl, by decide +kernel, by decide +kernel⟩
  refine fn_def (N := N__law_moved) (cs := C__law_moved) E.F__law_moved S (by decide) fun cdv A outer s H Ex hr => ?_
  refine ss_one ?_
  · skip
    exact s_ret (v_callTy call_tuple_of co_tuple E.n_tuple (a_cons (v_comp S.nd (i_seq (v_var (i := 1))) [("k", 2)] (by show blkC N__law_moved (defScope (top 38)) _ _ = true; decide +kernel) (fun _ _ _ _ _ => (pg_name (i := 2) S.nd rfl (by first | exact Or.inl rfl | exact Or.inr rfl))) (fun _ _ _ _ _ => c_nil) (fun _ _ _ _ _ => (v_ix (v_var (i := 0)) (v_var (i := 2))))) a_nil))
theorem ok_is_signed (E : Env K mg) : FnOk P w K mg base (L2.CX P w) 5 E.a_is_signed E.fd_is_signed ["group", "oracle", "public", "message", "signature"] (FSp K ⟨[], 0⟩ 5 F_is_signed) := by
  have S : FnScope N_is_signed ["group", "oracle", "public", "message", "signature"] (defScope (top 19)) := ⟨rfl, rfl, rfl, by decide +kernel, rfl, by decide +kernel, by decide +kernel⟩
  refine fn_def (N := N_is_signed) (cs := C_is_signed) E.F_is_signed S (by decide) fun cdv A outer s H Ex hr => ?_
  refine ss_cons ?_ ?_
  · skip
    exact s_drop (v_call (ok_check_oracle E) (takes_of rfl rfl rfl rfl) (hr.mono (by decide)) E.m_check_oracle E.k_check_oracle E.b_check_oracle (a_cons (v_var (i := 0)) (a_cons (v_var (i := 1)) a_nil)))
  refine ss_cons ?_ ?_
  · skip
    exact s_drop (v_call (ok_check_member E) (takes_of rfl rfl rfl rfl) (hr.mono (by decide)) E.m_check_member E.k_check_member E.b_check_member (a_cons (v_var (i := 0)) (a_cons (v_var (i := 2)) a_nil)))
  refine ss_cons ?_ ?_
  · skip
    exact s_drop (v_call (ok_check_message E) (takes_of rfl rfl rfl rfl) (hr.mono (by decide)) E.m_check_message E.k_check_message E.b_check_message (a_cons (v_var (i := 3)) a_nil))
  refine ss_cons ?_ ?_
  · skip
    exact s_unp (js := [5, 6]) (v_var (i := 4)) (pg_tup rfl (pgs_cons (pg_name (i := 5) S.nd rfl (by first | exact Or.inl rfl | exact Or.inr rfl)) (pgs_cons (pg_name (i := 6) S.nd rfl (by first | exact Or.inl rfl | exact Or.inr rfl)) pgs_nil)))
  refine ss_cons ?_ ?_
  · skip
    exact s_unp (js := [7, 8, 9]) (v_var (i := 0)) (pg_tup rfl (pgs_cons (pg_name (i := 7) S.nd rfl (by first | exact Or.inl rfl | exact Or.inr rfl)) (pgs_cons (pg_name (i := 8) S.nd rfl (by first | exact Or.inl rfl | exact Or.inr rfl)) (pgs_cons (pg_name (i := 9) S.nd rfl (by first | exact Or.inl rfl | exact Or.inr rfl)) pgs_nil))))
  refine ss_cons ?_ ?_
  · skip
    refine s_if (t_not (t_w (w_and (t_chain op_le op_lt ok_le ok_lt bl_lt v_int (v_var (i := 5)) (v_var (i := 8))) (w_and1 (t_chain op_le op_lt ok_le ok_lt bl_lt v_int (v_var (i := 6)) (v_var (i := 8))))))) ?_ ?_
    · skip
      refine ss_one ?_
      · skip
        exact s_ret v_bl
    · skip
      exact ss_nil
  refine ss_cons ?_ ?_
  · skip
    exact s_asg (i := 10) S.nd (v_op op_mod ok_mod (v_op op_mulW ok_mul (v_call (ok_power_in E) (takes_of rfl rfl rfl rfl) (hr.mono (by decide)) E.m_power_in E.k_power_in E.b_power_in (a_cons (v_var (i := 7)) (a_cons (v_var (i := 9)) (a_cons (v_var (i := 6)) a_nil)))) (v_call (ok_power_in E) (takes_of rfl rfl rfl rfl) (hr.mono (by decide)) E.m_power_in E.k_power_in E.b_power_in (a_cons (v_var (i := 7)) (a_cons (v_var (i := 2)) (a_cons (v_op op_sub ok_sub (v_var (i := 8)) (v_var (i := 5))) a_nil))))) (v_var (i := 7)))
  refine ss_one ?_
  · skip
    exact s_ret (v_cmp (op_eqD hr.units) ok_eq (v_call (ok_asked_of E) (takes_of rfl rfl rfl rfl) (hr.mono (by decide)) E.m_asked_of E.k_asked_of E.b_asked_of (a_cons (v_var (i := 0)) (a_cons (v_var (i := 1)) (a_cons (v_var (i := 10)) (a_cons (v_var (i := 3)) a_nil))))) (v_var (i := 5)))
theorem ok_by_shares (E : Env K mg) : FnOk P w K mg base (L2.CX P w) 6 E.a_by_shares E.fd_by_shares ["group", "oracle", "shares", "places", "message", "draws"] (FSp K ⟨[], 0⟩ 6 F_by_shares) := by
  have S : FnScope N_by_shares ["group", "oracle", "shares", "places", "message", "draws"] (defScope (top 24)) := ⟨rfl, rfl, rfl, by decide +kernel, rfl, by decide +kernel, by decide +kernel⟩
  refine fn_def (N := N_by_shares) (cs := C_by_shares) E.F_by_shares S (by decide) fun cdv A outer s H Ex hr => ?_
  refine ss_cons ?_ ?_
  · skip
    exact s_drop (v_call (ok_check_oracle E) (takes_of rfl rfl rfl rfl) (hr.mono (by decide)) E.m_check_oracle E.k_check_oracle E.b_check_oracle (a_cons (v_var (i := 0)) (a_cons (v_var (i := 1)) a_nil)))
  refine ss_cons ?_ ?_
  · skip
    exact s_asg (i := 6) S.nd (v_ix (v_var (i := 0)) v_int)
  refine ss_cons ?_ ?_
  · skip
    refine s_if (t_w (w_or (t_cmp (op_neD hr.units) ok_ne bl_ne (v_callB call_len_seq co_len E.n_len (a_cons (v_var (i := 2)) a_nil)) (v_callB call_len_seq co_len E.n_len (a_cons (v_var (i := 3)) a_nil))) (w_or (t_cmp (op_neD hr.units) ok_ne bl_ne (v_callB call_len_seq co_len E.n_len (a_cons (v_var (i := 5)) a_nil)) (v_callB call_len_seq co_len E.n_len (a_cons (v_var (i := 3)) a_nil))) (w_or1 (t_not (t_chain op_le op_le ok_le ok_le bl_le v_int (v_callB call_len_seq co_len E.n_len (a_cons (v_var (i := 3)) a_nil)) (v_gint E.g_MOST_HANDS))))))) ?_ ?_
    · skip
      exact ss_never
    · skip
      exact ss_nil
  refine ss_cons ?_ ?_
  · skip
    refine s_if (t_w (w_or (t_cmp (op_neD hr.units) ok_ne bl_ne (v_callB cr_lenD co_lenD E.n_len (a_cons (v_dcomp S.nd (i_seq (v_var (i := 3))) [("place", 8)] (by show blkC N_by_shares (defScope (top 24)) _ _ = true; decide +kernel) (fun _ _ _ _ _ => (pg_name (i := 8) S.nd rfl (by first | exact Or.inl rfl | exact Or.inr rfl))) (fun _ _ _ _ _ => c_nil) (fun _ _ _ _ _ => (v_op op_mod ok_mod (v_var (i := 8)) (v_var (i := 6)))) (fun _ _ _ _ _ => v_bl)) a_nil)) (v_callB call_len_seq co_len E.n_len (a_cons (v_var (i := 3)) a_nil))) (w_or1 (t_val (v_callB (cr_any rfl) co_any E.n_any (a_cons (v_comp S.nd (i_seq (v_var (i := 3))) [("place", 8)] (by show blkC N_by_shares (defScope (top 24)) _ _ = true; decide +kernel) (fun _ _ _ _ _ => (pg_name (i := 8) S.nd rfl (by first | exact Or.inl rfl | exact Or.inr rfl))) (fun _ _ _ _ _ => c_nil) (fun _ _ _ _ _ => (v_cmp (op_eqD hr.units) ok_eq (v_op op_mod ok_mod (v_var (i := 8)) (v_var (i := 6))) v_int))) a_nil)))))) ?_ ?_
    · skip
      exact ss_never
    · skip
      exact ss_nil
  refine ss_cons ?_ ?_
  · skip
    exact s_asg (i := 7) S.nd (v_lst a_nil)
  refine ss_cons ?_ ?_
  · skip
    refine s_for (passes_of rfl) (i_zip E.n_zip (a_cons (v_var (i := 3)) (a_cons (v_var (i := 2)) a_nil))) (pg_tup rfl (pgs_cons (pg_name (i := 8) S.nd rfl (by first | exact Or.inl rfl | exact Or.inr rfl)) (pgs_cons (pg_name (i := 9) S.nd rfl (by first | exact Or.inl rfl | exact Or.inr rfl)) pgs_nil))) ?_
    refine ss_cons ?_ ?_
    · skip
      exact s_drop (v_call (ok_check_key E) (takes_of rfl rfl rfl rfl) (hr.mono (by decide)) E.m_check_key E.k_check_key E.b_check_key (a_cons (v_var (i := 0)) (a_cons (v_var (i := 9)) a_nil)))
    refine ss_cons ?_ ?_
    · skip
      exact s_unp (js := [10, 11]) (v_tup (a_cons v_int (a_cons v_int a_nil))) (pg_tup rfl (pgs_cons (pg_name (i := 10) S.nd rfl (by first | exact Or.inl rfl | exact Or.inr rfl)) (pgs_cons (pg_name (i := 11) S.nd rfl (by first | exact Or.inl rfl | exact Or.inr rfl)) pgs_nil)))
    refine ss_cons ?_ ?_
    · skip
      refine s_for (passes_of rfl) (i_seqF (v_var (i := 3))) (pg_name (i := 12) S.nd rfl (by first | exact Or.inl rfl | exact Or.inr rfl)) ?_
      refine ss_one ?_
      · skip
        refine s_if (t_cmp (op_neD hr.units) ok_ne bl_ne (v_var (i := 12)) (v_var (i := 8))) ?_ ?_
        · skip
          refine ss_cons ?_ ?_
          · skip
            exact s_asg (i := 10) S.nd (v_op op_mod ok_mod (v_op op_mulW ok_mul (v_var (i := 10)) (v_op op_sub ok_sub v_int (v_var (i := 12)))) (v_var (i := 6)))
          refine ss_one ?_
          · skip
            exact s_asg (i := 11) S.nd (v_op op_mod ok_mod (v_op op_mulW ok_mul (v_var (i := 11)) (v_op op_sub ok_sub (v_var (i := 8)) (v_var (i := 12)))) (v_var (i := 6)))
        · skip
          exact ss_nil
    refine ss_one ?_
    · skip
      exact s_app (i := 7) (v_op op_mod ok_mod (v_op op_mulW ok_mul (v_op op_mulW ok_mul (v_var (i := 9)) (v_var (i := 10))) (v_call (ok_power_in E) (takes_of rfl rfl rfl rfl) (hr.mono (by decide)) E.m_power_in E.k_power_in E.b_power_in (a_cons (v_var (i := 6)) (a_cons (v_var (i := 11)) (a_cons (v_op op_sub ok_sub (v_var (i := 6)) v_int) a_nil))))) (v_var (i := 6)))
  refine ss_one ?_
  · skip
    exact s_ret (v_ix (v_call (ok_together E) (takes_of rfl rfl rfl rfl) (hr.mono (by decide)) E.m_together E.k_together E.b_together (a_cons (v_var (i := 0)) (a_cons (v_var (i := 1)) (a_cons (v_callTy call_tuple_of co_tuple E.n_tuple (a_cons (v_var (i := 7)) a_nil)) (a_cons (v_var (i := 4)) (a_cons (v_var (i := 5)) a_nil)))))) v_int)
theorem ok__law_some (E : Env K mg) : FnOk P w K mg base (L2.CX P w) 2 E.a__law_some E.fd__law_some ["d", "many", "often"] (FSp K ⟨[], 0⟩ 3 F__law_some) := by
  have S : FnScope N__law_some ["d", "many", "often"] (defScope (top 34)) := ⟨rfl, rfl, rfl, by decide +kernel, rfl, by decide +kernel, by decide +kernel⟩
  refine fn_def (N := N__law_some) (cs := C__law_some) E.F__law_some S (by decide) fun cdv A outer s H Ex hr => ?_
  refine ss_one ?_
  · skip
    exact s_ret (v_comp S.nd (i_range1 E.n_range (a_cons (v_var (i := 2)) a_nil)) [("k", 3)] (by show blkC N__law_some (defScope (top 34)) _ _ = true; decide +kernel) (fun _ _ _ _ _ => (pg_name (i := 3) S.nd rfl (by first | exact Or.inl rfl | exact Or.inr rfl))) (fun _ _ _ _ _ => c_nil) (fun _ _ _ _ _ => (v_call (ok__law_take E) takes0 (hr.mono (by decide)) E.m__law_take E.k__law_take E.b__law_take (a_cons (v_var (i := 0)) (a_cons (v_var (i := 1)) a_nil)))))
theorem ok_part_is_right (E : Env K mg) : FnOk P w K mg base (L2.CX P w) 4 E.a_part_is_right E.fd_part_is_right ["group", "public", "first", "asked", "told"] (FSp K ⟨[], 0⟩ 5 F_part_is_right) := by
  have S : FnScope N_part_is_right ["group", "public", "first", "asked", "told"] (defScope (top 23)) := ⟨rfl, rfl, rfl, by decide +kernel, rfl, by decide +kernel, by decide +kernel⟩
  refine fn_def (N := N_part_is_right) (cs := C_part_is_right) E.F_part_is_right S (by decide) fun cdv A outer s H Ex hr => ?_
  refine ss_cons ?_ ?_
  · skip
    exact s_drop (v_call (ok_check_member E) (takes_of rfl rfl rfl rfl) (hr.mono (by decide)) E.m_check_member E.k_check_member E.b_check_member (a_cons (v_var (i := 0)) (a_cons (v_var (i := 1)) a_nil)))
  refine ss_cons ?_ ?_
  · skip
    exact s_drop (v_call (ok_check_member E) (takes_of rfl rfl rfl rfl) (hr.mono (by decide)) E.m_check_member E.k_check_member E.b_check_member (a_cons (v_var (i := 0)) (a_cons (v_var (i := 2)) a_nil)))
  refine ss_cons ?_ ?_
  · skip
    exact s_drop (v_call (ok_check_key E) (takes_of rfl rfl rfl rfl) (hr.mono (by decide)) E.m_check_key E.k_check_key E.b_check_key (a_cons (v_var (i := 0)) (a_cons (v_var (i := 3)) a_nil)))
  refine ss_cons ?_ ?_
  · skip
    exact s_drop (v_call (ok_check_key E) (takes_of rfl rfl rfl rfl) (hr.mono (by decide)) E.m_check_key E.k_check_key E.b_check_key (a_cons (v_var (i := 0)) (a_cons (v_var (i := 4)) a_nil)))
  refine ss_cons ?_ ?_
  · skip
    exact s_unp (js := [5, 6, 7]) (v_var (i := 0)) (pg_tup rfl (pgs_cons (pg_name (i := 5) S.nd rfl (by first | exact Or.inl rfl | exact Or.inr rfl)) (pgs_cons (pg_name (i := 6) S.nd rfl (by first | exact Or.inl rfl | exact Or.inr rfl)) (pgs_cons (pg_name (i := 7) S.nd rfl (by first | exact Or.inl rfl | exact Or.inr rfl)) pgs_nil))))
  refine ss_one ?_
  · skip
    exact s_ret (v_cmp (op_eqD hr.units) ok_eq (v_call (ok_power_in E) (takes_of rfl rfl rfl rfl) (hr.mono (by decide)) E.m_power_in E.k_power_in E.b_power_in (a_cons (v_var (i := 5)) (a_cons (v_var (i := 7)) (a_cons (v_var (i := 4)) a_nil)))) (v_op op_mod ok_mod (v_op op_mulW ok_mul (v_var (i := 2)) (v_call (ok_power_in E) (takes_of rfl rfl rfl rfl) (hr.mono (by decide)) E.m_power_in E.k_power_in E.b_power_in (a_cons (v_var (i := 5)) (a_cons (v_var (i := 1)) (a_cons (v_var (i := 3)) a_nil))))) (v_var (i := 5))))
theorem ok_power (E : Env K mg) : FnOk P w K mg base (L2.CX P w) 3 E.a_power E.fd_power ["group", "base", "times"] (FSp K ⟨[], 0⟩ 3 F_power) := by
  have S : FnScope N_power ["group", "base", "times"] (defScope (top 7)) := ⟨rfl, rfl, rfl, by decide +kernel, rfl, by decide +kernel, by decide +kernel⟩
  refine fn_def (N := N_power) (cs := C_power) E.F_power S (by decide) fun cdv A outer s H Ex hr => ?_
  refine ss_cons ?_ ?_
  · skip
    exact s_drop (v_call (ok_check E) (takes_of rfl rfl rfl rfl) (hr.mono (by decide)) E.m_check E.k_check E.b_check (a_cons (v_var (i := 0)) a_nil))
  refine ss_cons ?_ ?_
  · skip
    refine s_if (t_not (t_chain op_le op_lt ok_le ok_lt bl_lt v_int (v_var (i := 1)) (v_ix (v_var (i := 0)) v_int))) ?_ ?_
    · skip
      exact ss_never
    · skip
      exact ss_nil
  refine ss_one ?_
  · skip
    exact s_ret (v_call (ok_power_in E) (takes_of rfl rfl rfl rfl) (hr.mono (by decide)) E.m_power_in E.k_power_in E.b_power_in (a_cons (v_ix (v_var (i := 0)) v_int) (a_cons (v_var (i := 1)) (a_cons (v_op op_mod ok_mod (v_var (i := 2)) (v_op op_sub ok_sub (v_ix (v_var (i := 0)) v_int) v_int)) a_nil))))
theorem ok_members (E : Env K mg) : FnOk P w K mg base (L2.CX P w) 3 E.a_members E.fd_members ["group"] (FSp K ⟨[], 0⟩ 1 F_members) := by
  have S : FnScope N_members ["group"] (defScope (top 8)) := ⟨rfl, rfl, rfl, by decide +kernel, rfl, by decide +kernel, by decide +kernel⟩
  refine fn_def (N := N_members) (cs := C_members) E.F_members S (by decide) fun cdv A outer s H Ex hr => ?_
  refine ss_cons ?_ ?_
  · skip
    exact s_drop (v_call (ok_check E) (takes_of rfl rfl rfl rfl) (hr.mono (by decide)) E.m_check E.k_check E.b_check (a_cons (v_var (i := 0)) a_nil))
  refine ss_cons ?_ ?_
  · skip
    exact s_asg (i := 1) S.nd (v_lst a_nil)
  refine ss_cons ?_ ?_
  · skip
    exact s_asg (i := 2) S.nd v_int
  refine ss_cons ?_ ?_
  · skip
    refine s_for (passes_of rfl) (i_range1 E.n_range (a_cons (v_ix (v_var (i := 0)) v_int) a_nil)) (pg_name (i := 3) S.nd rfl (by first | exact Or.inl rfl | exact Or.inr rfl)) ?_
    refine ss_cons ?_ ?_
    · skip
      exact s_app (i := 1) (v_var (i := 2))
    refine ss_one ?_
    · skip
      exact s_asg (i := 2) S.nd (v_op op_mod ok_mod (v_op op_mulW ok_mul (v_var (i := 2)) (v_ix (v_var (i := 0)) v_int)) (v_ix (v_var (i := 0)) v_int))
  refine ss_one ?_
  · skip
    exact s_ret (v_callTy call_tuple_of co_tuple E.n_tuple (a_cons (v_callB cr_sortedI co_sorted E.n_sorted (a_cons (v_var (i := 1)) a_nil)) a_nil))
theorem ok__law_power (E : Env K mg) : FnOk P w K mg base (L2.CX P w) 1 E.a__law_power E.fd__law_power ["p", "base", "times"] (FSp K ⟨[], 0⟩ 3 F__law_power) := by
  have S : FnScope N__law_power ["p", "base", "times"] (defScope (top 36)) := ⟨rfl, rfl, rfl, by decide +kernel, rfl, by decide +kernel, by decide +kernel⟩
  refine fn_def (N := N__law_power) (cs := C__law_power) E.F__law_power S (by decide) fun cdv A outer s H Ex hr => ?_
  refine ss_cons ?_ ?_
  · skip
    exact s_asg (i := 3) S.nd v_int
  refine ss_cons ?_ ?_
  · skip
    refine s_for (passes_of rfl) (i_range1 E.n_range (a_cons (v_var (i := 2)) a_nil)) (pg_name (i := 4) S.nd rfl (by first | exact Or.inl rfl | exact Or.inr rfl)) ?_
    refine ss_one ?_
    · skip
      exact s_asg (i := 3) S.nd (v_op op_mod ok_mod (v_callTy call_int1 co_int E.n_int (a_cons (v_op op_mulW ok_mul (v_var (i := 3)) (v_var (i := 1))) a_nil)) (v_var (i := 0)))
  refine ss_one ?_
  · skip
    exact s_retV (i := 3)
theorem ok__law_part2 (E : Env K mg) : FnOk P w K mg base (L2.CX P w) 7 E.a__law_part2 E.fd__law_part2 ["d", "group", "p", "q", "g", "oracle", "message", "secret", "drawn", "public", "first", "told", "many", "keys", "draws", "parts", "signature", "order"] (FSp K ⟨[], 0⟩ 18 F__law_part2) := by
  have S : FnScope N__law_part2 ["d", "group", "p", "q", "g", "oracle", "message", "secret", "drawn", "public", "first", "told", "many", "keys", "draws", "parts", "signature", "order"] (defScope (top 39)) := ⟨rfl, rfl, rfl, by decide +kernel, rfl, by decide +kernel, by decide +kernel⟩
  refine fn_def (N := N__law_part2) (cs := C__law_part2) E.F__law_part2 S (by decide) fun cdv A outer s H Ex hr => ?_
  refine ss_cons ?_ ?_
  · skip
    refine s_if (t_cmp (op_neD hr.units) ok_ne bl_ne (v_call (ok_together E) (takes_of rfl rfl rfl rfl) (hr.mono (by decide)) E.m_together E.k_together E.b_together (a_cons (v_var (i := 1)) (a_cons (v_var (i := 5)) (a_cons (v_call (ok__law_moved E) (takes_of rfl rfl rfl rfl) (hr.mono (by decide)) E.m__law_moved E.k__law_moved E.b__law_moved (a_cons (v_var (i := 13)) (a_cons (v_var (i := 17)) a_nil))) (a_cons (v_var (i := 6)) (a_cons (v_call (ok__law_moved E) (takes_of rfl rfl rfl rfl) (hr.mono (by decide)) E.m__law_moved E.k__law_moved E.b__law_moved (a_cons (v_var (i := 14)) (a_cons (v_var (i := 17)) a_nil))) a_nil)))))) (v_tup (a_cons (v_call (ok__law_moved E) (takes_of rfl rfl rfl rfl) (hr.mono (by decide)) E.m__law_moved E.k__law_moved E.b__law_moved (a_cons (v_var (i := 15)) (a_cons (v_var (i := 17)) a_nil))) (a_cons (v_var (i := 16)) a_nil)))) ?_ ?_
    · skip
      refine ss_one ?_
      · skip
        exact s_ret v_bl
    · skip
      exact ss_nil
  refine ss_cons ?_ ?_
  · skip
    refine s_if (t_cmp (op_neD hr.units) ok_ne bl_ne (v_var (i := 16)) (v_call (ok_sign E) (takes_of rfl rfl rfl rfl) (hr.mono (by decide)) E.m_sign E.k_sign E.b_sign (a_cons (v_var (i := 1)) (a_cons (v_var (i := 5)) (a_cons (v_op op_mod ok_mod (v_callTy call_int1 co_int E.n_int (a_cons (v_callB (cr_sumA rfl) co_sumA E.n_sum (a_cons (v_var (i := 13)) a_nil)) a_nil)) (v_var (i := 3))) (a_cons (v_var (i := 6)) (a_cons (v_op op_mod ok_mod (v_callTy call_int1 co_int E.n_int (a_cons (v_callB (cr_sumA rfl) co_sumA E.n_sum (a_cons (v_var (i := 14)) a_nil)) a_nil)) (v_var (i := 3))) a_nil))))))) ?_ ?_
    · skip
      refine ss_one ?_
      · skip
        exact s_ret v_bl
    · skip
      exact ss_nil
  refine ss_cons ?_ ?_
  · skip
    refine s_if (t_val (v_callB (cr_any rfl) co_any E.n_any (a_cons (v_comp S.nd (i_zip E.n_zip (a_cons (v_var (i := 13)) (a_cons (v_var (i := 15)) a_nil))) [("key", 32), ("part", 33)] (by show blkC N__law_part2 (defScope (top 39)) _ _ = true; decide +kernel) (fun _ _ _ _ _ => (pg_tup rfl (pgs_cons (pg_name (i := 32) S.nd rfl (by first | exact Or.inl rfl | exact Or.inr rfl)) (pgs_cons (pg_name (i := 33) S.nd rfl (by first | exact Or.inl rfl | exact Or.inr rfl)) pgs_nil)))) (fun _ _ _ _ _ => c_nil) (fun _ _ _ _ _ => (v_not (v_call (ok_part_is_right E) takes0 (hr.mono (by decide)) E.m_part_is_right E.k_part_is_right E.b_part_is_right (a_cons (v_var (i := 1)) (a_cons (v_call (ok_power E) takes0 (hr.mono (by decide)) E.m_power E.k_power E.b_power (a_cons (v_var (i := 1)) (a_cons (v_var (i := 4)) (a_cons (v_var (i := 32)) a_nil)))) (a_cons (v_ix (v_var (i := 33)) v_int) (a_cons (v_ix (v_var (i := 16)) v_int) (a_cons (v_ix (v_var (i := 33)) v_int) a_nil))))))))) a_nil))) ?_ ?_
    · skip
      refine ss_one ?_
      · skip
        exact s_ret v_bl
    · skip
      exact ss_nil
  refine ss_cons ?_ ?_
  · skip
    refine s_if (t_w (w_or (t_w (w_and (t_cmp op_lt ok_lt bl_lt (v_var (i := 12)) v_int) (w_and1 (t_cmp (op_neD hr.units) ok_ne bl_ne (v_ix (v_call (ok_together E) (takes_of rfl rfl rfl rfl) (hr.mono (by decide)) E.m_together E.k_together E.b_together (a_cons (v_var (i := 1)) (a_cons (v_var (i := 5)) (a_cons (v_op op_addAll ok_add (v_var (i := 13)) (v_tup (a_cons v_int a_nil))) (a_cons (v_var (i := 6)) (a_cons (v_op op_addAll ok_add (v_var (i := 14)) (v_tup (a_cons v_int a_nil))) a_nil)))))) v_int) (v_var (i := 16)))))) (w_or1 (t_cmp (op_neD hr.units) ok_ne bl_ne (v_call (ok_together E) (takes_of rfl rfl rfl rfl) (hr.mono (by decide)) E.m_together E.k_together E.b_together (a_cons (v_var (i := 1)) (a_cons (v_var (i := 5)) (a_cons (v_tup (a_cons (v_var (i := 7)) a_nil)) (a_cons (v_var (i := 6)) (a_cons (v_tup (a_cons (v_var (i := 8)) a_nil)) a_nil)))))) (v_tup (a_cons (v_tup (a_cons (v_tup (a_cons (v_var (i := 10)) (a_cons (v_ix (v_var (i := 11)) v_int) a_nil))) a_nil)) (a_cons (v_var (i := 11)) a_nil))))))) ?_ ?_
    · skip
      refine ss_one ?_
      · skip
        exact s_ret v_bl
    · skip
      exact ss_nil
  refine ss_cons ?_ ?_
  · skip
    refine s_if (t_cmp op_gt ok_gt bl_gt (v_var (i := 3)) (v_var (i := 12))) ?_ ?_
    · skip
      refine ss_cons ?_ ?_
      · skip
        exact s_asg (i := 18) S.nd (v_callTy call_tuple_of co_tuple E.n_tuple (a_cons (v_comp S.nd (i_seq (v_slice (v_call (ok__law_order E) (takes_of rfl rfl rfl rfl) (hr.mono (by decide)) E.m__law_order E.k__law_order E.b__law_order (a_cons (v_var (i := 0)) (a_cons (v_op op_sub ok_sub (v_var (i := 3)) v_int) a_nil))) p_no (p_some (v_var (i := 12))))) [("k", 29)] (by show blkC N__law_part2 (defScope (top 39)) _ _ = true; decide +kernel) (fun _ _ _ _ _ => (pg_name (i := 29) S.nd rfl (by first | exact Or.inl rfl | exact Or.inr rfl))) (fun _ _ _ _ _ => c_nil) (fun _ _ _ _ _ => (v_op op_addAll ok_add (v_var (i := 29)) v_int))) a_nil))
      refine ss_cons ?_ ?_
      · skip
        exact s_par2 (i := 19) (j := 20) S.nd (a_cons (v_callTy call_tuple_of co_tuple E.n_tuple (a_cons (v_call (ok__law_some E) (takes_of rfl rfl rfl rfl) (hr.mono (by decide)) E.m__law_some E.k__law_some E.b__law_some (a_cons (v_var (i := 0)) (a_cons (v_var (i := 3)) (a_cons (v_var (i := 12)) a_nil)))) a_nil)) (a_cons (v_callTy call_tuple_of co_tuple E.n_tuple (a_cons (v_call (ok__law_some E) (takes_of rfl rfl rfl rfl) (hr.mono (by decide)) E.m__law_some E.k__law_some E.b__law_some (a_cons (v_var (i := 0)) (a_cons (v_var (i := 3)) (a_cons (v_var (i := 12)) a_nil)))) a_nil)) a_nil)) (hw := by rfl)
      refine ss_cons ?_ ?_
      · skip
        exact (s_asgComp (i := 21) S.nd (i_seq (v_tup (a_cons (v_var (i := 19)) (a_cons (v_var (i := 20)) a_nil)))) [("poly", 34)] (by show blkC N__law_part2 (defScope (top 39)) _ _ = true; decide +kernel) (fun _ _ _ _ _ => (pg_name (i := 34) S.nd rfl (by first | exact Or.inl rfl | exact Or.inr rfl))) (fun _ _ _ _ _ => c_nil) (fun _ _ _ _ _ => (v_callTy call_tuple_of co_tuple E.n_tuple (a_cons (v_comp S.nd (i_seq (v_var (i := 18))) [("place", 35)] (by rfl) (fun _ _ _ _ _ => (pg_name (i := 35) S.nd rfl (by first | exact Or.inl rfl | exact Or.inr rfl))) (fun _ _ _ _ _ => c_nil) (fun _ _ _ _ _ => (v_op op_mod ok_mod (v_callTy call_int1 co_int E.n_int (a_cons (v_callB (cr_sumA rfl) co_sumA E.n_sum (a_cons (v_comp S.nd (i_enum E.n_enumerate (a_cons (v_var (i := 34)) a_nil)) [("k", 29), ("factor", 36)] (by rfl) (fun _ _ _ _ _ => (pg_tup rfl (pgs_cons (pg_name (i := 29) S.nd rfl (by first | exact Or.inl rfl | exact Or.inr rfl)) (pgs_cons (pg_name (i := 36) S.nd rfl (by first | exact Or.inl rfl | exact Or.inr rfl)) pgs_nil)))) (fun _ _ _ _ _ => c_nil) (fun _ _ _ _ _ => (v_op op_mulW ok_mul (v_var (i := 36)) (v_call (ok__law_power E) takes0 (hr.mono (by decide)) E.m__law_power E.k__law_power E.b__law_power (a_cons (v_var (i := 3)) (a_cons (v_var (i := 35)) (a_cons (v_var (i := 29)) a_nil))))))) a_nil)) a_nil)) (v_var (i := 3))))) a_nil))) (hsw := by rfl))
      refine ss_cons ?_ ?_
      · skip
        exact s_asg (i := 22) S.nd (v_callTy call_tuple_of co_tuple E.n_tuple (a_cons (v_comp S.nd (i_zip E.n_zip (a_cons (v_ix (v_var (i := 21)) v_int) (a_cons (v_ix (v_var (i := 21)) v_int) a_nil))) [("x", 37), ("y", 38)] (by show blkC N__law_part2 (defScope (top 39)) _ _ = true; decide +kernel) (fun _ _ _ _ _ => (pg_tup rfl (pgs_cons (pg_name (i := 37) S.nd rfl (by first | exact Or.inl rfl | exact Or.inr rfl)) (pgs_cons (pg_name (i := 38) S.nd rfl (by first | exact Or.inl rfl | exact Or.inr rfl)) pgs_nil)))) (fun _ _ _ _ _ => c_nil) (fun _ _ _ _ _ => (v_op op_mod ok_mod (v_callTy call_int1 co_int E.n_int (a_cons (v_op op_addAll ok_add (v_var (i := 37)) (v_var (i := 38))) a_nil)) (v_var (i := 3))))) a_nil))
      refine ss_cons ?_ ?_
      · skip
        refine s_if (t_not (t_val (v_call (ok_is_signed E) (takes_of rfl rfl rfl rfl) (hr.mono (by decide)) E.m_is_signed E.k_is_signed E.b_is_signed (a_cons (v_var (i := 1)) (a_cons (v_var (i := 5)) (a_cons (v_call (ok_power E) (takes_of rfl rfl rfl rfl) (hr.mono (by decide)) E.m_power E.k_power E.b_power (a_cons (v_var (i := 1)) (a_cons (v_var (i := 4)) (a_cons (v_op op_addAll ok_add (v_ix (v_var (i := 19)) v_int) (v_ix (v_var (i := 20)) v_int)) a_nil)))) (a_cons (v_var (i := 6)) (a_cons (v_call (ok_by_shares E) (takes_of rfl rfl rfl rfl) (hr.mono (by decide)) E.m_by_shares E.k_by_shares E.b_by_shares (a_cons (v_var (i := 1)) (a_cons (v_var (i := 5)) (a_cons (v_var (i := 22)) (a_cons (v_var (i := 18)) (a_cons (v_var (i := 6)) (a_cons (v_var (i := 14)) a_nil))))))) a_nil)))))))) ?_ ?_
        · skip
          refine ss_one ?_
          · skip
            exact s_ret v_bl
        · skip
          exact ss_nil
      refine ss_cons ?_ ?_
      · skip
        exact s_asg (i := 23) S.nd (v_call (ok__law_order E) (takes_of rfl rfl rfl rfl) (hr.mono (by decide)) E.m__law_order E.k__law_order E.b__law_order (a_cons (v_var (i := 0)) (a_cons (v_var (i := 12)) a_nil)))
      refine ss_one ?_
      · skip
        refine s_if (t_cmp (op_neD hr.units) ok_ne bl_ne (v_call (ok_by_shares E) (takes_of rfl rfl rfl rfl) (hr.mono (by decide)) E.m_by_shares E.k_by_shares E.b_by_shares (a_cons (v_var (i := 1)) (a_cons (v_var (i := 5)) (a_cons (v_call (ok__law_moved E) (takes_of rfl rfl rfl rfl) (hr.mono (by decide)) E.m__law_moved E.k__law_moved E.b__law_moved (a_cons (v_var (i := 22)) (a_cons (v_var (i := 23)) a_nil))) (a_cons (v_call (ok__law_moved E) (takes_of rfl rfl rfl rfl) (hr.mono (by decide)) E.m__law_moved E.k__law_moved E.b__law_moved (a_cons (v_var (i := 18)) (a_cons (v_var (i := 23)) a_nil))) (a_cons (v_var (i := 6)) (a_cons (v_call (ok__law_moved E) (takes_of rfl rfl rfl rfl) (hr.mono (by decide)) E.m__law_moved E.k__law_moved E.b__law_moved (a_cons (v_var (i := 14)) (a_cons (v_var (i := 23)) a_nil))) a_nil))))))) (v_call (ok_by_shares E) (takes_of rfl rfl rfl rfl) (hr.mono (by decide)) E.m_by_shares E.k_by_shares E.b_by_shares (a_cons (v_var (i := 1)) (a_cons (v_var (i := 5)) (a_cons (v_var (i := 22)) (a_cons (v_var (i := 18)) (a_cons (v_var (i := 6)) (a_cons (v_var (i := 14)) a_nil)))))))) ?_ ?_
        · skip
          refine ss_one ?_
          · skip
            exact s_ret v_bl
        · skip
          exact ss_nil
    · skip
      exact ss_nil
  refine ss_cons ?_ ?_
  · skip
    exact s_par2 (i := 24) (j := 25) S.nd (a_cons (v_callTy call_tuple_of co_tuple E.n_tuple (a_cons (v_comp S.nd (i_seq (v_var (i := 13))) [("key", 32)] (by show blkC N__law_part2 (defScope (top 39)) _ _ = true; decide +kernel) (fun _ _ _ _ _ => (pg_name (i := 32) S.nd rfl (by first | exact Or.inl rfl | exact Or.inr rfl))) (fun _ _ _ _ _ => c_nil) (fun _ _ _ _ _ => (v_call (ok_power E) takes0 (hr.mono (by decide)) E.m_power E.k_power E.b_power (a_cons (v_var (i := 1)) (a_cons (v_var (i := 4)) (a_cons (v_var (i := 32)) a_nil)))))) a_nil)) (a_cons (v_call (ok__law_take E) (takes_of rfl rfl rfl rfl) (hr.mono (by decide)) E.m__law_take E.k__law_take E.b__law_take (a_cons (v_var (i := 0)) (a_cons (v_var (i := 12)) a_nil))) a_nil)) (hw := by rfl)
  refine ss_cons ?_ ?_
  · skip
    exact s_asg (i := 26) S.nd (v_call (ok_ring_sign E) (takes_of rfl rfl rfl rfl) (hr.mono (by decide)) E.m_ring_sign E.k_ring_sign E.b_ring_sign (a_cons (v_var (i := 1)) (a_cons (v_var (i := 5)) (a_cons (v_var (i := 24)) (a_cons (v_var (i := 25)) (a_cons (v_ix (v_var (i := 13)) (v_var (i := 25))) (a_cons (v_var (i := 6)) (a_cons (v_var (i := 8)) (a_cons (v_callTy call_tuple_of co_tuple E.n_tuple (a_cons (v_call (ok__law_some E) (takes_of rfl rfl rfl rfl) (hr.mono (by decide)) E.m__law_some E.k__law_some E.b__law_some (a_cons (v_var (i := 0)) (a_cons (v_var (i := 3)) (a_cons (v_var (i := 12)) a_nil)))) a_nil)) a_nil)))))))))
  refine ss_cons ?_ ?_
  · skip
    refine s_if (t_not (t_val (v_call (ok_is_ring_signed E) (takes_of rfl rfl rfl rfl) (hr.mono (by decide)) E.m_is_ring_signed E.k_is_ring_signed E.b_is_ring_signed (a_cons (v_var (i := 1)) (a_cons (v_var (i := 5)) (a_cons (v_var (i := 24)) (a_cons (v_var (i := 6)) (a_cons (v_var (i := 26)) a_nil)))))))) ?_ ?_
    · skip
      refine ss_one ?_
      · skip
        exact s_ret v_bl
    · skip
      exact ss_nil
  refine ss_cons ?_ ?_
  · skip
    exact s_par (i := 27) (j := 28) S.nd (v_ix (v_var (i := 26)) v_int) (v_lst a_nil) (hw := by rfl)
  refine ss_cons ?_ ?_
  · skip
    refine s_for (passes_of rfl) (i_range1 E.n_range (a_cons (v_var (i := 12)) a_nil)) (pg_name (i := 29) S.nd rfl (by first | exact Or.inl rfl | exact Or.inr rfl)) ?_
    refine ss_cons ?_ ?_
    · skip
      exact s_app (i := 28) (v_var (i := 27))
    refine ss_one ?_
    · skip
      exact s_asg (i := 27) S.nd (v_call (ok_asked_of E) (takes_of rfl rfl rfl rfl) (hr.mono (by decide)) E.m_asked_of E.k_asked_of E.b_asked_of (a_cons (v_var (i := 1)) (a_cons (v_var (i := 5)) (a_cons (v_op op_mod ok_mod (v_op op_mulW ok_mul (v_call (ok_power E) (takes_of rfl rfl rfl rfl) (hr.mono (by decide)) E.m_power E.k_power E.b_power (a_cons (v_var (i := 1)) (a_cons (v_var (i := 4)) (a_cons (v_ix (v_ix (v_var (i := 26)) v_int) (v_var (i := 29))) a_nil)))) (v_call (ok_power E) (takes_of rfl rfl rfl rfl) (hr.mono (by decide)) E.m_power E.k_power E.b_power (a_cons (v_var (i := 1)) (a_cons (v_ix (v_var (i := 24)) (v_var (i := 29))) (a_cons (v_op op_sub ok_sub (v_var (i := 3)) (v_var (i := 27))) a_nil))))) (v_var (i := 2))) (a_cons (v_var (i := 6)) a_nil)))))
  refine ss_cons ?_ ?_
  · skip
    refine s_if (t_cmp (op_neD hr.units) ok_ne bl_ne (v_var (i := 27)) (v_ix (v_var (i := 26)) v_int)) ?_ ?_
    · skip
      refine ss_one ?_
      · skip
        exact s_ret v_bl
    · skip
      exact ss_nil
  refine ss_cons ?_ ?_
  · skip
    refine s_for (passes_of rfl) (i_range1 E.n_range (a_cons (v_var (i := 12)) a_nil)) (pg_name (i := 30) S.nd rfl (by first | exact Or.inl rfl | exact Or.inr rfl)) ?_
    refine ss_one ?_
    · skip
      refine s_if (t_not (t_val (v_call (ok_is_ring_signed E) (takes_of rfl rfl rfl rfl) (hr.mono (by decide)) E.m_is_ring_signed E.k_is_ring_signed E.b_is_ring_signed (a_cons (v_var (i := 1)) (a_cons (v_var (i := 5)) (a_cons (v_op op_addAll ok_add (v_slice (v_var (i := 24)) (p_some (v_var (i := 30))) p_no) (v_slice (v_var (i := 24)) p_no (p_some (v_var (i := 30))))) (a_cons (v_var (i := 6)) (a_cons (v_tup (a_cons (v_ix (v_var (i := 28)) (v_var (i := 30))) (a_cons (v_op op_addAll ok_add (v_slice (v_ix (v_var (i := 26)) v_int) (p_some (v_var (i := 30))) p_no) (v_slice (v_ix (v_var (i := 26)) v_int) p_no (p_some (v_var (i := 30))))) a_nil))) a_nil)))))))) ?_ ?_
      · skip
        refine ss_one ?_
        · skip
          exact s_ret v_bl
      · skip
        exact ss_nil
  refine ss_cons ?_ ?_
  · skip
    exact s_asg (i := 31) S.nd (v_tup (a_cons (v_ix (v_var (i := 11)) v_int) (a_cons (v_tup (a_cons (v_ix (v_var (i := 11)) v_int) a_nil)) a_nil)))
  refine ss_one ?_
  · skip
    exact s_ret (v_and (v_call (ok_is_ring_signed E) (takes_of rfl rfl rfl rfl) (hr.mono (by decide)) E.m_is_ring_signed E.k_is_ring_signed E.b_is_ring_signed (a_cons (v_var (i := 1)) (a_cons (v_var (i := 5)) (a_cons (v_tup (a_cons (v_var (i := 9)) a_nil)) (a_cons (v_var (i := 6)) (a_cons (v_var (i := 31)) a_nil)))))) (v_and (v_cmp (op_eqD hr.units) ok_eq (v_call (ok_ring_sign E) (takes_of rfl rfl rfl rfl) (hr.mono (by decide)) E.m_ring_sign E.k_ring_sign E.b_ring_sign (a_cons (v_var (i := 1)) (a_cons (v_var (i := 5)) (a_cons (v_tup (a_cons (v_var (i := 9)) a_nil)) (a_cons v_int (a_cons (v_var (i := 7)) (a_cons (v_var (i := 6)) (a_cons (v_var (i := 8)) (a_cons (v_tup (a_cons v_int a_nil)) a_nil))))))))) (v_var (i := 31))) (v_one (v_cmp (op_eqD hr.units) ok_eq (v_callB call_len_seq co_len E.n_len (a_cons (v_call (ok_members E) (takes_of rfl rfl rfl rfl) (hr.mono (by decide)) E.m_members E.k_members E.b_members (a_cons (v_var (i := 1)) a_nil)) a_nil)) (v_var (i := 3))))))
theorem ok_is_right (E : Env K mg) : FnOk P w K mg base (L2.CX P w) 4 E.a_is_right E.fd_is_right ["group", "public", "row"] (FSp K ⟨[], 0⟩ 3 F_is_right) := by
  have S : FnScope N_is_right ["group", "public", "row"] (defScope (top 29)) := ⟨rfl, rfl, rfl, by decide +kernel, rfl, by decide +kernel, by decide +kernel⟩
  refine fn_def (N := N_is_right) (cs := C_is_right) E.F_is_right S (by decide) fun cdv A outer s H Ex hr => ?_
  refine ss_cons ?_ ?_
  · skip
    exact s_drop (v_call (ok_check_member E) (takes_of rfl rfl rfl rfl) (hr.mono (by decide)) E.m_check_member E.k_check_member E.b_check_member (a_cons (v_var (i := 0)) (a_cons (v_var (i := 1)) a_nil)))
  refine ss_cons ?_ ?_
  · skip
    exact s_unp (js := [3, 4, 5]) (v_var (i := 2)) (pg_tup rfl (pgs_cons (pg_name (i := 3) S.nd rfl (by first | exact Or.inl rfl | exact Or.inr rfl)) (pgs_cons (pg_name (i := 4) S.nd rfl (by first | exact Or.inl rfl | exact Or.inr rfl)) (pgs_cons (pg_name (i := 5) S.nd rfl (by first | exact Or.inl rfl | exact Or.inr rfl)) pgs_nil))))
  refine ss_cons ?_ ?_
  · skip
    refine s_if (t_not (t_w (w_and (t_chain op_le op_lt ok_le ok_lt bl_lt v_int (v_var (i := 3)) (v_ix (v_var (i := 0)) v_int)) (w_and (t_chain op_le op_lt ok_le ok_lt bl_lt v_int (v_var (i := 4)) (v_ix (v_var (i := 0)) v_int)) (w_and1 (t_chain op_le op_lt ok_le ok_lt bl_lt v_int (v_var (i := 5)) (v_ix (v_var (i := 0)) v_int))))))) ?_ ?_
    · skip
      refine ss_one ?_
      · skip
        exact s_ret v_bl
    · skip
      exact ss_nil
  refine ss_cons ?_ ?_
  · skip
    exact s_unp (js := [6, 7, 8]) (v_var (i := 0)) (pg_tup rfl (pgs_cons (pg_name (i := 6) S.nd rfl (by first | exact Or.inl rfl | exact Or.inr rfl)) (pgs_cons (pg_name (i := 7) S.nd rfl (by first | exact Or.inl rfl | exact Or.inr rfl)) (pgs_cons (pg_name (i := 8) S.nd rfl (by first | exact Or.inl rfl | exact Or.inr rfl)) pgs_nil))))
  refine ss_one ?_
  · skip
    exact s_ret (v_cmp (op_eqD hr.units) ok_eq (v_call (ok_power_in E) (takes_of rfl rfl rfl rfl) (hr.mono (by decide)) E.m_power_in E.k_power_in E.b_power_in (a_cons (v_var (i := 6)) (a_cons (v_var (i := 8)) (a_cons (v_var (i := 5)) a_nil)))) (v_op op_mod ok_mod (v_op op_mulW ok_mul (v_var (i := 3)) (v_call (ok_power_in E) (takes_of rfl rfl rfl rfl) (hr.mono (by decide)) E.m_power_in E.k_power_in E.b_power_in (a_cons (v_var (i := 6)) (a_cons (v_var (i := 1)) (a_cons (v_var (i := 4)) a_nil))))) (v_var (i := 6))))
theorem ok_key_from (E : Env K mg) : FnOk P w K mg base (L2.CX P w) 4 E.a_key_from E.fd_key_from ["group", "oracle", "first", "other"] (FSp K ⟨[], 0⟩ 4 F_key_from) := by
  have S : FnScope N_key_from ["group", "oracle", "first", "other"] (defScope (top 20)) := ⟨rfl, rfl, rfl, by decide +kernel, rfl, by decide +kernel, by decide +kernel⟩
  refine fn_def (N := N_key_from) (cs := C_key_from) E.F_key_from S (by decide) fun cdv A outer s H Ex hr => ?_
  refine ss_cons ?_ ?_
  · skip
    exact s_drop (v_call (ok_check_oracle E) (takes_of rfl rfl rfl rfl) (hr.mono (by decide)) E.m_check_oracle E.k_check_oracle E.b_check_oracle (a_cons (v_var (i := 0)) (a_cons (v_var (i := 1)) a_nil)))
  refine ss_cons ?_ ?_
  · skip
    exact s_asg (i := 4) S.nd (v_ix (v_var (i := 0)) v_int)
  refine ss_cons ?_ ?_
  · skip
    refine s_for (passes_of rfl) (i_seqF (v_tup (a_cons (v_var (i := 2)) (a_cons (v_var (i := 3)) a_nil)))) (pg_tup rfl (pgs_cons (pg_name (i := 5) S.nd rfl (by first | exact Or.inl rfl | exact Or.inr rfl)) (pgs_cons (pg_name (i := 6) S.nd rfl (by first | exact Or.inl rfl | exact Or.inr rfl)) pgs_nil))) ?_
    refine ss_one ?_
    · skip
      refine s_if (t_not (t_w (w_and (t_chain op_le op_lt ok_le ok_lt bl_lt v_int (v_var (i := 5)) (v_var (i := 4))) (w_and1 (t_chain op_le op_lt ok_le ok_lt bl_lt v_int (v_var (i := 6)) (v_var (i := 4))))))) ?_ ?_
      · skip
        refine ss_one ?_
        · skip
          exact s_ret v_non
      · skip
        exact ss_nil
  refine ss_cons ?_ ?_
  · skip
    refine s_if (t_cmp (op_eqD hr.units) ok_eq bl_eq (v_ix (v_var (i := 2)) v_int) (v_ix (v_var (i := 3)) v_int)) ?_ ?_
    · skip
      refine ss_one ?_
      · skip
        exact s_ret v_non
    · skip
      exact ss_nil
  refine ss_one ?_
  · skip
    exact s_ret (v_op op_mod ok_mod (v_op op_mulW ok_mul (v_op op_sub ok_sub (v_ix (v_var (i := 2)) v_int) (v_ix (v_var (i := 3)) v_int)) (v_call (ok_power_in E) (takes_of rfl rfl rfl rfl) (hr.mono (by decide)) E.m_power_in E.k_power_in E.b_power_in (a_cons (v_var (i := 4)) (a_cons (v_op op_mod ok_mod (v_op op_sub ok_sub (v_ix (v_var (i := 2)) v_int) (v_ix (v_var (i := 3)) v_int)) (v_var (i := 4))) (a_cons (v_op op_sub ok_sub (v_var (i := 4)) v_int) a_nil))))) (v_var (i := 4)))
theorem ok_blind_forgeries (E : Env K mg) : FnOk P w K mg base (L2.CX P w) 6 E.a_blind_forgeries E.fd_blind_forgeries ["group", "oracle", "public", "message"] (FSp K ⟨[], 0⟩ 4 F_blind_forgeries) := by
  have S : FnScope N_blind_forgeries ["group", "oracle", "public", "message"] (defScope (top 21)) := ⟨rfl, rfl, rfl, by decide +kernel, rfl, by decide +kernel, by decide +kernel⟩
  refine fn_def (N := N_blind_forgeries) (cs := C_blind_forgeries) E.F_blind_forgeries S (by decide) fun cdv A outer s H Ex hr => ?_
  refine ss_cons ?_ ?_
  · skip
    exact s_drop (v_call (ok_check_oracle E) (takes_of rfl rfl rfl rfl) (hr.mono (by decide)) E.m_check_oracle E.k_check_oracle E.b_check_oracle (a_cons (v_var (i := 0)) (a_cons (v_var (i := 1)) a_nil)))
  refine ss_cons ?_ ?_
  · skip
    exact s_drop (v_call (ok_check_member E) (takes_of rfl rfl rfl rfl) (hr.mono (by decide)) E.m_check_member E.k_check_member E.b_check_member (a_cons (v_var (i := 0)) (a_cons (v_var (i := 2)) a_nil)))
  refine ss_cons ?_ ?_
  · skip
    exact s_drop (v_call (ok_check_message E) (takes_of rfl rfl rfl rfl) (hr.mono (by decide)) E.m_check_message E.k_check_message E.b_check_message (a_cons (v_var (i := 3)) a_nil))
  refine ss_cons ?_ ?_
  · skip
    refine s_if (t_cmp op_gt ok_gt bl_gt (v_ix (v_var (i := 0)) v_int) v_int) ?_ ?_
    · skip
      exact ss_never
    · skip
      exact ss_nil
  refine ss_cons ?_ ?_
  · skip
    exact s_asg (i := 4) S.nd (v_lst a_nil)
  refine ss_cons ?_ ?_
  · skip
    refine s_for (passes_of rfl) (i_range1 E.n_range (a_cons (v_ix (v_var (i := 0)) v_int) a_nil)) (pg_name (i := 5) S.nd rfl (by first | exact Or.inl rfl | exact Or.inr rfl)) ?_
    refine ss_one ?_
    · skip
      refine s_for (passes_of rfl) (i_range1 E.n_range (a_cons (v_ix (v_var (i := 0)) v_int) a_nil)) (pg_name (i := 6) S.nd rfl (by first | exact Or.inl rfl | exact Or.inr rfl)) ?_
      refine ss_one ?_
      · skip
        refine s_if (t_val (v_call (ok_is_signed E) (takes_of rfl rfl rfl rfl) (hr.mono (by decide)) E.m_is_signed E.k_is_signed E.b_is_signed (a_cons (v_var (i := 0)) (a_cons (v_var (i := 1)) (a_cons (v_var (i := 2)) (a_cons (v_var (i := 3)) (a_cons (v_tup (a_cons (v_var (i := 5)) (a_cons (v_var (i := 6)) a_nil))) a_nil))))))) ?_ ?_
        · skip
          refine ss_one ?_
          · skip
            exact s_app (i := 4) (v_tup (a_cons (v_var (i := 5)) (a_cons (v_var (i := 6)) a_nil)))
        · skip
          exact ss_nil
  refine ss_one ?_
  · skip
    exact s_ret (v_callTy call_tuple_of co_tuple E.n_tuple (a_cons (v_var (i := 4)) a_nil))
theorem ok_made_row (E : Env K mg) : FnOk P w K mg base (L2.CX P w) 4 E.a_made_row E.fd_made_row ["group", "public", "asked", "told"] (FSp K ⟨[], 0⟩ 4 F_made_row) := by
  have S : FnScope N_made_row ["group", "public", "asked", "told"] (defScope (top 30)) := ⟨rfl, rfl, rfl, by decide +kernel, rfl, by decide +kernel, by decide +kernel⟩
  refine fn_def (N := N_made_row) (cs := C_made_row) E.F_made_row S (by decide) fun cdv A outer s H Ex hr => ?_
  refine ss_cons ?_ ?_
  · skip
    exact s_drop (v_call (ok_check_member E) (takes_of rfl rfl rfl rfl) (hr.mono (by decide)) E.m_check_member E.k_check_member E.b_check_member (a_cons (v_var (i := 0)) (a_cons (v_var (i := 1)) a_nil)))
  refine ss_cons ?_ ?_
  · skip
    exact s_drop (v_call (ok_check_key E) (takes_of rfl rfl rfl rfl) (hr.mono (by decide)) E.m_check_key E.k_check_key E.b_check_key (a_cons (v_var (i := 0)) (a_cons (v_var (i := 2)) a_nil)))
  refine ss_cons ?_ ?_
  · skip
    exact s_drop (v_call (ok_check_key E) (takes_of rfl rfl rfl rfl) (hr.mono (by decide)) E.m_check_key E.k_check_key E.b_check_key (a_cons (v_var (i := 0)) (a_cons (v_var (i := 3)) a_nil)))
  refine ss_cons ?_ ?_
  · skip
    exact s_unp (js := [4, 5, 6]) (v_var (i := 0)) (pg_tup rfl (pgs_cons (pg_name (i := 4) S.nd rfl (by first | exact Or.inl rfl | exact Or.inr rfl)) (pgs_cons (pg_name (i := 5) S.nd rfl (by first | exact Or.inl rfl | exact Or.inr rfl)) (pgs_cons (pg_name (i := 6) S.nd rfl (by first | exact Or.inl rfl | exact Or.inr rfl)) pgs_nil))))
  refine ss_one ?_
  · skip
    exact s_ret (v_tup (a_cons (v_op op_mod ok_mod (v_op op_mulW ok_mul (v_call (ok_power_in E) (takes_of rfl rfl rfl rfl) (hr.mono (by decide)) E.m_power_in E.k_power_in E.b_power_in (a_cons (v_var (i := 4)) (a_cons (v_var (i := 6)) (a_cons (v_var (i := 3)) a_nil)))) (v_call (ok_power_in E) (takes_of rfl rfl rfl rfl) (hr.mono (by decide)) E.m_power_in E.k_power_in E.b_power_in (a_cons (v_var (i := 4)) (a_cons (v_var (i := 1)) (a_cons (v_op op_sub ok_sub (v_var (i := 5)) (v_var (i := 2))) a_nil))))) (v_var (i := 4))) (a_cons (v_var (i := 2)) (a_cons (v_var (i := 3)) a_nil))))
theorem ok_law (E : Env K mg) : FnOk P w K mg base (L2.CX P w) 8 E.a_law E.fd_law ["script"] (LSp K ⟨[], 0⟩ 27 C_law) := by
  have S : FnScope N_law ["script"] (defScope (top 40)) := ⟨rfl, rfl, rfl, by decide +kernel, rfl, by decide +kernel, by decide +kernel⟩
  refine fn_law (N := N_law) (cs := C_law) E.F_law S (by decide) rfl fun cdv A outer s H Ex hr => ?_
  refine ss_cons ?_ ?_
  · skip
    exact s_asg (i := 1) S.nd (v_call (ok__law_begin E) (takes_of rfl rfl rfl rfl) (hr.mono (by decide)) E.m__law_begin E.k__law_begin E.b__law_begin (a_cons (v_var (i := 0)) a_nil))
  refine ss_cons ?_ ?_
  · skip
    refine s_tape ?_
    exact s_asg (i := 2) S.nd (v_call (ok__law_group E) (takes_of rfl rfl rfl rfl) (hr.mono (by decide)) E.m__law_group E.k__law_group E.b__law_group (a_cons (v_var (i := 1)) a_nil))
  refine ss_cons ?_ ?_
  · skip
    exact s_unp (js := [3, 4, 5]) (v_var (i := 2)) (pg_tup rfl (pgs_cons (pg_name (i := 3) S.nd rfl (by first | exact Or.inl rfl | exact Or.inr rfl)) (pgs_cons (pg_name (i := 4) S.nd rfl (by first | exact Or.inl rfl | exact Or.inr rfl)) (pgs_cons (pg_name (i := 5) S.nd rfl (by first | exact Or.inl rfl | exact Or.inr rfl)) pgs_nil))))
  refine ss_cons ?_ ?_
  · skip
    exact s_unp (js := [6, 7]) (v_tup (a_cons (v_callTy call_tuple_of co_tuple E.n_tuple (a_cons (v_call (ok__law_some E) (takes_of rfl rfl rfl rfl) (hr.mono (by decide)) E.m__law_some E.k__law_some E.b__law_some (a_cons (v_var (i := 1)) (a_cons (v_var (i := 4)) (a_cons (v_op op_addAll ok_add v_int (v_call (ok__law_take E) (takes_of rfl rfl rfl rfl) (hr.mono (by decide)) E.m__law_take E.k__law_take E.b__law_take (a_cons (v_var (i := 1)) (a_cons v_int a_nil)))) a_nil)))) a_nil)) (a_cons (v_call (ok__law_take E) (takes_of rfl rfl rfl rfl) (hr.mono (by decide)) E.m__law_take E.k__law_take E.b__law_take (a_cons (v_var (i := 1)) (a_cons v_int a_nil))) a_nil))) (pg_tup rfl (pgs_cons (pg_name (i := 6) S.nd rfl (by first | exact Or.inl rfl | exact Or.inr rfl)) (pgs_cons (pg_name (i := 7) S.nd rfl (by first | exact Or.inl rfl | exact Or.inr rfl)) pgs_nil)))
  refine ss_cons ?_ ?_
  · skip
    exact s_par2 (i := 8) (j := 9) S.nd (a_cons (v_call (ok__law_take E) (takes_of rfl rfl rfl rfl) (hr.mono (by decide)) E.m__law_take E.k__law_take E.b__law_take (a_cons (v_var (i := 1)) (a_cons (v_var (i := 4)) a_nil))) (a_cons (v_call (ok__law_take E) (takes_of rfl rfl rfl rfl) (hr.mono (by decide)) E.m__law_take E.k__law_take E.b__law_take (a_cons (v_var (i := 1)) (a_cons (v_var (i := 4)) a_nil))) a_nil)) (hw := by rfl)
  refine ss_cons ?_ ?_
  · skip
    exact s_unp (js := [10, 11]) (v_tup (a_cons (v_call (ok_power E) (takes_of rfl rfl rfl rfl) (hr.mono (by decide)) E.m_power E.k_power E.b_power (a_cons (v_var (i := 2)) (a_cons (v_var (i := 5)) (a_cons (v_var (i := 8)) a_nil)))) (a_cons (v_call (ok_power E) (takes_of rfl rfl rfl rfl) (hr.mono (by decide)) E.m_power E.k_power E.b_power (a_cons (v_var (i := 2)) (a_cons (v_var (i := 5)) (a_cons (v_var (i := 9)) a_nil)))) a_nil))) (pg_tup rfl (pgs_cons (pg_name (i := 10) S.nd rfl (by first | exact Or.inl rfl | exact Or.inr rfl)) (pgs_cons (pg_name (i := 11) S.nd rfl (by first | exact Or.inl rfl | exact Or.inr rfl)) pgs_nil)))
  refine ss_cons ?_ ?_
  · skip
    exact s_asg (i := 12) S.nd (v_call (ok_sign E) (takes_of rfl rfl rfl rfl) (hr.mono (by decide)) E.m_sign E.k_sign E.b_sign (a_cons (v_var (i := 2)) (a_cons (v_var (i := 6)) (a_cons (v_var (i := 8)) (a_cons (v_var (i := 7)) (a_cons (v_var (i := 9)) a_nil))))))
  refine ss_cons ?_ ?_
  · skip
    refine s_if (t_w (w_or (t_cmp (op_neD hr.units) ok_ne bl_ne (v_ix (v_var (i := 12)) v_int) (v_call (ok_asked_of E) (takes_of rfl rfl rfl rfl) (hr.mono (by decide)) E.m_asked_of E.k_asked_of E.b_asked_of (a_cons (v_var (i := 2)) (a_cons (v_var (i := 6)) (a_cons (v_var (i := 11)) (a_cons (v_var (i := 7)) a_nil)))))) (w_or (t_not (t_val (v_call (ok_is_signed E) (takes_of rfl rfl rfl rfl) (hr.mono (by decide)) E.m_is_signed E.k_is_signed E.b_is_signed (a_cons (v_var (i := 2)) (a_cons (v_var (i := 6)) (a_cons (v_var (i := 10)) (a_cons (v_var (i := 7)) (a_cons (v_var (i := 12)) a_nil)))))))) (w_or1 (t_not (t_val (v_call (ok_is_right E) (takes_of rfl rfl rfl rfl) (hr.mono (by decide)) E.m_is_right E.k_is_right E.b_is_right (a_cons (v_var (i := 2)) (a_cons (v_var (i := 10)) (a_cons (v_tup (a_cons (v_var (i := 11)) (a_cons (v_ix (v_var (i := 12)) v_int) (a_cons (v_ix (v_var (i := 12)) v_int) a_nil)))) a_nil)))))))))) ?_ ?_
    · skip
      refine ss_one ?_
      · skip
        exact s_ret v_bl
    · skip
      exact ss_nil
  refine ss_cons ?_ ?_
  · skip
    refine s_if (t_cmp op_isnot_bl ok_isntB bl_isntB (v_call (ok_part_is_right E) (takes_of rfl rfl rfl rfl) (hr.mono (by decide)) E.m_part_is_right E.k_part_is_right E.b_part_is_right (a_cons (v_var (i := 2)) (a_cons (v_var (i := 10)) (a_cons (v_var (i := 11)) (a_cons (v_ix (v_var (i := 12)) v_int) (a_cons (v_ix (v_var (i := 12)) v_int) a_nil)))))) v_bl) ?_ ?_
    · skip
      refine ss_one ?_
      · skip
        exact s_ret v_bl
    · skip
      exact ss_nil
  refine ss_cons ?_ ?_
  · skip
    refine s_if (t_w (w_or (t_not (t_val (v_call (ok_is_signed E) (takes_of rfl rfl rfl rfl) (hr.mono (by decide)) E.m_is_signed E.k_is_signed E.b_is_signed (a_cons (v_var (i := 2)) (a_cons (v_var (i := 6)) (a_cons (v_var (i := 10)) (a_cons (v_op op_addAll ok_add (v_var (i := 7)) (v_callB call_len_seq co_len E.n_len (a_cons (v_var (i := 6)) a_nil))) (a_cons (v_var (i := 12)) a_nil)))))))) (w_or1 (t_cmp (op_neD hr.units) ok_ne bl_ne (v_call (ok_asked_of E) (takes_of rfl rfl rfl rfl) (hr.mono (by decide)) E.m_asked_of E.k_asked_of E.b_asked_of (a_cons (v_var (i := 2)) (a_cons (v_var (i := 6)) (a_cons (v_var (i := 11)) (a_cons (v_op op_addAll ok_add (v_var (i := 7)) (v_op op_mulW ok_mul v_int (v_callB call_len_seq co_len E.n_len (a_cons (v_var (i := 6)) a_nil)))) a_nil))))) (v_ix (v_var (i := 12)) v_int))))) ?_ ?_
    · skip
      refine ss_one ?_
      · skip
        exact s_ret v_bl
    · skip
      exact ss_nil
  refine ss_cons ?_ ?_
  · skip
    exact s_asg (i := 13) S.nd (v_call (ok__law_take E) (takes_of rfl rfl rfl rfl) (hr.mono (by decide)) E.m__law_take E.k__law_take E.b__law_take (a_cons (v_var (i := 1)) (a_cons v_int a_nil)))
  refine ss_cons ?_ ?_
  · skip
    refine s_if (t_cmp (op_neD hr.units) ok_ne bl_ne (v_call (ok_is_signed E) (takes_of rfl rfl rfl rfl) (hr.mono (by decide)) E.m_is_signed E.k_is_signed E.b_is_signed (a_cons (v_var (i := 2)) (a_cons (v_var (i := 6)) (a_cons (v_var (i := 10)) (a_cons (v_var (i := 13)) (a_cons (v_var (i := 12)) a_nil)))))) (v_cmp (op_eqD hr.units) ok_eq (v_call (ok_asked_of E) (takes_of rfl rfl rfl rfl) (hr.mono (by decide)) E.m_asked_of E.k_asked_of E.b_asked_of (a_cons (v_var (i := 2)) (a_cons (v_var (i := 6)) (a_cons (v_var (i := 11)) (a_cons (v_var (i := 13)) a_nil))))) (v_ix (v_var (i := 12)) v_int))) ?_ ?_
    · skip
      refine ss_one ?_
      · skip
        exact s_ret v_bl
    · skip
      exact ss_nil
  refine ss_cons ?_ ?_
  · skip
    refine s_if (t_cmp op_le ok_le bl_le (v_var (i := 4)) v_int) ?_ ?_
    · skip
      refine ss_cons ?_ ?_
      · skip
        exact (s_asgComp (i := 14) S.nd (i_seq (v_call (ok_blind_forgeries E) (takes_of rfl rfl rfl rfl) (hr.mono (by decide)) E.m_blind_forgeries E.k_blind_forgeries E.b_blind_forgeries (a_cons (v_var (i := 2)) (a_cons (v_var (i := 6)) (a_cons (v_var (i := 10)) (a_cons (v_var (i := 7)) a_nil)))))) [("asked", 16), ("answer", 26)] (by show blkC N_law (defScope (top 40)) _ _ = true; decide +kernel) (fun _ _ _ _ _ => (pg_tup rfl (pgs_cons (pg_name (i := 16) S.nd rfl (by first | exact Or.inl rfl | exact Or.inr rfl)) (pgs_cons (pg_name (i := 26) S.nd rfl (by first | exact Or.inl rfl | exact Or.inr rfl)) pgs_nil)))) (fun _ _ _ _ _ => c_nil) (fun _ _ _ _ _ => (v_tup (a_cons (v_var (i := 16)) (a_cons (v_var (i := 26)) a_nil)))) (hsw := by rfl))
      refine ss_cons ?_ ?_
      · skip
        exact s_asg (i := 15) S.nd (v_lst a_nil)
      refine ss_cons ?_ ?_
      · skip
        refine s_for (passes_of rfl) (i_range1 E.n_range (a_cons (v_var (i := 4)) a_nil)) (pg_name (i := 16) S.nd rfl (by first | exact Or.inl rfl | exact Or.inr rfl)) ?_
        refine ss_one ?_
        · skip
          exact s_asg (i := 15) S.nd (v_op op_addAll ok_add (v_var (i := 15)) (v_comp S.nd (i_range1 E.n_range (a_cons (v_var (i := 4)) a_nil)) [("answer", 26)] (by show blkC N_law (defScope (top 40)) _ _ = true; decide +kernel) (fun _ _ _ _ _ => (pg_name (i := 26) S.nd rfl (by first | exact Or.inl rfl | exact Or.inr rfl))) (fun _ _ _ _ _ => (c_one (t_cmp (op_eqD hr.units) ok_eq bl_eq (v_call (ok_asked_of E) takes0 (hr.mono (by decide)) E.m_asked_of E.k_asked_of E.b_asked_of (a_cons (v_var (i := 2)) (a_cons (v_var (i := 6)) (a_cons (v_ix (v_call (ok_made_row E) takes0 (hr.mono (by decide)) E.m_made_row E.k_made_row E.b_made_row (a_cons (v_var (i := 2)) (a_cons (v_var (i := 10)) (a_cons (v_var (i := 16)) (a_cons (v_var (i := 26)) a_nil))))) v_int) (a_cons (v_var (i := 7)) a_nil))))) (v_var (i := 16))))) (fun _ _ _ _ _ => (v_tup (a_cons (v_var (i := 16)) (a_cons (v_var (i := 26)) a_nil))))))
      refine ss_one ?_
      · skip
        refine s_if (t_w (w_or (t_cmp (op_neD hr.units) ok_ne bl_ne (v_var (i := 14)) (v_var (i := 15))) (w_or1 (t_cmp (op_ninA (hu65 hr)) ok_nin bl_nin (v_var (i := 12)) (v_var (i := 14)))))) ?_ ?_
        · skip
          refine ss_one ?_
          · skip
            exact s_ret v_bl
        · skip
          exact ss_nil
    · skip
      exact ss_nil
  refine ss_cons ?_ ?_
  · skip
    exact s_asg (i := 17) S.nd (v_call (ok__law_take E) (takes_of rfl rfl rfl rfl) (hr.mono (by decide)) E.m__law_take E.k__law_take E.b__law_take (a_cons (v_var (i := 1)) (a_cons v_int a_nil)))
  refine ss_cons ?_ ?_
  · skip
    exact s_asg (i := 18) S.nd (v_call (ok_sign E) (takes_of rfl rfl rfl rfl) (hr.mono (by decide)) E.m_sign E.k_sign E.b_sign (a_cons (v_var (i := 2)) (a_cons (v_var (i := 6)) (a_cons (v_var (i := 8)) (a_cons (v_var (i := 17)) (a_cons (v_var (i := 9)) a_nil))))))
  refine ss_cons ?_ ?_
  · skip
    refine s_if (t_w (w_or (t_cmp (op_neD hr.units) ok_ne bl_ne (v_call (ok_key_from E) (takes_of rfl rfl rfl rfl) (hr.mono (by decide)) E.m_key_from E.k_key_from E.b_key_from (a_cons (v_var (i := 2)) (a_cons (v_var (i := 6)) (a_cons (v_var (i := 12)) (a_cons (v_var (i := 18)) a_nil))))) (v_ifE (t_cmp (op_neD hr.units) ok_ne bl_ne (v_ix (v_var (i := 18)) v_int) (v_ix (v_var (i := 12)) v_int)) (v_var (i := 8)) v_non)) (w_or1 (t_cmp (op_neD hr.units) ok_ne bl_ne (v_call (ok_key_from E) (takes_of rfl rfl rfl rfl) (hr.mono (by decide)) E.m_key_from E.k_key_from E.b_key_from (a_cons (v_var (i := 2)) (a_cons (v_var (i := 6)) (a_cons (v_var (i := 18)) (a_cons (v_var (i := 12)) a_nil))))) (v_call (ok_key_from E) (takes_of rfl rfl rfl rfl) (hr.mono (by decide)) E.m_key_from E.k_key_from E.b_key_from (a_cons (v_var (i := 2)) (a_cons (v_var (i := 6)) (a_cons (v_var (i := 12)) (a_cons (v_var (i := 18)) a_nil))))))))) ?_ ?_
    · skip
      refine ss_one ?_
      · skip
        exact s_ret v_bl
    · skip
      exact ss_nil
  refine ss_cons ?_ ?_
  · skip
    exact s_asg (i := 19) S.nd (v_op op_addAll ok_add v_int (v_call (ok__law_take E) (takes_of rfl rfl rfl rfl) (hr.mono (by decide)) E.m__law_take E.k__law_take E.b__law_take (a_cons (v_var (i := 1)) (a_cons v_int a_nil))))
  refine ss_cons ?_ ?_
  · skip
    exact s_par2 (i := 20) (j := 21) S.nd (a_cons (v_callTy call_tuple_of co_tuple E.n_tuple (a_cons (v_call (ok__law_some E) (takes_of rfl rfl rfl rfl) (hr.mono (by decide)) E.m__law_some E.k__law_some E.b__law_some (a_cons (v_var (i := 1)) (a_cons (v_var (i := 4)) (a_cons (v_var (i := 19)) a_nil)))) a_nil)) (a_cons (v_callTy call_tuple_of co_tuple E.n_tuple (a_cons (v_call (ok__law_some E) (takes_of rfl rfl rfl rfl) (hr.mono (by decide)) E.m__law_some E.k__law_some E.b__law_some (a_cons (v_var (i := 1)) (a_cons (v_var (i := 4)) (a_cons (v_var (i := 19)) a_nil)))) a_nil)) a_nil)) (hw := by rfl)
  refine ss_cons ?_ ?_
  · skip
    exact s_unp (js := [22, 23]) (v_call (ok_together E) (takes_of rfl rfl rfl rfl) (hr.mono (by decide)) E.m_together E.k_together E.b_together (a_cons (v_var (i := 2)) (a_cons (v_var (i := 6)) (a_cons (v_var (i := 20)) (a_cons (v_var (i := 7)) (a_cons (v_var (i := 21)) a_nil)))))) (pg_tup rfl (pgs_cons (pg_name (i := 22) S.nd rfl (by first | exact Or.inl rfl | exact Or.inr rfl)) (pgs_cons (pg_name (i := 23) S.nd rfl (by first | exact Or.inl rfl | exact Or.inr rfl)) pgs_nil)))
  refine ss_cons ?_ ?_
  · skip
    exact s_par2 (i := 24) (j := 25) S.nd (a_cons (v_call (ok_power E) (takes_of rfl rfl rfl rfl) (hr.mono (by decide)) E.m_power E.k_power E.b_power (a_cons (v_var (i := 2)) (a_cons (v_var (i := 5)) (a_cons (v_callB (cr_sumA rfl) co_sumA E.n_sum (a_cons (v_var (i := 20)) a_nil)) a_nil)))) (a_cons (v_call (ok__law_order E) (takes_of rfl rfl rfl rfl) (hr.mono (by decide)) E.m__law_order E.k__law_order E.b__law_order (a_cons (v_var (i := 1)) (a_cons (v_var (i := 19)) a_nil))) a_nil)) (hw := by rfl)
  refine ss_cons ?_ ?_
  · skip
    refine s_if (t_not (t_val (v_call (ok_is_signed E) (takes_of rfl rfl rfl rfl) (hr.mono (by decide)) E.m_is_signed E.k_is_signed E.b_is_signed (a_cons (v_var (i := 2)) (a_cons (v_var (i := 6)) (a_cons (v_var (i := 24)) (a_cons (v_var (i := 7)) (a_cons (v_var (i := 23)) a_nil)))))))) ?_ ?_
    · skip
      refine ss_one ?_
      · skip
        exact s_ret v_bl
    · skip
      exact ss_nil
  refine ss_one ?_
  · skip
    exact s_ret (v_call (ok__law_part2 E) (takes_of rfl rfl rfl rfl) (hr.mono (by decide)) E.m__law_part2 E.k__law_part2 E.b__law_part2 (a_cons (v_var (i := 1)) (a_cons (v_var (i := 2)) (a_cons (v_var (i := 3)) (a_cons (v_var (i := 4)) (a_cons (v_var (i := 5)) (a_cons (v_var (i := 6)) (a_cons (v_var (i := 7)) (a_cons (v_var (i := 8)) (a_cons (v_var (i := 9)) (a_cons (v_var (i := 10)) (a_cons (v_var (i := 11)) (a_cons (v_var (i := 12)) (a_cons (v_var (i := 19)) (a_cons (v_var (i := 20)) (a_cons (v_var (i := 21)) (a_cons (v_var (i := 22)) (a_cons (v_var (i := 23)) (a_cons (v_var (i := 25)) a_nil)))))))))))))))))))
end
end K57
end MP

namespace MP
open PySem PySem.Spec PyProof.Rows L2
namespace K57
section
variable {P : Program} {w : World} {K : PySem.W.Frag} {mg : Str → Option Value} {base : Heap}
theorem all_mk {h : Heap} {fa : Addr} (X : K.In h) (G : h.Ns mainGlobals mg) (hfa : mg "law" = some (.ref fa))
    {f0 : Addr} {od0 an0 : Option Addr} {sl0 : Array (Option Value)} {oc0 kV0 dc0 pm0 cd0 ct0 : Value}
    (a0 : PySem.W.nsIn K mainGlobals "_law_begin" = some (some (.ref f0))) (l0 : K.lookup f0 = some ⟨oc0, od0, .func (PySem.W.fnOf "_law_begin" "_law_begin" (defArgs (top 32)) (defBody (top 32)) (defScope (top 32)) .none kV0 dc0 pm0 an0 cd0 ct0), sl0⟩) (c0 : PySem.W.codeIn K cd0 "_law_begin" = true) (k0 : PySem.W.keepIn K (.ref f0) = true)
    {f1 : Addr} {od1 an1 : Option Addr} {sl1 : Array (Option Value)} {oc1 kV1 dc1 pm1 cd1 ct1 : Value}
    (a1 : PySem.W.nsIn K mainGlobals "_law_take" = some (some (.ref f1))) (l1 : K.lookup f1 = some ⟨oc1, od1, .func (PySem.W.fnOf "_law_take" "_law_take" (defArgs (top 33)) (defBody (top 33)) (defScope (top 33)) .none kV1 dc1 pm1 an1 cd1 ct1), sl1⟩) (c1 : PySem.W.codeIn K cd1 "_law_take" = true) (k1 : PySem.W.keepIn K (.ref f1) = true)
    {f2 : Addr} {od2 an2 : Option Addr} {sl2 : Array (Option Value)} {oc2 kV2 dc2 pm2 cd2 ct2 : Value}
    (a2 : PySem.W.nsIn K mainGlobals "_law_group" = some (some (.ref f2))) (l2 : K.lookup f2 = some ⟨oc2, od2, .func (PySem.W.fnOf "_law_group" "_law_group" (defArgs (top 37)) (defBody (top 37)) (defScope (top 37)) .none kV2 dc2 pm2 an2 cd2 ct2), sl2⟩) (c2 : PySem.W.codeIn K cd2 "_law_group" = true) (k2 : PySem.W.keepIn K (.ref f2) = true)
    {f3 : Addr} {od3 an3 : Option Addr} {sl3 : Array (Option Value)} {oc3 kV3 dc3 pm3 cd3 ct3 : Value}
    (a3 : PySem.W.nsIn K mainGlobals "is_prime" = some (some (.ref f3))) (l3 : K.lookup f3 = some ⟨oc3, od3, .func (PySem.W.fnOf "is_prime" "is_prime" (defArgs (top 4)) (defBody (top 4)) (defScope (top 4)) .none kV3 dc3 pm3 an3 cd3 ct3), sl3⟩) (c3 : PySem.W.codeIn K cd3 "is_prime" = true) (k3 : PySem.W.keepIn K (.ref f3) = true)
    {f4 : Addr} {od4 an4 : Option Addr} {sl4 : Array (Option Value)} {oc4 kV4 dc4 pm4 cd4 ct4 : Value}
    (a4 : PySem.W.nsIn K mainGlobals "power_in" = some (some (.ref f4))) (l4 : K.lookup f4 = some ⟨oc4, od4, .func (PySem.W.fnOf "power_in" "power_in" (defArgs (top 6)) (defBody (top 6)) (defScope (top 6)) .none kV4 dc4 pm4 an4 cd4 ct4), sl4⟩) (c4 : PySem.W.codeIn K cd4 "power_in" = true) (k4 : PySem.W.keepIn K (.ref f4) = true)
    {f5 : Addr} {od5 an5 : Option Addr} {sl5 : Array (Option Value)} {oc5 kV5 dc5 pm5 cd5 ct5 : Value}
    (a5 : PySem.W.nsIn K mainGlobals "check" = some (some (.ref f5))) (l5 : K.lookup f5 = some ⟨oc5, od5, .func (PySem.W.fnOf "check" "check" (defArgs (top 5)) (defBody (top 5)) (defScope (top 5)) .none kV5 dc5 pm5 an5 cd5 ct5), sl5⟩) (c5 : PySem.W.codeIn K cd5 "check" = true) (k5 : PySem.W.keepIn K (.ref f5) = true)
    {f6 : Addr} {od6 an6 : Option Addr} {sl6 : Array (Option Value)} {oc6 kV6 dc6 pm6 cd6 ct6 : Value}
    (a6 : PySem.W.nsIn K mainGlobals "check_oracle" = some (some (.ref f6))) (l6 : K.lookup f6 = some ⟨oc6, od6, .func (PySem.W.fnOf "check_oracle" "check_oracle" (defArgs (top 15)) (defBody (top 15)) (defScope (top 15)) .none kV6 dc6 pm6 an6 cd6 ct6), sl6⟩) (c6 : PySem.W.codeIn K cd6 "check_oracle" = true) (k6 : PySem.W.keepIn K (.ref f6) = true)
    {f7 : Addr} {od7 an7 : Option Addr} {sl7 : Array (Option Value)} {oc7 kV7 dc7 pm7 cd7 ct7 : Value}
    (a7 : PySem.W.nsIn K mainGlobals "check_key" = some (some (.ref f7))) (l7 : K.lookup f7 = some ⟨oc7, od7, .func (PySem.W.fnOf "check_key" "check_key" (defArgs (top 10)) (defBody (top 10)) (defScope (top 10)) .none kV7 dc7 pm7 an7 cd7 ct7), sl7⟩) (c7 : PySem.W.codeIn K cd7 "check_key" = true) (k7 : PySem.W.keepIn K (.ref f7) = true)
    {f8 : Addr} {od8 an8 : Option Addr} {sl8 : Array (Option Value)} {oc8 kV8 dc8 pm8 cd8 ct8 : Value}
    (a8 : PySem.W.nsIn K mainGlobals "check_message" = some (some (.ref f8))) (l8 : K.lookup f8 = some ⟨oc8, od8, .func (PySem.W.fnOf "check_message" "check_message" (defArgs (top 16)) (defBody (top 16)) (defScope (top 16)) .none kV8 dc8 pm8 an8 cd8 ct8), sl8⟩) (c8 : PySem.W.codeIn K cd8 "check_message" = true) (k8 : PySem.W.keepIn K (.ref f8) = true)
    {f9 : Addr} {od9 an9 : Option Addr} {sl9 : Array (Option Value)} {oc9 kV9 dc9 pm9 cd9 ct9 : Value}
    (a9 : PySem.W.nsIn K mainGlobals "asked_of" = some (some (.ref f9))) (l9 : K.lookup f9 = some ⟨oc9, od9, .func (PySem.W.fnOf "asked_of" "asked_of" (defArgs (top 17)) (defBody (top 17)) (defScope (top 17)) .none kV9 dc9 pm9 an9 cd9 ct9), sl9⟩) (c9 : PySem.W.codeIn K cd9 "asked_of" = true) (k9 : PySem.W.keepIn K (.ref f9) = true)
    {f10 : Addr} {od10 an10 : Option Addr} {sl10 : Array (Option Value)} {oc10 kV10 dc10 pm10 cd10 ct10 : Value}
    (a10 : PySem.W.nsIn K mainGlobals "sign" = some (some (.ref f10))) (l10 : K.lookup f10 = some ⟨oc10, od10, .func (PySem.W.fnOf "sign" "sign" (defArgs (top 18)) (defBody (top 18)) (defScope (top 18)) .none kV10 dc10 pm10 an10 cd10 ct10), sl10⟩) (c10 : PySem.W.codeIn K cd10 "sign" = true) (k10 : PySem.W.keepIn K (.ref f10) = true)
    {f11 : Addr} {od11 an11 : Option Addr} {sl11 : Array (Option Value)} {oc11 kV11 dc11 pm11 cd11 ct11 : Value}
    (a11 : PySem.W.nsIn K mainGlobals "together" = some (some (.ref f11))) (l11 : K.lookup f11 = some ⟨oc11, od11, .func (PySem.W.fnOf "together" "together" (defArgs (top 22)) (defBody (top 22)) (defScope (top 22)) .none kV11 dc11 pm11 an11 cd11 ct11), sl11⟩) (c11 : PySem.W.codeIn K cd11 "together" = true) (k11 : PySem.W.keepIn K (.ref f11) = true)
    {f12 : Addr} {od12 an12 : Option Addr} {sl12 : Array (Option Value)} {oc12 kV12 dc12 pm12 cd12 ct12 : Value}
    (a12 : PySem.W.nsIn K mainGlobals "check_member" = some (some (.ref f12))) (l12 : K.lookup f12 = some ⟨oc12, od12, .func (PySem.W.fnOf "check_member" "check_member" (defArgs (top 9)) (defBody (top 9)) (defScope (top 9)) .none kV12 dc12 pm12 an12 cd12 ct12), sl12⟩) (c12 : PySem.W.codeIn K cd12 "check_member" = true) (k12 : PySem.W.keepIn K (.ref f12) = true)
    {f13 : Addr} {od13 an13 : Option Addr} {sl13 : Array (Option Value)} {oc13 kV13 dc13 pm13 cd13 ct13 : Value}
    (a13 : PySem.W.nsIn K mainGlobals "check_ring" = some (some (.ref f13))) (l13 : K.lookup f13 = some ⟨oc13, od13, .func (PySem.W.fnOf "check_ring" "check_ring" (defArgs (top 25)) (defBody (top 25)) (defScope (top 25)) .none kV13 dc13 pm13 an13 cd13 ct13), sl13⟩) (c13 : PySem.W.codeIn K cd13 "check_ring" = true) (k13 : PySem.W.keepIn K (.ref f13) = true)
    {f14 : Addr} {od14 an14 : Option Addr} {sl14 : Array (Option Value)} {oc14 kV14 dc14 pm14 cd14 ct14 : Value}
    (a14 : PySem.W.nsIn K mainGlobals "public_of" = some (some (.ref f14))) (l14 : K.lookup f14 = some ⟨oc14, od14, .func (PySem.W.fnOf "public_of" "public_of" (defArgs (top 12)) (defBody (top 12)) (defScope (top 12)) .none kV14 dc14 pm14 an14 cd14 ct14), sl14⟩) (c14 : PySem.W.codeIn K cd14 "public_of" = true) (k14 : PySem.W.keepIn K (.ref f14) = true)
    {f15 : Addr} {od15 an15 : Option Addr} {sl15 : Array (Option Value)} {oc15 kV15 dc15 pm15 cd15 ct15 : Value}
    (a15 : PySem.W.nsIn K mainGlobals "ring_sign" = some (some (.ref f15))) (l15 : K.lookup f15 = some ⟨oc15, od15, .func (PySem.W.fnOf "ring_sign" "ring_sign" (defArgs (top 26)) (defBody (top 26)) (defScope (top 26)) .none kV15 dc15 pm15 an15 cd15 ct15), sl15⟩) (c15 : PySem.W.codeIn K cd15 "ring_sign" = true) (k15 : PySem.W.keepIn K (.ref f15) = true)
    {f16 : Addr} {od16 an16 : Option Addr} {sl16 : Array (Option Value)} {oc16 kV16 dc16 pm16 cd16 ct16 : Value}
    (a16 : PySem.W.nsIn K mainGlobals "_law_order" = some (some (.ref f16))) (l16 : K.lookup f16 = some ⟨oc16, od16, .func (PySem.W.fnOf "_law_order" "_law_order" (defArgs (top 35)) (defBody (top 35)) (defScope (top 35)) .none kV16 dc16 pm16 an16 cd16 ct16), sl16⟩) (c16 : PySem.W.codeIn K cd16 "_law_order" = true) (k16 : PySem.W.keepIn K (.ref f16) = true)
    {f17 : Addr} {od17 an17 : Option Addr} {sl17 : Array (Option Value)} {oc17 kV17 dc17 pm17 cd17 ct17 : Value}
    (a17 : PySem.W.nsIn K mainGlobals "is_ring_signed" = some (some (.ref f17))) (l17 : K.lookup f17 = some ⟨oc17, od17, .func (PySem.W.fnOf "is_ring_signed" "is_ring_signed" (defArgs (top 27)) (defBody (top 27)) (defScope (top 27)) .none kV17 dc17 pm17 an17 cd17 ct17), sl17⟩) (c17 : PySem.W.codeIn K cd17 "is_ring_signed" = true) (k17 : PySem.W.keepIn K (.ref f17) = true)
    {f18 : Addr} {od18 an18 : Option Addr} {sl18 : Array (Option Value)} {oc18 kV18 dc18 pm18 cd18 ct18 : Value}
    (a18 : PySem.W.nsIn K mainGlobals "_law_moved" = some (some (.ref f18))) (l18 : K.lookup f18 = some ⟨oc18, od18, .func (PySem.W.fnOf "_law_moved" "_law_moved" (defArgs (top 38)) (defBody (top 38)) (defScope (top 38)) .none kV18 dc18 pm18 an18 cd18 ct18), sl18⟩) (c18 : PySem.W.codeIn K cd18 "_law_moved" = true) (k18 : PySem.W.keepIn K (.ref f18) = true)
    {f19 : Addr} {od19 an19 : Option Addr} {sl19 : Array (Option Value)} {oc19 kV19 dc19 pm19 cd19 ct19 : Value}
    (a19 : PySem.W.nsIn K mainGlobals "is_signed" = some (some (.ref f19))) (l19 : K.lookup f19 = some ⟨oc19, od19, .func (PySem.W.fnOf "is_signed" "is_signed" (defArgs (top 19)) (defBody (top 19)) (defScope (top 19)) .none kV19 dc19 pm19 an19 cd19 ct19), sl19⟩) (c19 : PySem.W.codeIn K cd19 "is_signed" = true) (k19 : PySem.W.keepIn K (.ref f19) = true)
    {f20 : Addr} {od20 an20 : Option Addr} {sl20 : Array (Option Value)} {oc20 kV20 dc20 pm20 cd20 ct20 : Value}
    (a20 : PySem.W.nsIn K mainGlobals "by_shares" = some (some (.ref f20))) (l20 : K.lookup f20 = some ⟨oc20, od20, .func (PySem.W.fnOf "by_shares" "by_shares" (defArgs (top 24)) (defBody (top 24)) (defScope (top 24)) .none kV20 dc20 pm20 an20 cd20 ct20), sl20⟩) (c20 : PySem.W.codeIn K cd20 "by_shares" = true) (k20 : PySem.W.keepIn K (.ref f20) = true)
    {f21 : Addr} {od21 an21 : Option Addr} {sl21 : Array (Option Value)} {oc21 kV21 dc21 pm21 cd21 ct21 : Value}
    (a21 : PySem.W.nsIn K mainGlobals "_law_some" = some (some (.ref f21))) (l21 : K.lookup f21 = some ⟨oc21, od21, .func (PySem.W.fnOf "_law_some" "_law_some" (defArgs (top 34)) (defBody (top 34)) (defScope (top 34)) .none kV21 dc21 pm21 an21 cd21 ct21), sl21⟩) (c21 : PySem.W.codeIn K cd21 "_law_some" = true) (k21 : PySem.W.keepIn K (.ref f21) = true)
    {f22 : Addr} {od22 an22 : Option Addr} {sl22 : Array (Option Value)} {oc22 kV22 dc22 pm22 cd22 ct22 : Value}
    (a22 : PySem.W.nsIn K mainGlobals "part_is_right" = some (some (.ref f22))) (l22 : K.lookup f22 = some ⟨oc22, od22, .func (PySem.W.fnOf "part_is_right" "part_is_right" (defArgs (top 23)) (defBody (top 23)) (defScope (top 23)) .none kV22 dc22 pm22 an22 cd22 ct22), sl22⟩) (c22 : PySem.W.codeIn K cd22 "part_is_right" = true) (k22 : PySem.W.keepIn K (.ref f22) = true)
    {f23 : Addr} {od23 an23 : Option Addr} {sl23 : Array (Option Value)} {oc23 kV23 dc23 pm23 cd23 ct23 : Value}
    (a23 : PySem.W.nsIn K mainGlobals "power" = some (some (.ref f23))) (l23 : K.lookup f23 = some ⟨oc23, od23, .func (PySem.W.fnOf "power" "power" (defArgs (top 7)) (defBody (top 7)) (defScope (top 7)) .none kV23 dc23 pm23 an23 cd23 ct23), sl23⟩) (c23 : PySem.W.codeIn K cd23 "power" = true) (k23 : PySem.W.keepIn K (.ref f23) = true)
    {f24 : Addr} {od24 an24 : Option Addr} {sl24 : Array (Option Value)} {oc24 kV24 dc24 pm24 cd24 ct24 : Value}
    (a24 : PySem.W.nsIn K mainGlobals "members" = some (some (.ref f24))) (l24 : K.lookup f24 = some ⟨oc24, od24, .func (PySem.W.fnOf "members" "members" (defArgs (top 8)) (defBody (top 8)) (defScope (top 8)) .none kV24 dc24 pm24 an24 cd24 ct24), sl24⟩) (c24 : PySem.W.codeIn K cd24 "members" = true) (k24 : PySem.W.keepIn K (.ref f24) = true)
    {f25 : Addr} {od25 an25 : Option Addr} {sl25 : Array (Option Value)} {oc25 kV25 dc25 pm25 cd25 ct25 : Value}
    (a25 : PySem.W.nsIn K mainGlobals "_law_power" = some (some (.ref f25))) (l25 : K.lookup f25 = some ⟨oc25, od25, .func (PySem.W.fnOf "_law_power" "_law_power" (defArgs (top 36)) (defBody (top 36)) (defScope (top 36)) .none kV25 dc25 pm25 an25 cd25 ct25), sl25⟩) (c25 : PySem.W.codeIn K cd25 "_law_power" = true) (k25 : PySem.W.keepIn K (.ref f25) = true)
    {f26 : Addr} {od26 an26 : Option Addr} {sl26 : Array (Option Value)} {oc26 kV26 dc26 pm26 cd26 ct26 : Value}
    (a26 : PySem.W.nsIn K mainGlobals "_law_part2" = some (some (.ref f26))) (l26 : K.lookup f26 = some ⟨oc26, od26, .func (PySem.W.fnOf "_law_part2" "_law_part2" (defArgs (top 39)) (defBody (top 39)) (defScope (top 39)) .none kV26 dc26 pm26 an26 cd26 ct26), sl26⟩) (c26 : PySem.W.codeIn K cd26 "_law_part2" = true) (k26 : PySem.W.keepIn K (.ref f26) = true)
    {f27 : Addr} {od27 an27 : Option Addr} {sl27 : Array (Option Value)} {oc27 kV27 dc27 pm27 cd27 ct27 : Value}
    (a27 : PySem.W.nsIn K mainGlobals "is_right" = some (some (.ref f27))) (l27 : K.lookup f27 = some ⟨oc27, od27, .func (PySem.W.fnOf "is_right" "is_right" (defArgs (top 29)) (defBody (top 29)) (defScope (top 29)) .none kV27 dc27 pm27 an27 cd27 ct27), sl27⟩) (c27 : PySem.W.codeIn K cd27 "is_right" = true) (k27 : PySem.W.keepIn K (.ref f27) = true)
    {f28 : Addr} {od28 an28 : Option Addr} {sl28 : Array (Option Value)} {oc28 kV28 dc28 pm28 cd28 ct28 : Value}
    (a28 : PySem.W.nsIn K mainGlobals "key_from" = some (some (.ref f28))) (l28 : K.lookup f28 = some ⟨oc28, od28, .func (PySem.W.fnOf "key_from" "key_from" (defArgs (top 20)) (defBody (top 20)) (defScope (top 20)) .none kV28 dc28 pm28 an28 cd28 ct28), sl28⟩) (c28 : PySem.W.codeIn K cd28 "key_from" = true) (k28 : PySem.W.keepIn K (.ref f28) = true)
    {f29 : Addr} {od29 an29 : Option Addr} {sl29 : Array (Option Value)} {oc29 kV29 dc29 pm29 cd29 ct29 : Value}
    (a29 : PySem.W.nsIn K mainGlobals "blind_forgeries" = some (some (.ref f29))) (l29 : K.lookup f29 = some ⟨oc29, od29, .func (PySem.W.fnOf "blind_forgeries" "blind_forgeries" (defArgs (top 21)) (defBody (top 21)) (defScope (top 21)) .none kV29 dc29 pm29 an29 cd29 ct29), sl29⟩) (c29 : PySem.W.codeIn K cd29 "blind_forgeries" = true) (k29 : PySem.W.keepIn K (.ref f29) = true)
    {f30 : Addr} {od30 an30 : Option Addr} {sl30 : Array (Option Value)} {oc30 kV30 dc30 pm30 cd30 ct30 : Value}
    (a30 : PySem.W.nsIn K mainGlobals "made_row" = some (some (.ref f30))) (l30 : K.lookup f30 = some ⟨oc30, od30, .func (PySem.W.fnOf "made_row" "made_row" (defArgs (top 30)) (defBody (top 30)) (defScope (top 30)) .none kV30 dc30 pm30 an30 cd30 ct30), sl30⟩) (c30 : PySem.W.codeIn K cd30 "made_row" = true) (k30 : PySem.W.keepIn K (.ref f30) = true)
    {f31 : Addr} {od31 an31 : Option Addr} {sl31 : Array (Option Value)} {oc31 kV31 dc31 pm31 cd31 ct31 : Value}
    (a31 : PySem.W.nsIn K mainGlobals "law" = some (some (.ref f31))) (l31 : K.lookup f31 = some ⟨oc31, od31, .func (PySem.W.fnOf "law" "law" (defArgs (top 40)) (defBody (top 40)) (defScope (top 40)) .none kV31 dc31 pm31 an31 cd31 ct31), sl31⟩) (c31 : PySem.W.codeIn K cd31 "law" = true) (k31 : PySem.W.keepIn K (.ref f31) = true)
    (z_abs : PySem.W.nsIn K mainGlobals "abs" = some none)
    (z_all : PySem.W.nsIn K mainGlobals "all" = some none)
    (z_any : PySem.W.nsIn K mainGlobals "any" = some none)
    (z_enumerate : PySem.W.nsIn K mainGlobals "enumerate" = some none)
    (z_int : PySem.W.nsIn K mainGlobals "int" = some none)
    (z_len : PySem.W.nsIn K mainGlobals "len" = some none)
    (z_list : PySem.W.nsIn K mainGlobals "list" = some none)
    (z_range : PySem.W.nsIn K mainGlobals "range" = some none)
    (z_sorted : PySem.W.nsIn K mainGlobals "sorted" = some none)
    (z_sum : PySem.W.nsIn K mainGlobals "sum" = some none)
    (z_tuple : PySem.W.nsIn K mainGlobals "tuple" = some none)
    (z_zip : PySem.W.nsIn K mainGlobals "zip" = some none)
    {t_MOST : Tok} (g_MOST : PySem.W.nsIn K mainGlobals "MOST" = some (some (.int 400 t_MOST)))
    {t_MOST_HANDS : Tok} (g_MOST_HANDS : PySem.W.nsIn K mainGlobals "MOST_HANDS" = some (some (.int 6 t_MOST_HANDS)))
    : ∃ fd : FuncData, (∀ (s : Shared) (v : Value), BindsTo s fd ⟨[v], []⟩ [("script", v)]) ∧ ∀ (P : Program) (w : World) (base : Heap), FnOk P w K mg base (L2.CX P w) 8 fa fd ["script"] (LSp K ⟨[], 0⟩ 27 C_law) := by
  have e : f31 = fa := by
    have e := hfa.symm.trans (PySem.W.mg_of X G a31)
    cases e; rfl
  subst e
  have F0 := fun_mk (st := top 32) l0 c0 k0
  have b0 := F0.binds (ps := ["script"]) fun _ _ _ _ _ _ us hl => match us, hl with | [_], _ => rfl
  have F1 := fun_mk (st := top 33) l1 c1 k1
  have b1 := F1.binds (ps := ["d", "many"]) fun _ _ _ _ _ _ us hl => match us, hl with | [_, _], _ => rfl
  have F2 := fun_mk (st := top 37) l2 c2 k2
  have b2 := F2.binds (ps := ["d"]) fun _ _ _ _ _ _ us hl => match us, hl with | [_], _ => rfl
  have F3 := fun_mk (st := top 4) l3 c3 k3
  have b3 := F3.binds (ps := ["number"]) fun _ _ _ _ _ _ us hl => match us, hl with | [_], _ => rfl
  have F4 := fun_mk (st := top 6) l4 c4 k4
  have b4 := F4.binds (ps := ["p", "base", "times"]) fun _ _ _ _ _ _ us hl => match us, hl with | [_, _, _], _ => rfl
  have F5 := fun_mk (st := top 5) l5 c5 k5
  have b5 := F5.binds (ps := ["group"]) fun _ _ _ _ _ _ us hl => match us, hl with | [_], _ => rfl
  have F6 := fun_mk (st := top 15) l6 c6 k6
  have b6 := F6.binds (ps := ["group", "oracle"]) fun _ _ _ _ _ _ us hl => match us, hl with | [_, _], _ => rfl
  have F7 := fun_mk (st := top 10) l7 c7 k7
  have b7 := F7.binds (ps := ["group", "key"]) fun _ _ _ _ _ _ us hl => match us, hl with | [_, _], _ => rfl
  have F8 := fun_mk (st := top 16) l8 c8 k8
  have b8 := F8.binds (ps := ["message"]) fun _ _ _ _ _ _ us hl => match us, hl with | [_], _ => rfl
  have F9 := fun_mk (st := top 17) l9 c9 k9
  have b9 := F9.binds (ps := ["group", "oracle", "first", "message"]) fun _ _ _ _ _ _ us hl => match us, hl with | [_, _, _, _], _ => rfl
  have F10 := fun_mk (st := top 18) l10 c10 k10
  have b10 := F10.binds (ps := ["group", "oracle", "key", "message", "drawn"]) fun _ _ _ _ _ _ us hl => match us, hl with | [_, _, _, _, _], _ => rfl
  have F11 := fun_mk (st := top 22) l11 c11 k11
  have b11 := F11.binds (ps := ["group", "oracle", "keys", "message", "draws"]) fun _ _ _ _ _ _ us hl => match us, hl with | [_, _, _, _, _], _ => rfl
  have F12 := fun_mk (st := top 9) l12 c12 k12
  have b12 := F12.binds (ps := ["group", "one"]) fun _ _ _ _ _ _ us hl => match us, hl with | [_, _], _ => rfl
  have F13 := fun_mk (st := top 25) l13 c13 k13
  have b13 := F13.binds (ps := ["group", "publics"]) fun _ _ _ _ _ _ us hl => match us, hl with | [_, _], _ => rfl
  have F14 := fun_mk (st := top 12) l14 c14 k14
  have b14 := F14.binds (ps := ["group", "key"]) fun _ _ _ _ _ _ us hl => match us, hl with | [_, _], _ => rfl
  have F15 := fun_mk (st := top 26) l15 c15 k15
  have b15 := F15.binds (ps := ["group", "oracle", "publics", "place", "key", "message", "drawn", "answers"]) fun _ _ _ _ _ _ us hl => match us, hl with | [_, _, _, _, _, _, _, _], _ => rfl
  have F16 := fun_mk (st := top 35) l16 c16 k16
  have b16 := F16.binds (ps := ["d", "many"]) fun _ _ _ _ _ _ us hl => match us, hl with | [_, _], _ => rfl
  have F17 := fun_mk (st := top 27) l17 c17 k17
  have b17 := F17.binds (ps := ["group", "oracle", "publics", "message", "signature"]) fun _ _ _ _ _ _ us hl => match us, hl with | [_, _, _, _, _], _ => rfl
  have F18 := fun_mk (st := top 38) l18 c18 k18
  have b18 := F18.binds (ps := ["row", "order"]) fun _ _ _ _ _ _ us hl => match us, hl with | [_, _], _ => rfl
  have F19 := fun_mk (st := top 19) l19 c19 k19
  have b19 := F19.binds (ps := ["group", "oracle", "public", "message", "signature"]) fun _ _ _ _ _ _ us hl => match us, hl with | [_, _, _, _, _], _ => rfl
  have F20 := fun_mk (st := top 24) l20 c20 k20
  have b20 := F20.binds (ps := ["group", "oracle", "shares", "places", "message", "draws"]) fun _ _ _ _ _ _ us hl => match us, hl with | [_, _, _, _, _, _], _ => rfl
  have F21 := fun_mk (st := top 34) l21 c21 k21
  have b21 := F21.binds (ps := ["d", "many", "often"]) fun _ _ _ _ _ _ us hl => match us, hl with | [_, _, _], _ => rfl
  have F22 := fun_mk (st := top 23) l22 c22 k22
  have b22 := F22.binds (ps := ["group", "public", "first", "asked", "told"]) fun _ _ _ _ _ _ us hl => match us, hl with | [_, _, _, _, _], _ => rfl
  have F23 := fun_mk (st := top 7) l23 c23 k23
  have b23 := F23.binds (ps := ["group", "base", "times"]) fun _ _ _ _ _ _ us hl => match us, hl with | [_, _, _], _ => rfl
  have F24 := fun_mk (st := top 8) l24 c24 k24
  have b24 := F24.binds (ps := ["group"]) fun _ _ _ _ _ _ us hl => match us, hl with | [_], _ => rfl
  have F25 := fun_mk (st := top 36) l25 c25 k25
  have b25 := F25.binds (ps := ["p", "base", "times"]) fun _ _ _ _ _ _ us hl => match us, hl with | [_, _, _], _ => rfl
  have F26 := fun_mk (st := top 39) l26 c26 k26
  have b26 := F26.binds (ps := ["d", "group", "p", "q", "g", "oracle", "message", "secret", "drawn", "public", "first", "told", "many", "keys", "draws", "parts", "signature", "order"]) fun _ _ _ _ _ _ us hl => match us, hl with | [_, _, _, _, _, _, _, _, _, _, _, _, _, _, _, _, _, _], _ => rfl
  have F27 := fun_mk (st := top 29) l27 c27 k27
  have b27 := F27.binds (ps := ["group", "public", "row"]) fun _ _ _ _ _ _ us hl => match us, hl with | [_, _, _], _ => rfl
  have F28 := fun_mk (st := top 20) l28 c28 k28
  have b28 := F28.binds (ps := ["group", "oracle", "first", "other"]) fun _ _ _ _ _ _ us hl => match us, hl with | [_, _, _, _], _ => rfl
  have F29 := fun_mk (st := top 21) l29 c29 k29
  have b29 := F29.binds (ps := ["group", "oracle", "public", "message"]) fun _ _ _ _ _ _ us hl => match us, hl with | [_, _, _, _], _ => rfl
  have F30 := fun_mk (st := top 30) l30 c30 k30
  have b30 := F30.binds (ps := ["group", "public", "asked", "told"]) fun _ _ _ _ _ _ us hl => match us, hl with | [_, _, _, _], _ => rfl
  have F31 := fun_mk (st := top 40) l31 c31 k31
  have b31 := F31.binds (ps := ["script"]) fun _ _ _ _ _ _ us hl => match us, hl with | [_], _ => rfl
  let E : Env K mg := {
    a__law_begin := f0, fd__law_begin := _, F__law_begin := F0, m__law_begin := PySem.W.mg_of X G a0, k__law_begin := k0, b__law_begin := b0,
    a__law_take := f1, fd__law_take := _, F__law_take := F1, m__law_take := PySem.W.mg_of X G a1, k__law_take := k1, b__law_take := b1,
    a__law_group := f2, fd__law_group := _, F__law_group := F2, m__law_group := PySem.W.mg_of X G a2, k__law_group := k2, b__law_group := b2,
    a_is_prime := f3, fd_is_prime := _, F_is_prime := F3, m_is_prime := PySem.W.mg_of X G a3, k_is_prime := k3, b_is_prime := b3,
    a_power_in := f4, fd_power_in := _, F_power_in := F4, m_power_in := PySem.W.mg_of X G a4, k_power_in := k4, b_power_in := b4,
    a_check := f5, fd_check := _, F_check := F5, m_check := PySem.W.mg_of X G a5, k_check := k5, b_check := b5,
    a_check_oracle := f6, fd_check_oracle := _, F_check_oracle := F6, m_check_oracle := PySem.W.mg_of X G a6, k_check_oracle := k6, b_check_oracle := b6,
    a_check_key := f7, fd_check_key := _, F_check_key := F7, m_check_key := PySem.W.mg_of X G a7, k_check_key := k7, b_check_key := b7,
    a_check_message := f8, fd_check_message := _, F_check_message := F8, m_check_message := PySem.W.mg_of X G a8, k_check_message := k8, b_check_message := b8,
    a_asked_of := f9, fd_asked_of := _, F_asked_of := F9, m_asked_of := PySem.W.mg_of X G a9, k_asked_of := k9, b_asked_of := b9,
    a_sign := f10, fd_sign := _, F_sign := F10, m_sign := PySem.W.mg_of X G a10, k_sign := k10, b_sign := b10,
    a_together := f11, fd_together := _, F_together := F11, m_together := PySem.W.mg_of X G a11, k_together := k11, b_together := b11,
    a_check_member := f12, fd_check_member := _, F_check_member := F12, m_check_member := PySem.W.mg_of X G a12, k_check_member := k12, b_check_member := b12,
    a_check_ring := f13, fd_check_ring := _, F_check_ring := F13, m_check_ring := PySem.W.mg_of X G a13, k_check_ring := k13, b_check_ring := b13,
    a_public_of := f14, fd_public_of := _, F_public_of := F14, m_public_of := PySem.W.mg_of X G a14, k_public_of := k14, b_public_of := b14,
    a_ring_sign := f15, fd_ring_sign := _, F_ring_sign := F15, m_ring_sign := PySem.W.mg_of X G a15, k_ring_sign := k15, b_ring_sign := b15,
    a__law_order := f16, fd__law_order := _, F__law_order := F16, m__law_order := PySem.W.mg_of X G a16, k__law_order := k16, b__law_order := b16,
    a_is_ring_signed := f17, fd_is_ring_signed := _, F_is_ring_signed := F17, m_is_ring_signed := PySem.W.mg_of X G a17, k_is_ring_signed := k17, b_is_ring_signed := b17,
    a__law_moved := f18, fd__law_moved := _, F__law_moved := F18, m__law_moved := PySem.W.mg_of X G a18, k__law_moved := k18, b__law_moved := b18,
    a_is_signed := f19, fd_is_signed := _, F_is_signed := F19, m_is_signed := PySem.W.mg_of X G a19, k_is_signed := k19, b_is_signed := b19,
    a_by_shares := f20, fd_by_shares := _, F_by_shares := F20, m_by_shares := PySem.W.mg_of X G a20, k_by_shares := k20, b_by_shares := b20,
    a__law_some := f21, fd__law_some := _, F__law_some := F21, m__law_some := PySem.W.mg_of X G a21, k__law_some := k21, b__law_some := b21,
    a_part_is_right := f22, fd_part_is_right := _, F_part_is_right := F22, m_part_is_right := PySem.W.mg_of X G a22, k_part_is_right := k22, b_part_is_right := b22,
    a_power := f23, fd_power := _, F_power := F23, m_power := PySem.W.mg_of X G a23, k_power := k23, b_power := b23,
    a_members := f24, fd_members := _, F_members := F24, m_members := PySem.W.mg_of X G a24, k_members := k24, b_members := b24,
    a__law_power := f25, fd__law_power := _, F__law_power := F25, m__law_power := PySem.W.mg_of X G a25, k__law_power := k25, b__law_power := b25,
    a__law_part2 := f26, fd__law_part2 := _, F__law_part2 := F26, m__law_part2 := PySem.W.mg_of X G a26, k__law_part2 := k26, b__law_part2 := b26,
    a_is_right := f27, fd_is_right := _, F_is_right := F27, m_is_right := PySem.W.mg_of X G a27, k_is_right := k27, b_is_right := b27,
    a_key_from := f28, fd_key_from := _, F_key_from := F28, m_key_from := PySem.W.mg_of X G a28, k_key_from := k28, b_key_from := b28,
    a_blind_forgeries := f29, fd_blind_forgeries := _, F_blind_forgeries := F29, m_blind_forgeries := PySem.W.mg_of X G a29, k_blind_forgeries := k29, b_blind_forgeries := b29,
    a_made_row := f30, fd_made_row := _, F_made_row := F30, m_made_row := PySem.W.mg_of X G a30, k_made_row := k30, b_made_row := b30,
    a_law := f31, fd_law := _, F_law := F31, m_law := PySem.W.mg_of X G a31, k_law := k31, b_law := b31,
    n_abs := PySem.W.mg_none_of X G z_abs,
    n_all := PySem.W.mg_none_of X G z_all,
    n_any := PySem.W.mg_none_of X G z_any,
    n_enumerate := PySem.W.mg_none_of X G z_enumerate,
    n_int := PySem.W.mg_none_of X G z_int,
    n_len := PySem.W.mg_none_of X G z_len,
    n_list := PySem.W.mg_none_of X G z_list,
    n_range := PySem.W.mg_none_of X G z_range,
    n_sorted := PySem.W.mg_none_of X G z_sorted,
    n_sum := PySem.W.mg_none_of X G z_sum,
    n_tuple := PySem.W.mg_none_of X G z_tuple,
    n_zip := PySem.W.mg_none_of X G z_zip,
    g_MOST := ⟨_, PySem.W.mg_of X G g_MOST⟩,
    g_MOST_HANDS := ⟨_, PySem.W.mg_of X G g_MOST_HANDS⟩ }
  exact ⟨_, fun s v => .of_eq rfl, fun P w base => ok_law E⟩
end
end K57
end MP

namespace MP
open PySem
/-- no great number -/
def Sm (i : Int) : Prop := -(2 ^ 64) < i ∧ i < 2 ^ 64
theorem mul_sm {i j : Int} (h : Sm i) (k : Sm j) : mulS (.val (.int i)) (.val (.int j)) = some (.val (.int (i * j))) := mul_int h.1 h.2 k.1 k.2
theorem imul_sm {i j : Int} (h : Sm i) (k : Sm j) : imulS (.val (.int i)) (.val (.int j)) = some (.val (.int (i * j))) := mul_int h.1 h.2 k.1 k.2
theorem Sm.emod {i p : Int} (h : 0 < p) (h2 : p < 2 ^ 62) : Sm (i % p) := ⟨by have := Int.emod_nonneg i (show p ≠ 0 by omega); omega, by have := Int.emod_lt_of_pos i h; omega⟩
section
variable {a b c d : D} {l : List D}
@[simp] theorem ixt0 : ixS (.val (.tup (a :: l))) (.val (.int 0)) = some (.val a) := ix_at rfl (by decide) rfl
@[simp] theorem ixt1 : ixS (.val (.tup (a :: b :: l))) (.val (.int 1)) = some (.val b) := ix_at rfl (by decide) rfl
@[simp] theorem ixt2 : ixS (.val (.tup (a :: b :: c :: l))) (.val (.int 2)) = some (.val c) := ix_at rfl (by decide) rfl
@[simp] theorem ixt3 : ixS (.val (.tup (a :: b :: c :: d :: l))) (.val (.int 3)) = some (.val d) := ix_at rfl (by decide) rfl
end
theorem pow_emod (b p : Int) : ∀ n : Nat, (b % p) ^ n % p = b ^ n % p
  | 0 => by simp
  | n + 1 => by
    rw [Int.pow_succ, Int.pow_succ, Int.mul_emod, pow_emod b p n, ← Int.mul_emod, Int.mul_emod, Int.emod_emod_of_dvd _ (Int.dvd_refl p), ← Int.mul_emod]
end MP
namespace MP.K57
open PySem
abbrev Gr (p q g : Int) : Sl := .val (.tup [.int p, .int q, .int g])
/-! ### power_in -/
theorem pow_step (p b : Int) (m r : Nat) (f : Int) : (if r = 1 then f * b % p else f) * (b * b % p) ^ m % p = f * b ^ (2 * m + (if r = 1 then 1 else 0)) % p := by
  have e : (b * b) ^ m = b ^ (2 * m) := by rw [Int.pow_mul, show b ^ 2 = b * b by rw [Int.pow_succ, Int.pow_one]]
  have k : ∀ x : Int, x * (b * b % p) ^ m % p = x * (b ^ (2 * m)) % p := fun x => by
    rw [Int.mul_emod, pow_emod, e, ← Int.mul_emod]
  by_cases h : r = 1
  · rw [if_pos h, if_pos h, k, Int.pow_succ, Int.mul_emod, Int.emod_emod_of_dvd _ (Int.dvd_refl p), ← Int.mul_emod, Int.mul_assoc, Int.mul_comm b]
  · rw [if_neg h, if_neg h, k]; rfl
def powT : Tv := ofE (binE gtS (varE 2) (cstE (.int 0)))
def powB : Cs := (seqC (ifC (ofE (binE eqS (binE modS (varE 2) (cstE (.int 2))) (cstE (.int 1)))) (asgC 3 (binE modS (binE mulS (varE 3) (varE 1)) (varE 0))) skipC)
  (seqC (asgC 1 (binE modS (binE mulS (varE 1) (varE 1)) (varE 0)))
  (augC 2 fdivS (cstE (.int 2)))))
theorem pow_loop (p : Int) (hp : 1 < p) (hp2 : p < 2 ^ 30) (ta : TapeO) : ∀ (k fuel : Nat) (b f : Int) (n : Nat), k < fuel → n < 2 ^ k → 0 ≤ b → b < p → 0 ≤ f → f < p →
    ∃ b' n', whileC powT powB fuel [I p, I b, I (n : Int), I f] ta = some (.nx, [I p, I b', I n', I (f * b ^ n % p)], ta)
  | k, 0, b, f, n, hk, _, _, _, _, _ => by omega
  | k, fuel + 1, b, f, n, hk, hn, hb0, hb1, hf0, hf1 => by
    by_cases hz : n = 0
    · subst hz
      refine ⟨b, 0, ?_⟩
      rw [while_ap]
      simp [powT, gt_int, Int.emod_eq_of_lt hf0 hf1]
    · obtain ⟨k, rfl⟩ : ∃ k', k = k' + 1 := ⟨k - 1, by
        rcases k with _ | k
        · simp at hn; omega
        · omega⟩
      have hpp : 0 < p := by omega
      have hb : Sm b := ⟨by omega, by omega⟩
      have hf : Sm f := ⟨by omega, by omega⟩
      have mo := fun i => @mod_int i p hpp
      have m2 := fun i => @mod_int i 2 (by decide)
      have hpn : (0 : Int) < n := by omega
      have hpN : 0 < n := by omega
      have em := fun i => Int.emod_nonneg i (show p ≠ 0 by omega)
      have el := fun i => Int.emod_lt_of_pos i hpp
      obtain ⟨b', n', e⟩ := pow_loop p hp hp2 ta k fuel (b * b % p) (if n % 2 = 1 then f * b % p else f) (n / 2) (by omega) (by rw [Nat.pow_succ] at hn; omega) (em _) (el _) (by split; exact em _; exact hf0) (by split; exact el _; exact hf1)
      refine ⟨b', n', ?_⟩
      rw [pow_step, show 2 * (n / 2) + (if n % 2 = 1 then 1 else 0) = n by split <;> omega] at e
      rw [while_ap]
      have hc : ((n / 2 : Nat) : Int) = (n : Int) / 2 := by omega
      rw [hc] at e
      by_cases h1 : n % 2 = 1
      · have h1' : (n : Int) % 2 = 1 := by omega
        rw [if_pos h1] at e
        simp [powT, powB, gt_int, hpn, hpN, m2, eq_int, h1', mo, mul_sm, hb, hf, fdiv_int] at e ⊢
        exact e
      · have h1' : ¬ (n : Int) % 2 = 1 := by omega
        rw [if_neg h1] at e
        simp [powT, powB, gt_int, hpn, hpN, m2, eq_int, h1', mo, mul_sm, hb, hf, fdiv_int] at e ⊢
        exact e
theorem power_in_ok {p : Int} (hp : 1 < p) (hp2 : p < 2 ^ 30) (b n : Int) (hn : n < 2 ^ 60) (ta : TapeO) : F_power_in [I p, I b, I n] ta = some (.ok (.val (.int (b ^ n.toNat % p))), ta) := by
  have hpp : 0 < p := by omega
  have mo := fun i => @mod_int i p hpp
  unfold F_power_in C_power_in
  rw [defF_ap]
  by_cases h0 : 0 ≤ n
  · obtain ⟨m, rfl⟩ := Int.eq_ofNat_of_zero_le h0
    obtain ⟨b', n', e⟩ := pow_loop p hp hp2 ta 60 FUEL (b % p) 1 m (by decide) (by have : ((2 : Int) ^ 60) = ((2 ^ 60 : Nat) : Int) := by decide
                                                                                   omega) (Int.emod_nonneg _ (by omega)) (Int.emod_lt_of_pos _ hpp) (by decide) hp
    rw [Int.one_mul, pow_emod] at e
    unfold powT powB at e
    simp [mo, e]
  · have hz : ¬ 0 < n := by omega
    have ht : n.toNat = 0 := by omega
    have e : whileC powT powB FUEL [I p, I (b % p), I n, I 1] ta = some (.nx, [I p, I (b % p), I n, I 1], ta) := by
      show whileC powT powB (99999 + 1) _ _ = _
      rw [while_ap]
      simp [powT, gt_int, hz]
    unfold powT powB at e
    simp [mo, e, ht, Int.emod_eq_of_lt (show (0 : Int) ≤ 1 by decide) hp]

/-! ### the groups -/
structure Gp (p q g : Int) : Prop where
  p1 : 3 ≤ p
  p2 : p < 100
  q1 : 2 ≤ q
  q2 : q < 64
  qp : (p - 1) % q = 0
  g1 : 2 ≤ g
  g2 : g < p
  ip : ∀ ta, F_is_prime [I p] ta = some (.ok (.val (.bl true)), ta)
  iq : ∀ ta, F_is_prime [I q] ta = some (.ok (.val (.bl true)), ta)
  gq : g ^ q.toNat % p = 1
  inj : ∀ i, i < q.toNat → ∀ j, j < q.toNat → g ^ i % p = g ^ j % p → i = j
section
variable {p q g : Int} {ta : TapeO}
theorem Gp.pw (G : Gp p q g) (b n : Int) (hn : n < 2 ^ 60) : F_power_in [I p, I b, I n] ta = some (.ok (.val (.int (b ^ n.toNat % p))), ta) := power_in_ok (by have := G.p1; omega) (by have := G.p2; omega) b n hn ta
theorem Gp.chk (G : Gp p q g) : F_check [Gr p q g] ta = some (.ok (.val .non), ta) := by
  obtain ⟨p1, p2, q1, q2, qp, g1, g2, ip, iq, gq, inj⟩ := id G
  have e := G.pw (ta := ta) g q (by omega)
  rw [gq] at e
  have mo := fun i => @mod_int i q (by omega)
  have h400 : p ≤ 400 := by omega
  unfold F_check C_check
  rw [defF_ap]
  simp [le_int, lt_int, p1, h400, ip, iq, sub_int, mo, qp, ne_int, g1, g2, e]
def Mb (p q x : Int) : Prop := 1 ≤ x ∧ x < p ∧ x ^ q.toNat % p = 1
def Ky (q k : Int) : Prop := 0 ≤ k ∧ k < q
theorem Gp.chm (G : Gp p q g) {x : Int} (h : Mb p q x) : F_check_member [Gr p q g, I x] ta = some (.ok (.val .non), ta) := by
  obtain ⟨h1, h2, h3⟩ := h
  have e := G.pw (ta := ta) x q (by have := G.q2; omega)
  rw [h3] at e
  unfold F_check_member C_check_member
  rw [defF_ap]
  simp [G.chk, le_int, lt_int, h1, h2, e, ne_int]
theorem Gp.chk_key (G : Gp p q g) {k : Int} (h : Ky q k) : F_check_key [Gr p q g, I k] ta = some (.ok (.val .non), ta) := by
  obtain ⟨h1, h2⟩ := h
  unfold F_check_key C_check_key
  rw [defF_ap]
  simp [G.chk, le_int, lt_int, h1, h2]
theorem Gp.smp (G : Gp p q g) (i : Int) : Sm (i % p) := Sm.emod (by have := G.p1; omega) (by have := G.p2; omega)
theorem Gp.smq (G : Gp p q g) (i : Int) : Sm (i % q) := Sm.emod (by have := G.q1; omega) (by have := G.q2; omega)
theorem Gp.mp (G : Gp p q g) (i : Int) : modS (I i) (I p) = some (I (i % p)) := mod_int (by have := G.p1; omega)
theorem Gp.mq (G : Gp p q g) (i : Int) : modS (I i) (I q) = some (I (i % q)) := mod_int (by have := G.q1; omega)
theorem Mb.sm (G : Gp p q g) {x : Int} (h : Mb p q x) : Sm x := ⟨by have := h.1; omega, by have := h.2.1; have := G.p2; omega⟩
theorem Ky.sm (G : Gp p q g) {x : Int} (h : Ky q x) : Sm x := ⟨by have := h.1; omega, by have := h.2; have := G.q2; omega⟩
theorem Ky.lt (G : Gp p q g) {x : Int} (h : Ky q x) : x < 2 ^ 60 := by have := h.2; have := G.q2; omega
theorem Gp.power (G : Gp p q g) {x : Int} (h1 : 1 ≤ x) (h2 : x < p) (n : Int) : F_power [Gr p q g, I x, I n] ta = some (.ok (.val (.int (x ^ (n % (p - 1)).toNat % p))), ta) := by
  have hp := G.p1
  have hp2 := G.p2
  have mo := fun i => @mod_int i (p - 1) (by omega)
  have e := G.pw (ta := ta) x (n % (p - 1)) (by have := Int.emod_lt_of_pos n (show 0 < p - 1 by omega); omega)
  unfold F_power C_power
  rw [defF_ap]
  simp [G.chk, le_int, lt_int, h1, h2, sub_int, mo, e]
theorem Gp.is_right (G : Gp p q g) {y f a t : Int} (hy : Mb p q y) (hf : 1 ≤ f) (hf2 : f < p) (ha : Ky q a) (ht : Ky q t) : F_is_right [Gr p q g, I y, .val (.tup [.int f, .int a, .int t])] ta = some (.ok (.val (.bl (decide (g ^ t.toNat % p = f * (y ^ a.toNat % p) % p)))), ta) := by
  have sf : Sm f := ⟨by omega, by have := G.p2; omega⟩
  unfold F_is_right C_is_right
  rw [defF_ap]
  simp [G.chm hy, le_int, lt_int, hf, hf2, ha.1, ha.2, ht.1, ht.2, G.pw _ _ (ha.lt G), G.pw _ _ (ht.lt G), mul_sm, sf, G.smp, G.mp, eq_int]
theorem Gp.made_row (G : Gp p q g) {y a t : Int} (hy : Mb p q y) (ha : Ky q a) (ht : Ky q t) : F_made_row [Gr p q g, I y, I a, I t] ta = some (.ok (.val (.tup [.int ((g ^ t.toNat % p) * (y ^ (q - a).toNat % p) % p), .int a, .int t])), ta) := by
  have := G.q2
  have e := G.pw (ta := ta) y (q - a) (by have := ha.1; omega)
  unfold F_made_row C_made_row
  rw [defF_ap]
  simp [G.chm hy, G.chk_key ha, G.chk_key ht, sub_int, e, G.pw _ _ (ht.lt G), mul_sm, G.smp, G.mp]
end
end MP.K57

namespace MP
open PySem
theorem rgL_range' (lo : Int) (n : Nat) : rgL lo n = (List.range' 0 n).map fun i => D.int (lo + (i : Nat)) := by
  unfold rgL; rw [List.range_eq_range']
theorem small62_of {i : Int} (h : 0 ≤ i) (h2 : i < 1000000) : small62 i = true := by unfold small62; simp; omega
theorem rg1_ok {j : Int} (h : 0 ≤ j) (h2 : j < 1000000) : rg1S [.val (.int j)] = some ((List.range' 0 j.toNat).map fun i => D.int (i : Nat)) := by
  unfold rg1S
  dsimp only
  rw [if_pos (small62_of h h2), rgL_range']
  simp
end MP
namespace MP.K57
open PySem
section
variable {p q g : Int} {ta : TapeO}
theorem pw_mul (g p : Int) (i j : Nat) : (g ^ i % p) * (g ^ j % p) % p = g ^ (i + j) % p := by rw [← Int.mul_emod, ← Int.pow_add]
theorem pw_pow (g p : Int) (i j : Nat) : (g ^ i % p) ^ j % p = g ^ (i * j) % p := by rw [pow_emod, ← Int.pow_mul]
theorem Gp.pp (G : Gp p q g) : 0 < p := by have := G.p1; omega
theorem Gp.mb_of (G : Gp p q g) {z : Int} (h : z ^ q.toNat % p = 1) : Mb p q (z % p) := by
  have hp := G.pp
  have e : (z % p) ^ q.toNat % p = 1 := by rw [pow_emod]; exact h
  refine ⟨?_, Int.emod_lt_of_pos _ hp, e⟩
  have h0 := Int.emod_nonneg z (show p ≠ 0 by omega)
  rcases Int.lt_or_eq_of_le h0 with k | k
  · omega
  · rw [← k] at e
    obtain ⟨m, hm⟩ : ∃ m, q.toNat = m + 1 := ⟨q.toNat - 1, by have := G.q1; omega⟩
    rw [hm, Int.pow_succ, Int.mul_zero] at e
    simp at e
theorem Gp.gqn (G : Gp p q g) (n : Nat) : g ^ (q.toNat * n) % p = 1 := by
  rw [← pw_pow, G.gq]
  have := G.p1
  have e : (1 : Int) ^ n = 1 := Int.one_pow
  rw [e]; exact Int.emod_eq_of_lt (by decide) (by omega)
theorem Gp.mb (G : Gp p q g) (i : Nat) : Mb p q (g ^ i % p) := G.mb_of (by rw [← Int.pow_mul, Nat.mul_comm]; exact G.gqn i)
theorem Gp.mb1 (G : Gp p q g) : Mb p q 1 := by
  have := G.mb 0
  rw [Int.pow_zero, Int.emod_eq_of_lt (by decide) (by have := G.p1; omega)] at this
  exact this
theorem Gp.mbg (G : Gp p q g) : Mb p q g := by
  have := G.mb 1
  rwa [Int.pow_one, Int.emod_eq_of_lt (by have := G.g1; omega) G.g2] at this
/-- exponents count by q -/
theorem Gp.per (G : Gp p q g) (i m : Nat) : g ^ (i + q.toNat * m) % p = g ^ i % p := by
  rw [Int.pow_add, Int.mul_emod, G.gqn, Int.mul_one, Int.emod_emod_of_dvd _ (Int.dvd_refl p)]
theorem Gp.red (G : Gp p q g) (i : Nat) : g ^ (i % q.toNat) % p = g ^ i % p := by
  conv => rhs; rw [← Nat.mod_add_div i q.toNat]
  rw [G.per]
theorem Gp.qn (G : Gp p q g) : 0 < q.toNat := by have := G.q1; omega
theorem Gp.eq_iff (G : Gp p q g) (i j : Nat) : g ^ i % p = g ^ j % p ↔ i % q.toNat = j % q.toNat := by
  constructor
  · intro h
    rw [← G.red i, ← G.red j] at h
    exact G.inj _ (Nat.mod_lt _ G.qn) _ (Nat.mod_lt _ G.qn) h
  · intro h
    rw [← G.red i, ← G.red j, h]
theorem Gp.mem_loop (G : Gp p q g) : ∀ (m j : Nat) (z : Sl) (l : List D), j + m = q.toNat → l.length = j →
    ∃ x z', forL (.one 3) (seqC (appC 1 (varE 2))
      (asgC 2 (binE modS (binE mulS (varE 2) (binE ixS (varE 0) (cstE (.int 2)))) (binE ixS (varE 0) (cstE (.int 0)))))) ((List.range' j m).map fun i => D.int (i : Nat)) [Gr p q g, .own l, I (g ^ j % p), z] ta =
      some (.nx, [Gr p q g, .own (l ++ (List.range' j m).map fun i => D.int (g ^ i % p)), x, z'], ta)
  | 0, j, z, l, h, hl => ⟨I (g ^ j % p), z, by simp⟩
  | m + 1, j, z, l, h, hl => by
    obtain ⟨x, z', e⟩ := G.mem_loop m (j + 1) (I j) (l ++ [D.int (g ^ j % p)]) (by omega) (by simp [hl])
    refine ⟨x, z', ?_⟩
    rw [List.range'_succ, List.map_cons, forL_cons]
    have hs : (g ^ j % p * g) % p = g ^ (j + 1) % p := by
      rw [Int.pow_succ, Int.mul_emod, Int.emod_emod_of_dvd _ (Int.dvd_refl p), ← Int.mul_emod]
    have hlim : j < LIM := by
      have := G.q2; have := G.q1
      have hL : LIM = 16777216 := rfl
      omega
    simp [hl, hlim, mul_sm, G.smp, G.mbg.sm G, G.mp, hs]
    simp at e
    exact e
def mems (p q g : Int) : List Int := (List.range' 0 q.toNat).map fun i => g ^ i % p
theorem Gp.members (G : Gp p q g) : F_members [Gr p q g] ta = some (.ok (.val (.tup ((sortI (mems p q g)).map D.int))), ta) := by
  obtain ⟨x, z', e⟩ := G.mem_loop (ta := ta) q.toNat 0 .un [] (by omega) rfl
  have p1 := G.p1
  rw [Int.pow_zero, Int.emod_eq_of_lt (show (0 : Int) ≤ 1 by decide) (by omega : (1 : Int) < p)] at e
  have em : ((List.range' 0 q.toNat).map fun i => D.int (g ^ i % p)) = (mems p q g).map D.int := by unfold mems; rw [List.map_map]; rfl
  rw [List.nil_append, em] at e
  unfold F_members C_members
  rw [defF_ap]
  simp [G.chk, rg1_ok (show 0 ≤ q by have := G.q1; omega) (show q < 1000000 by have := G.q2; omega), e, sortedS, onInts, ints?_map, tupleS]
end
end MP.K57

namespace MP
open PySem
section
variable {a b c d a' b' c' d' : Int}
theorem ne_tup2 : neS (.val (.tup [.int a, .int b])) (.val (.tup [.int a', .int b'])) = some (.val (.bl (!decide (a = a' ∧ b = b')))) := by
  unfold neS eqC
  simp [D.py, pys, SeqAt.shaped, PyData.canLay0, PyData.canLayAll0, PyData.depth, PyData.depthAll, PyData.eqv, PyData.eqvAll]
  by_cases h : a = a' <;> by_cases k : b = b' <;> simp [h, k]
theorem ne_tup3 : neS (.val (.tup [.int a, .int b, .int c])) (.val (.tup [.int a', .int b', .int c'])) = some (.val (.bl (!decide (a = a' ∧ b = b' ∧ c = c')))) := by
  unfold neS eqC
  simp [D.py, pys, SeqAt.shaped, PyData.canLay0, PyData.canLayAll0, PyData.depth, PyData.depthAll, PyData.eqv, PyData.eqvAll]
  by_cases h : a = a' <;> by_cases k : b = b' <;> by_cases l : c = c' <;> simp [h, k, l]
theorem canLay_ints : ∀ l : List Int, PyData.canLayAll0 (pys (l.map D.int)) = true
  | [] => rfl
  | n :: l => by simp [pys, D.py, PyData.canLayAll0, PyData.canLay0, canLay_ints l]
theorem depth_ints : ∀ l : List Int, PyData.depthAll (pys (l.map D.int)) = 0
  | [] => rfl
  | n :: l => by simp [pys, D.py, PyData.depthAll, PyData.depth, depth_ints l]
theorem eqv_ints : ∀ l m : List Int, PyData.eqvAll (pys (l.map D.int)) (pys (m.map D.int)) = decide (l = m)
  | [], [] => by simp [pys, PyData.eqvAll]
  | n :: l, [] => by simp [pys, PyData.eqvAll]
  | [], n :: l => by simp [pys, PyData.eqvAll]
  | n :: l, k :: m => by
    simp only [List.map_cons, pys, PyData.eqvAll, D.py, PyData.eqv, eqv_ints l m]
    by_cases h : n = k <;> by_cases h2 : l = m <;> simp [h, h2]
theorem ne_tupI (l m : List Int) : neS (.val (.tup (l.map D.int))) (.val (.tup (m.map D.int))) = some (.val (.bl (!decide (l = m)))) := by
  unfold neS eqC
  simp [D.py, SeqAt.shaped, PyData.canLay0, PyData.depth, canLay_ints, depth_ints, PyData.eqv, eqv_ints]
theorem ne_ownI (l m : List Int) : neS (.own (l.map D.int)) (.own (m.map D.int)) = some (.val (.bl (!decide (l = m)))) := by
  unfold neS eqC
  simp [D.py, SeqAt.shaped, PyData.canLay0, PyData.depth, canLay_ints, depth_ints, PyData.eqv, eqv_ints]
theorem ne_bl (x y : Bool) : neS (.val (.bl x)) (.val (.bl y)) = some (.val (.bl (!decide (x = y)))) := by
  unfold neS eqC
  simp [D.py, SeqAt.shaped, PyData.canLay0, PyData.depth, PyData.eqv]
  cases x <;> cases y <;> rfl
theorem ne_non : neS (.val .non) (.val .non) = some (.val (.bl false)) := by
  unfold neS eqC
  simp [D.py, SeqAt.shaped, PyData.canLay0, PyData.depth, PyData.eqv]
end
theorem sort_perm {l m : List Int} (h : l.Perm m) : sortI l = sortI m :=
  sorted_uniq ((sortI_perm l).trans (h.trans (sortI_perm m).symm)) (sortI_sorted l) (sortI_sorted m)
end MP
namespace MP.K57
open PySem
def E (p g : Int) (i : Nat) : Int := g ^ i % p
structure Good (p : Int) (Q : Nat) (g : Int) : Prop where
  G : Gp p Q g
  B : ∀ t, 1 ≤ t → t < Q → Gp p Q (g ^ t % p)
  perm : ∀ t, 1 ≤ t → t < Q → (mems p Q (g ^ t % p)).Perm (mems p Q g)
  dom : ∀ i c : Nat, i < Q → c < Q → i * c % Q = 0 → i = 0 ∨ c = 0
  fer : ∀ r : Nat, 1 ≤ r → r < Q → r ^ (Q - 1) % Q = 1
section
/-! E, in groups of one p and one q: h the base's element, E p g s -/
variable {p : Int} {Q : Nat} {g h : Int} {s : Nat} {ta : TapeO}
theorem E_def (i : Nat) : g ^ i % p = E p g i := rfl
theorem E_mul (i j : Nat) : (E p g i) * (E p g j) % p = E p g (i + j) := pw_mul g p i j
theorem E_pow (i j : Nat) : (E p g i) ^ j % p = E p g (i * j) := pw_pow g p i j
theorem E_E (i j : Nat) : E p (E p g i) j = E p g (i * j) := pw_pow g p i j
theorem E_0 (G : Gp p Q g) : E p g 0 = 1 := by
  unfold E; rw [Int.pow_zero]; exact Int.emod_eq_of_lt (by decide) (by have := G.p1; omega)
theorem E_1 (G : Gp p Q g) : E p g 1 = g := by
  unfold E; rw [Int.pow_one]; exact Int.emod_eq_of_lt (by have := G.g1; omega) G.g2
theorem E_iff (G : Gp p Q g) (i j : Nat) : E p g i = E p g j ↔ i % Q = j % Q := by
  have := G.eq_iff i j
  rw [Int.toNat_natCast] at this
  exact this
theorem E_mod (G : Gp p Q g) (i : Nat) : E p g (i % Q) = E p g i := (E_iff G _ _).mpr (Nat.mod_mod _ _)
theorem E_mb (G : Gp p Q g) (i : Nat) : Mb p Q (E p g i) := G.mb i
theorem ky {k : Nat} (h : k < Q) : Ky (Q : Int) (k : Int) := ⟨by omega, by omega⟩
theorem E_sm (G : Gp p Q g) (i : Nat) : Sm (E p g i) := G.smp _
theorem power_E (G : Gp p Q g) (H : Gp p Q h) (i n : Nat) : F_power [Gr p Q h, I (E p g i), I (n : Int)] ta = some (.ok (.val (.int (E p g (i * n)))), ta) := by
  have m := E_mb G i
  rw [H.power m.1 m.2.1]
  have hp := G.p1
  obtain ⟨P, hP⟩ : ∃ P : Nat, p - 1 = (P : Int) := ⟨(p - 1).toNat, by omega⟩
  have hd : P % Q = 0 := by
    have := G.qp
    rw [hP] at this
    omega
  rw [hP, ← Int.natCast_emod, Int.toNat_natCast, E_pow]
  have : E p g (i * (n % P)) = E p g (i * n) := by
    rw [E_iff G, Nat.mul_mod, Nat.mod_mod_of_dvd n (Nat.dvd_of_mod_eq_zero hd), ← Nat.mul_mod]
  rw [this]
theorem power_neg (G : Gp p Q g) (i n P : Nat) (hP : p - 1 = (P : Int)) : F_power [Gr p Q g, I (E p g i), I (-(n : Int))] ta = some (.ok (.val (.int (E p g (i * (n * (P - 1)))))), ta) := by
  have hp := G.p1
  have e : (-(n : Int)) % (p - 1) = ((n * (P - 1) : Nat) : Int) % (p - 1) := by
    rw [hP]
    have h1 : (n : Int) * ((P : Int)) = ((n * (P - 1) : Nat) : Int) + n := by
      have : P = (P - 1) + 1 := by omega
      conv => lhs; rw [this]
      push_cast
      rw [Int.mul_add, Int.mul_one]
    have h2 : -(n : Int) = ((n * (P - 1) : Nat) : Int) + (P : Int) * (-(n : Int)) := by
      rw [Int.mul_neg, Int.mul_comm]
      omega
    rw [h2, Int.add_mul_emod_self_left]
  have m := E_mb G i
  rw [G.power m.1 m.2.1, e, ← G.power m.1 m.2.1 (ta := ta), power_E G G]
theorem is_right_E (G : Gp p Q g) (H : Gp p Q h) (hs : h = E p g s) {y f a t : Nat} (ha : a < Q) (ht : t < Q) : F_is_right [Gr p Q h, I (E p g y), .val (.tup [.int (E p g f), .int (a : Int), .int (t : Int)])] ta = some (.ok (.val (.bl (decide (s * t % Q = (f + y * a) % Q)))), ta) := by
  have m := E_mb G f
  rw [H.is_right (E_mb G y) m.1 m.2.1 (ky ha) (ky ht), hs]
  simp only [Int.toNat_natCast, E_pow, E_mul, E_iff G]
theorem made_row_E (G : Gp p Q g) {y a t : Nat} (ha : a < Q) (ht : t < Q) : F_made_row [Gr p Q g, I (E p g y), I (a : Int), I (t : Int)] ta = some (.ok (.val (.tup [.int (E p g (t + y * (Q - a))), .int (a : Int), .int (t : Int)])), ta) := by
  rw [G.made_row (E_mb G y) (ky ha) (ky ht)]
  have e : ((Q : Int) - (a : Int)).toNat = Q - a := by omega
  simp only [e, Int.toNat_natCast, E_pow, E_def, E_E, E_mul]
end
end MP.K57

namespace MP.K57
open PySem
/-! ### the ten groups -/
theorem good_of (p : Int) (Q : Nat) (g : Int) (p1 : 3 ≤ p) (p2 : p < 100) (q1 : 2 ≤ Q) (q2 : Q < 64) (qp : (p - 1) % Q = 0) (g1 : 2 ≤ g) (g2 : g < p)
    (ip : ∀ ta, F_is_prime [I p] ta = some (.ok (.val (.bl true)), ta)) (iq : ∀ ta, F_is_prime [I (Q : Int)] ta = some (.ok (.val (.bl true)), ta)) (gq : g ^ Q % p = 1)
    (bs : ∀ t : Fin Q, 1 ≤ t.val → 2 ≤ g ^ t.val % p) (inj : ∀ t : Fin Q, 1 ≤ t.val → ∀ i : Fin Q, ∀ j : Fin Q, (g ^ t.val % p) ^ i.val % p = (g ^ t.val % p) ^ j.val % p → i = j)
    (perm : ∀ t : Fin Q, 1 ≤ t.val → (mems p Q (g ^ t.val % p)).isPerm (mems p Q g) = true)
    (dom : ∀ i c : Fin Q, i.val * c.val % Q = 0 → i.val = 0 ∨ c.val = 0) (fer : ∀ r : Fin Q, 1 ≤ r.val → r.val ^ (Q - 1) % Q = 1) : Good p Q g := by
  have hB : ∀ t, 1 ≤ t → t < Q → Gp p Q (g ^ t % p) := fun t h1 h2 => by
    refine ⟨p1, p2, by omega, by omega, qp, bs ⟨t, h2⟩ h1, Int.emod_lt_of_pos _ (by omega), ip, iq, ?_, fun i hi j hj e => ?_⟩
    · rw [Int.toNat_natCast, pow_emod, ← Int.pow_mul, Nat.mul_comm, Int.pow_mul, ← pow_emod, gq, Int.one_pow]
      exact Int.emod_eq_of_lt (by decide) (by omega)
    · rw [Int.toNat_natCast] at hi hj
      exact Fin.mk.inj (inj ⟨t, h2⟩ h1 ⟨i, hi⟩ ⟨j, hj⟩ e)
  have h1 := hB 1 (by decide) (by omega)
  rw [Int.pow_one, Int.emod_eq_of_lt (by omega) g2] at h1
  exact ⟨h1, hB, fun t a b => List.isPerm_iff.mp (perm ⟨t, b⟩ a), fun i c hi hc e => dom ⟨i, hi⟩ ⟨c, hc⟩ e, fun r a b => fer ⟨r, b⟩ a⟩
theorem good0 : Good 5 (2 : Nat) 4 := good_of 5 2 4 (by decide) (by decide) (by decide) (by decide) (by decide) (by decide) (by decide) (fun ta => by cases ta <;> rfl) (fun ta => by cases ta <;> rfl) (by decide) (by decide +kernel) (by decide +kernel) (by decide +kernel) (by decide +kernel) (by decide +kernel)
theorem good1 : Good 7 (3 : Nat) 2 := good_of 7 3 2 (by decide) (by decide) (by decide) (by decide) (by decide) (by decide) (by decide) (fun ta => by cases ta <;> rfl) (fun ta => by cases ta <;> rfl) (by decide) (by decide +kernel) (by decide +kernel) (by decide +kernel) (by decide +kernel) (by decide +kernel)
theorem good2 : Good 11 (5 : Nat) 3 := good_of 11 5 3 (by decide) (by decide) (by decide) (by decide) (by decide) (by decide) (by decide) (fun ta => by cases ta <;> rfl) (fun ta => by cases ta <;> rfl) (by decide) (by decide +kernel) (by decide +kernel) (by decide +kernel) (by decide +kernel) (by decide +kernel)
theorem good3 : Good 13 (3 : Nat) 3 := good_of 13 3 3 (by decide) (by decide) (by decide) (by decide) (by decide) (by decide) (by decide) (fun ta => by cases ta <;> rfl) (fun ta => by cases ta <;> rfl) (by decide) (by decide +kernel) (by decide +kernel) (by decide +kernel) (by decide +kernel) (by decide +kernel)
theorem good4 : Good 23 (11 : Nat) 2 := good_of 23 11 2 (by decide) (by decide) (by decide) (by decide) (by decide) (by decide) (by decide) (fun ta => by cases ta <;> rfl) (fun ta => by cases ta <;> rfl) (by decide) (by decide +kernel) (by decide +kernel) (by decide +kernel) (by decide +kernel) (by decide +kernel)
theorem good5 : Good 29 (7 : Nat) 7 := good_of 29 7 7 (by decide) (by decide) (by decide) (by decide) (by decide) (by decide) (by decide) (fun ta => by cases ta <;> rfl) (fun ta => by cases ta <;> rfl) (by decide) (by decide +kernel) (by decide +kernel) (by decide +kernel) (by decide +kernel) (by decide +kernel)
theorem good6 : Good 31 (5 : Nat) 2 := good_of 31 5 2 (by decide) (by decide) (by decide) (by decide) (by decide) (by decide) (by decide) (fun ta => by cases ta <;> rfl) (fun ta => by cases ta <;> rfl) (by decide) (by decide +kernel) (by decide +kernel) (by decide +kernel) (by decide +kernel) (by decide +kernel)
theorem good7 : Good 47 (23 : Nat) 2 := good_of 47 23 2 (by decide) (by decide) (by decide) (by decide) (by decide) (by decide) (by decide) (fun ta => by cases ta <;> rfl) (fun ta => by cases ta <;> rfl) (by decide) (by decide +kernel) (by decide +kernel) (by decide +kernel) (by decide +kernel) (by decide +kernel)
theorem good8 : Good 7 (2 : Nat) 6 := good_of 7 2 6 (by decide) (by decide) (by decide) (by decide) (by decide) (by decide) (by decide) (fun ta => by cases ta <;> rfl) (fun ta => by cases ta <;> rfl) (by decide) (by decide +kernel) (by decide +kernel) (by decide +kernel) (by decide +kernel) (by decide +kernel)
theorem good9 : Good 3 (2 : Nat) 2 := good_of 3 2 2 (by decide) (by decide) (by decide) (by decide) (by decide) (by decide) (by decide) (fun ta => by cases ta <;> rfl) (fun ta => by cases ta <;> rfl) (by decide) (by decide +kernel) (by decide +kernel) (by decide +kernel) (by decide +kernel) (by decide +kernel)
theorem begin_is : F__law_begin = beginF := rfl
theorem take_is : F__law_take = takeF := rfl
theorem group_ok {t : Tape} (hT : TOk t) : ∃ p Q g, Good p Q g ∧ F__law_group [.tape] (some t) = some (.ok (Gr p (Q : Nat) g), some (takeT t 10)) := by
  have e := take_eq hT (show (1 : Int) ≤ 10 by decide) (by decide)
  have h0 := take_nn hT (show (1 : Int) ≤ 10 by decide) (by decide)
  have h1 := take_lt hT (show (1 : Int) ≤ 10 by decide) (by decide)
  obtain ⟨d, hd⟩ : ∃ d, takeV t 10 = d := ⟨_, rfl⟩
  rw [hd] at e h0 h1
  unfold F__law_group C__law_group
  rw [defF_ap]
  have : d = 0 ∨ d = 1 ∨ d = 2 ∨ d = 3 ∨ d = 4 ∨ d = 5 ∨ d = 6 ∨ d = 7 ∨ d = 8 ∨ d = 9 := by omega
  rcases this with rfl | rfl | rfl | rfl | rfl | rfl | rfl | rfl | rfl | rfl
  · exact ⟨5, 2, 4, good0, by simp [take_is, e]; rfl⟩
  · exact ⟨7, 3, 2, good1, by simp [take_is, e]; rfl⟩
  · exact ⟨11, 5, 3, good2, by simp [take_is, e]; rfl⟩
  · exact ⟨13, 3, 3, good3, by simp [take_is, e]; rfl⟩
  · exact ⟨23, 11, 2, good4, by simp [take_is, e]; rfl⟩
  · exact ⟨29, 7, 7, good5, by simp [take_is, e]; rfl⟩
  · exact ⟨31, 5, 2, good6, by simp [take_is, e]; rfl⟩
  · exact ⟨47, 23, 2, good7, by simp [take_is, e]; rfl⟩
  · exact ⟨7, 2, 6, good8, by simp [take_is, e]; rfl⟩
  · exact ⟨3, 2, 2, good9, by simp [take_is, e]; rfl⟩
/-! ### key_of, _law_power, the members -/
section
variable {p : Int} {Q : Nat} {g : Int} {ta : TapeO}
theorem lpow_loop (G : Gp p Q g) : ∀ (m j : Nat) (z : Sl) (n : Int), ∃ z', forL (.one 4) (asgC 3 (binE modS (callE intS [(binE mulS (varE 3) (varE 1))]) (varE 0))) ((List.range' j m).map fun i => D.int (i : Nat)) [I p, I g, I n, I (E p g j), z] ta = some (.nx, [I p, I g, I n, I (E p g (j + m)), z'], ta)
  | 0, j, z, n => ⟨z, rfl⟩
  | m + 1, j, z, n => by
    obtain ⟨z', e⟩ := lpow_loop G m (j + 1) (I j) n
    refine ⟨z', ?_⟩
    rw [List.range'_succ, List.map_cons, forL_cons]
    have hs : (E p g j * g) % p = E p g (j + 1) := by
      rw [← E_mul, E_1 G]
    rw [show j + 1 + m = j + (m + 1) by omega] at e
    simp [mul_sm, E_sm G, G.mbg.sm G, G.mp, hs, e]
theorem lpow (G : Gp p Q g) {t : Nat} (ht : t < Q) : F__law_power [I p, I g, I (t : Int)] ta = some (.ok (.val (.int (E p g t))), ta) := by
  obtain ⟨z', e⟩ := lpow_loop G (ta := ta) t 0 .un t
  rw [E_0 G, Nat.zero_add] at e
  have q2 := G.q2
  have hr := rg1_ok (j := (t : Int)) (Int.natCast_nonneg t) (by omega)
  rw [Int.toNat_natCast] at hr
  unfold F__law_power C__law_power
  rw [defF_ap]
  simp [hr, e]
end
end MP.K57

namespace MP.K57
open PySem
/-! ### powers of the base, exponents of any sign -/
def X (p q g z : Int) : Int := g ^ (z % q).toNat % p
section
variable {p q g : Int} {ta : TapeO}
theorem Gp.q0 (G : Gp p q g) : 0 < q := by have := G.q1; omega
theorem X_cong {z w : Int} (h : z % q = w % q) : X p q g z = X p q g w := by unfold X; rw [h]
theorem X_nat (G : Gp p q g) (i : Nat) : X p q g (i : Int) = g ^ i % p := by
  have hq := G.q0
  have h : ((i : Int) % q).toNat = i % q.toNat := by
    have e : ((q.toNat : Nat) : Int) = q := Int.toNat_of_nonneg (by omega)
    conv => lhs; rw [← e]
    rw [← Int.natCast_emod, Int.toNat_natCast]
  unfold X
  rw [h, G.red]
theorem X_rep (G : Gp p q g) (z : Int) : ∃ i : Nat, X p q g z = g ^ i % p ∧ (i : Int) % q = z % q := by
  have hq := G.q0
  refine ⟨(z % q).toNat, rfl, ?_⟩
  rw [Int.toNat_of_nonneg (Int.emod_nonneg z (by omega)), Int.emod_emod_of_dvd _ (Int.dvd_refl q)]
theorem X_add (G : Gp p q g) (z w : Int) : X p q g z * X p q g w % p = X p q g (z + w) := by
  obtain ⟨i, e1, h1⟩ := X_rep G z
  obtain ⟨j, e2, h2⟩ := X_rep G w
  rw [e1, e2, pw_mul, ← X_nat G]
  refine X_cong ?_
  rw [Int.natCast_add, Int.add_emod, h1, h2, ← Int.add_emod]
theorem X_pow (G : Gp p q g) (z : Int) (n : Nat) : X p q g z ^ n % p = X p q g (z * n) := by
  obtain ⟨i, e1, h1⟩ := X_rep G z
  rw [e1, pw_pow, ← X_nat G]
  refine X_cong ?_
  rw [Int.natCast_mul, Int.mul_emod, h1, ← Int.mul_emod]
theorem X_iff (G : Gp p q g) (z w : Int) : X p q g z = X p q g w ↔ z % q = w % q := by
  constructor
  · intro h
    have hq := G.q0
    have a1 := Int.emod_nonneg z (show q ≠ 0 by omega)
    have a2 := Int.emod_nonneg w (show q ≠ 0 by omega)
    have b1 := Int.emod_lt_of_pos z hq
    have b2 := Int.emod_lt_of_pos w hq
    have := G.inj _ (by omega) _ (by omega) h
    omega
  · exact X_cong
theorem X_cg (k : Int) {z w : Int} (h : z = w + q * k) : X p q g z = X p q g w := X_cong (by rw [h, Int.add_mul_emod_self_left])
theorem X_mod (z : Int) : X p q g (z % q) = X p q g z := X_cong (Int.emod_emod_of_dvd _ (Int.dvd_refl q))
theorem X_0 (G : Gp p q g) : X p q g 0 = 1 := by
  have := X_nat G 0
  rw [Int.pow_zero, Int.emod_eq_of_lt (by decide) (by have := G.p1; omega)] at this
  exact this
theorem X_1 (G : Gp p q g) : X p q g 1 = g := by
  have := X_nat G 1
  rw [Int.pow_one, Int.emod_eq_of_lt (by have := G.g1; omega) G.g2] at this
  exact this
theorem X_mb (G : Gp p q g) (z : Int) : Mb p q (X p q g z) := by
  obtain ⟨i, e1, _⟩ := X_rep G z
  rw [e1]; exact G.mb i
theorem X_sm (G : Gp p q g) (z : Int) : Sm (X p q g z) := G.smp _
theorem X_p (G : Gp p q g) (z : Int) : X p q g z % p = X p q g z := Int.emod_emod_of_dvd _ (Int.dvd_refl p)
/-! what the functions tell -/
theorem X_chm (G : Gp p q g) (z : Int) : F_check_member [Gr p q g, I (X p q g z)] ta = some (.ok (.val .non), ta) := G.chm (X_mb G z)
theorem X_chm1 (G : Gp p q g) : F_check_member [Gr p q g, I 1] ta = some (.ok (.val .non), ta) := G.chm G.mb1
theorem X_pw (G : Gp p q g) (z : Int) {n : Int} (h0 : 0 ≤ n) (h : n < 2 ^ 60) : F_power_in [I p, I (X p q g z), I n] ta = some (.ok (.val (.int (X p q g (z * n)))), ta) := by
  rw [G.pw _ _ h, X_pow G, Int.toNat_of_nonneg h0]
theorem X_pwg (G : Gp p q g) {n : Int} (h0 : 0 ≤ n) (h : n < 2 ^ 60) : F_power_in [I p, I g, I n] ta = some (.ok (.val (.int (X p q g n))), ta) := by
  have := X_pw G 1 h0 h (ta := ta)
  rw [X_1 G, Int.one_mul] at this
  exact this
theorem X_power (G : Gp p q g) (z n : Int) : F_power [Gr p q g, I (X p q g z), I n] ta = some (.ok (.val (.int (X p q g (z * n)))), ta) := by
  have m := X_mb G z
  have hp := G.p1
  rw [G.power m.1 m.2.1, X_pow G, Int.toNat_of_nonneg (Int.emod_nonneg _ (by omega))]
  obtain ⟨k, hk⟩ : ∃ k, p - 1 = q * k := ⟨(p - 1) / q, by have := G.qp; have := Int.mul_ediv_add_emod (p - 1) q; omega⟩
  have : X p q g (z * (n % (p - 1))) = X p q g (z * n) := by
    refine X_cg (-(z * k * (n / (p - 1)))) ?_
    have := Int.mul_ediv_add_emod n (p - 1)
    have h2 : n % (p - 1) = n - (q * k) * (n / (p - 1)) := by rw [← hk]; omega
    rw [h2]
    generalize n / (p - 1) = m at *
    grind
  rw [this]
theorem X_powerg (G : Gp p q g) (n : Int) : F_power [Gr p q g, I g, I n] ta = some (.ok (.val (.int (X p q g n))), ta) := by
  have := X_power G 1 n (ta := ta)
  rw [X_1 G, Int.one_mul] at this
  exact this
theorem X_public (G : Gp p q g) {k : Int} (hk : Ky q k) : F_public_of [Gr p q g, I k] ta = some (.ok (.val (.int (X p q g k))), ta) := by
  unfold F_public_of C_public_of
  rw [defF_ap]
  simp [G.chk_key hk, X_pwg G hk.1 (hk.lt G)]
/-! the oracle -/
theorem smI {i : Int} (h : 0 ≤ i) (h2 : i < 2 ^ 40) : Sm i := ⟨by omega, by omega⟩
def ask (Os : List Int) (f m : Int) : Int := Os.getD ((f * 13 + m * 29) % Os.length).toNat 0
structure Orc (q : Int) (Os : List Int) : Prop where
  l1 : 1 ≤ Os.length
  l2 : Os.length ≤ 200
  ky : ∀ o ∈ Os, Ky q o
abbrev oT (Os : List Int) : Sl := .val (.tup (Os.map D.int))
theorem Orc.get {Os : List Int} (O : Orc q Os) (f m : Int) : ixS (oT Os) (I ((f * 13 + m * 29) % Os.length)) = some (I (ask Os f m)) ∧ Ky q (ask Os f m) := by
  have hl := O.l1
  have h0 := Int.emod_nonneg (f * 13 + m * 29) (show (Os.length : Int) ≠ 0 by omega)
  have h1 := Int.emod_lt_of_pos (f * 13 + m * 29) (show (0 : Int) < Os.length by omega)
  have hlt : ((f * 13 + m * 29) % Os.length).toNat < Os.length := by omega
  unfold ask
  rw [List.getD_eq_getElem?_getD, List.getElem?_eq_getElem hlt]
  exact ⟨ix_at rfl h0 (by rw [List.getElem?_map, List.getElem?_eq_getElem hlt]; rfl), O.ky _ (List.getElem_mem hlt)⟩
theorem Orc.ask_ky {Os : List Int} (O : Orc q Os) (f m : Int) : Ky q (ask Os f m) := (O.get f m).2
theorem key_comp (q g : Int) (z : Sl) (ta : TapeO) : ∀ l : List Int, (∀ k ∈ l, Ky q k) → compL (.one 2) yesT (chainE leS ltS (cstE (.int 0)) (varE 2) (binE ixS (varE 0) (cstE (.int 1)))) (l.map D.int) [Gr p q g, z, .un] ta = some ((l.map fun _ => true).map D.bl, ta)
  | [], _ => rfl
  | k :: l, h => by
    have hk := h k List.mem_cons_self
    have ih := key_comp q g z ta l fun x hx => h x (List.mem_cons_of_mem _ hx)
    rw [List.map_cons, compL_cons]
    simp [le_int, lt_int, hk.1, hk.2] at ih ⊢
    exact ih
theorem all_true (l : List Int) : (l.map fun _ => true).all id = true := by simp
theorem X_oracle (G : Gp p q g) {Os : List Int} (O : Orc q Os) : F_check_oracle [Gr p q g, oT Os] ta = some (.ok (.val .non), ta) := by
  have h1 : (1 : Int) ≤ Os.length := by have := O.l1; omega
  have h2 : (Os.length : Int) ≤ 200 := by have := O.l2; omega
  have hL : Os.length < LIM := by have : LIM = 16777216 := rfl; have := O.l2; omega
  have kc := key_comp (p := p) q g (oT Os) ta Os O.ky
  have aw := all_own (Os.map fun _ => true)
  rw [all_true] at aw
  obtain ⟨bs, hbs⟩ : ∃ bs, (Os.map fun _ => true).map D.bl = bs := ⟨_, rfl⟩
  rw [hbs] at kc aw
  unfold F_check_oracle C_check_oracle
  rw [defF_ap]
  simp only [oT] at kc
  simp [G.chk, lenS, le_int, h1, h2, hL, kc, aw]
theorem X_message {m : Int} (hm : 0 ≤ m) : F_check_message [I m] ta = some (.ok (.val .non), ta) := by
  have h : ¬ m < 0 := by omega
  unfold F_check_message C_check_message
  rw [defF_ap]
  simp [lt_int, h]
theorem X_asked (G : Gp p q g) {Os : List Int} (O : Orc q Os) (z : Int) {m : Int} (hm : 0 ≤ m) (hm2 : m < 100000) : F_asked_of [Gr p q g, oT Os, I (X p q g z), I m] ta = some (.ok (I (ask Os (X p q g z) m)), ta) := by
  have e := (O.get (X p q g z) m).1
  have sx := X_sm G z
  have hl : (0 : Int) < Os.length := by have := O.l1; omega
  have mo := fun i => @mod_int i (Os.length : Int) hl
  unfold F_asked_of C_asked_of
  rw [defF_ap]
  simp only [I, oT] at e
  simp [X_oracle G O, X_message hm, mul_sm, sx, smI hm (by omega), smI (show (0 : Int) ≤ 13 by decide) (by decide), smI (show (0 : Int) ≤ 29 by decide) (by decide), add_int, lenS, mo, e]
theorem X_sign (G : Gp p q g) {Os : List Int} (O : Orc q Os) {m x d : Int} (hm : 0 ≤ m) (hm2 : m < 100000) (hx : Ky q x) (hd : Ky q d) : F_sign [Gr p q g, oT Os, I x, I m, I d] ta =
    some (.ok (.val (.tup [.int (ask Os (X p q g d) m), .int ((d + ask Os (X p q g d) m * x) % q)])), ta) := by
  have ak := O.ask_ky (X p q g d) m
  unfold F_sign C_sign
  rw [defF_ap]
  simp [X_oracle G O, G.chk_key hx, X_message hm, G.chk_key hd, X_pwg G hd.1 (hd.lt G), X_asked G O d hm hm2, mul_sm, ak.sm G, hx.sm G, add_int, G.mq]
theorem ky_sub (G : Gp p q g) {a : Int} (h : Ky q a) : 0 ≤ q - a ∧ q - a < 2 ^ 60 := by have := h.1; have := h.2; have := G.q2; constructor <;> omega
theorem X_first (G : Gp p q g) (t y a : Int) : X p q g (t + y * (q - a)) = X p q g (t - y * a) := X_cg y (by grind)
theorem X_is_signed (G : Gp p q g) {Os : List Int} (O : Orc q Os) (y : Int) {m a t : Int} (hm : 0 ≤ m) (hm2 : m < 100000) (ha : Ky q a) (ht : Ky q t) : F_is_signed [Gr p q g, oT Os, I (X p q g y), I m, .val (.tup [.int a, .int t])] ta =
    some (.ok (.val (.bl (decide (ask Os (X p q g (t - y * a)) m = a)))), ta) := by
  have ks := ky_sub G ha
  have pw := X_pw G y ks.1 ks.2 (ta := ta)
  unfold F_is_signed C_is_signed
  rw [defF_ap]
  simp [X_oracle G O, X_chm G, X_message hm, le_int, lt_int, ha.1, ha.2, ht.1, ht.2, X_pwg G ht.1 (ht.lt G), sub_int, pw, mul_sm, X_sm G, G.mp, X_add G, X_first G, X_asked G O _ hm hm2, eq_int]
theorem X_part (G : Gp p q g) (y f : Int) {a t : Int} (ha : Ky q a) (ht : Ky q t) : F_part_is_right [Gr p q g, I (X p q g y), I (X p q g f), I a, I t] ta = some (.ok (.val (.bl (decide (X p q g t = X p q g (f + y * a))))), ta) := by
  have pw := X_pw G y ha.1 (ha.lt G) (ta := ta)
  unfold F_part_is_right C_part_is_right
  rw [defF_ap]
  simp [X_chm G, G.chk_key ha, G.chk_key ht, X_pwg G ht.1 (ht.lt G), pw, mul_sm, X_sm G, G.mp, X_add G, eq_int]
theorem X_right (G : Gp p q g) (y f : Int) {a t : Int} (ha : Ky q a) (ht : Ky q t) : F_is_right [Gr p q g, I (X p q g y), .val (.tup [.int (X p q g f), .int a, .int t])] ta = some (.ok (.val (.bl (decide (X p q g t = X p q g (f + y * a))))), ta) := by
  have m := X_mb G f
  have e := G.is_right (X_mb G y) m.1 m.2.1 ha ht (ta := ta)
  rw [X_pow G, Int.toNat_of_nonneg ha.1, X_add G, show g ^ t.toNat % p = X p q g t by rw [← X_nat G, Int.toNat_of_nonneg ht.1]] at e
  exact e
theorem X_made (G : Gp p q g) (y : Int) {a t : Int} (ha : Ky q a) (ht : Ky q t) : F_made_row [Gr p q g, I (X p q g y), I a, I t] ta = some (.ok (.val (.tup [.int (X p q g (t - y * a)), .int a, .int t])), ta) := by
  have e := G.made_row (X_mb G y) ha ht (ta := ta)
  have ks := ky_sub G ha
  rw [X_pow G, Int.toNat_of_nonneg ks.1, show g ^ t.toNat % p = X p q g t by rw [← X_nat G, Int.toNat_of_nonneg ht.1], X_add G, X_first G] at e
  exact e
/-! inverses up to q -/
def iv (q r : Int) : Int := r ^ (q - 2).toNat % q
structure Pr (q : Int) : Prop where
  inv : ∀ r : Int, r % q ≠ 0 → (r * iv q r) % q = 1
  dom : ∀ i c : Int, i * c % q = 0 → i % q = 0 ∨ c % q = 0
theorem pr_of {Q : Nat} (K : Good p Q g) : Pr (Q : Int) := by
  have q1 := K.G.q1
  have key : ∀ z : Int, ∃ n : Nat, n < Q ∧ (n : Int) = z % (Q : Int) := fun z =>
    ⟨(z % (Q : Int)).toNat, by have := Int.emod_lt_of_pos z (show (0 : Int) < Q by omega); have := Int.emod_nonneg z (show (Q : Int) ≠ 0 by omega); omega, Int.toNat_of_nonneg (Int.emod_nonneg z (by omega))⟩
  refine ⟨fun r hr => ?_, fun i c h => ?_⟩
  · obtain ⟨n, hn, e⟩ := key r
    have hn1 : 1 ≤ n := by
      rcases Nat.eq_zero_or_pos n with z | z
      · subst z; exact absurd e.symm hr
      · exact z
    have f := K.fer n hn1 hn
    have e2 : ((Q : Int) - 2).toNat = Q - 2 := by omega
    unfold iv
    have f' : ((n : Int) ^ (Q - 1)) % Q = 1 := by
      have : (((n ^ (Q - 1) % Q : Nat)) : Int) = 1 := by rw [f]; rfl
      push_cast at this
      exact this
    have h3 : (n : Int) * ((n : Int) ^ (Q - 2)) = (n : Int) ^ (Q - 1) := by
      rw [Int.mul_comm, ← Int.pow_succ]
      congr 1
      omega
    rw [e2, ← pow_emod r, ← e, Int.mul_emod, ← e, Int.emod_emod_of_dvd _ (Int.dvd_refl _), ← f', ← h3]
    conv => rhs; rw [Int.mul_emod]
    rw [show (n : Int) % Q = n from Int.emod_eq_of_lt (by omega) (by omega)]
  · obtain ⟨n, hn, e⟩ := key i
    obtain ⟨k, hk, e2⟩ := key c
    rw [Int.mul_emod, ← e, ← e2] at h
    rw [← e, ← e2]
    have h3 : n * k % Q = 0 := by
      have : ((n * k % Q : Nat) : Int) = 0 := by push_cast; exact h
      omega
    rcases K.dom n k hn hk h3 with z | z
    · left; rw [z]; rfl
    · right; rw [z]; rfl
end
end MP.K57

namespace MP.K57
open PySem
section
variable {p q g : Int} {ta : TapeO}
theorem mod_ky (G : Gp p q g) (z : Int) : Ky q (z % q) := ⟨Int.emod_nonneg _ (by have := G.q0; omega), Int.emod_lt_of_pos _ G.q0⟩
theorem divm (q z : Int) : ∃ k, z = z % q + q * k := ⟨z / q, by have := Int.mul_ediv_add_emod z q; omega⟩
theorem key_fin (P : Pr q) {a b d x : Int} (hx : Ky q x) (hr : (a - b) % q ≠ 0) : ((d + a * x) % q - (d + b * x) % q) * iv q ((a - b) % q) % q = x := by
  have hi := P.inv ((a - b) % q) (by rw [Int.emod_emod_of_dvd _ (Int.dvd_refl q)]; exact hr)
  obtain ⟨k1, h1⟩ := divm q (d + a * x)
  obtain ⟨k2, h2⟩ := divm q (d + b * x)
  obtain ⟨k3, h3⟩ := divm q (a - b)
  obtain ⟨k4, h4⟩ := divm q ((a - b) % q * iv q ((a - b) % q))
  rw [hi] at h4
  generalize iv q ((a - b) % q) = v at *
  generalize (a - b) % q = r at *
  generalize (d + a * x) % q = t1 at *
  generalize (d + b * x) % q = t2 at *
  have : (t1 - t2) * v = x + q * (k4 * x + v * (k3 * x - k1 + k2)) := by grind
  rw [this, Int.add_mul_emod_self_left, Int.emod_eq_of_lt hx.1 hx.2]
theorem near0 (G : Gp p q g) {a b : Int} (ha : Ky q a) (hb : Ky q b) (h : (a - b) % q = 0) : a = b := by
  have h2 : a % q = b % q := by
    have : a = b + (a - b) := by omega
    rw [this, Int.add_emod, h, Int.add_zero, Int.emod_emod_of_dvd _ (Int.dvd_refl q)]
  rw [Int.emod_eq_of_lt ha.1 ha.2, Int.emod_eq_of_lt hb.1 hb.2] at h2
  exact h2
theorem X_key_from (G : Gp p q g) (P : Pr q) {Os : List Int} (O : Orc q Os) {a b d x : Int} (ha : Ky q a) (hb : Ky q b) (hx : Ky q x) :
    F_key_from [Gr p q g, oT Os, .val (.tup [.int a, .int ((d + a * x) % q)]), .val (.tup [.int b, .int ((d + b * x) % q)])] ta = some (.ok (.val (if a = b then .non else .int x)), ta) := by
  have q1 := G.q1
  have q2 := G.q2
  have t1 := mod_ky G (d + a * x)
  have t2 := mod_ky G (d + b * x)
  have pw := power_in_ok (p := q) (by omega) (by omega) ((a - b) % q) (q - 2) (by omega) ta
  have sm1 : Sm ((d + a * x) % q - (d + b * x) % q) := ⟨by have := t1.1; have := t2.2; omega, by have := t1.2; have := t2.1; omega⟩
  have sm2 : Sm (((a - b) % q) ^ (q - 2).toNat % q) := G.smq _
  unfold F_key_from C_key_from
  rw [defF_ap]
  by_cases h : a = b
  · subst h
    simp [X_oracle G O, forL_cons, le_int, lt_int, ha.1, ha.2, t1.1, t1.2, eq_int]
  · have fin := key_fin P (d := d) hx (fun e => h (near0 G ha hb e))
    unfold iv at fin
    simp only [I] at pw
    rw [if_neg h]
    simp [X_oracle G O, forL_cons, le_int, lt_int, ha.1, ha.2, hb.1, hb.2, t1.1, t1.2, t2.1, t2.2, eq_int, h, sub_int, G.mq, pw, mul_sm, sm1, sm2, fin]
/-! hands together -/
theorem chk_loop (G : Gp p q g) (j : Nat) (hj : j ≠ 0) (ta : TapeO) : ∀ (l : List Int), l ≠ [] → (∀ k ∈ l, Ky q k) → ∀ (env : SE), env[0]? = some (Gr p q g) → j < env.length →
    forL (.one j) (dropC (callF F_check_key [(varE 0), (varE j)])) (l.map D.int) env ta = some (.nx, env.set j (I (l.getLastD 0)), ta)
  | [], h, _, _, _, _ => absurd rfl h
  | [k], _, h, env, h0, hl => by
    have e := G.chk_key (h k List.mem_cons_self) (ta := ta)
    have g0 : (env.set j (.val (.int k)))[0]? = some (Gr p q g) := by rw [List.getElem?_set_ne (by omega)]; exact h0
    have gj : (env.set j (.val (.int k)))[j]? = some (.val (.int k)) := List.getElem?_set_self hl
    rw [List.map_cons, forL_cons]
    simp [g0, gj, e]
  | k :: k2 :: l, _, h, env, h0, hl => by
    have ih := chk_loop G j hj ta (k2 :: l) (by simp) (fun x hx => h x (List.mem_cons_of_mem _ hx)) (env.set j (.val (.int k))) (by rw [List.getElem?_set_ne (by omega)]; exact h0) (by simpa using hl)
    have e := G.chk_key (h k List.mem_cons_self) (ta := ta)
    have g0 : (env.set j (.val (.int k)))[0]? = some (Gr p q g) := by rw [List.getElem?_set_ne (by omega)]; exact h0
    have gj : (env.set j (.val (.int k)))[j]? = some (.val (.int k)) := List.getElem?_set_self hl
    rw [List.map_cons, forL_cons]
    rw [List.set_set] at ih
    simp [g0, gj, e]
    simpa using ih
theorem firsts_comp (G : Gp p q g) (ta : TapeO) : ∀ (l : List Int), (∀ k ∈ l, Ky q k) → ∀ (env : SE), env[7]? = some (I p) → env[9]? = some (I g) → env.length = 15 →
    compL (.one 6) yesT (callF F_power_in [(varE 7), (varE 9), (varE 6)]) (l.map D.int) env ta = some ((l.map (X p q g)).map D.int, ta)
  | [], _, _, _, _, _ => rfl
  | k :: l, h, env, h7, h9, hl => by
    have hk := h k List.mem_cons_self
    have ih := firsts_comp G ta l (fun x hx => h x (List.mem_cons_of_mem _ hx)) env h7 h9 hl
    have g7 : (env.set 6 (.val (.int k)))[7]? = some (I p) := by rw [List.getElem?_set_ne (by decide)]; exact h7
    have g9 : (env.set 6 (.val (.int k)))[9]? = some (I g) := by rw [List.getElem?_set_ne (by decide)]; exact h9
    have g6 : (env.set 6 (.val (.int k)))[6]? = some (.val (.int k)) := List.getElem?_set_self (by omega)
    have pw := X_pwg G hk.1 (hk.lt G) (ta := ta)
    simp only [I] at g7 g9 pw
    rw [List.map_cons, compL_cons]
    simp at ih
    simp [g7, g9, g6, pw, ih]
theorem mul_loop (G : Gp p q g) (ta : TapeO) : ∀ (l : List Int), l ≠ [] → ∀ (a : Int) (env : SE), env[7]? = some (I p) → env[11]? = some (I (X p q g a)) → env.length = 15 →
    forL (.one 12) (asgC 11 (binE modS (binE mulS (varE 11) (varE 12)) (varE 7))) ((l.map (X p q g)).map D.int) env ta = some (.nx, (env.set 12 (I (X p q g (l.getLastD 0)))).set 11 (I (X p q g (a + l.sum))), ta)
  | [], h, _, _, _, _, _ => absurd rfl h
  | [k], _, a, env, h7, h11, hl => by
    have g7 : (env.set 12 (.val (.int (X p q g k))))[7]? = some (I p) := by rw [List.getElem?_set_ne (by decide)]; exact h7
    have g11 : (env.set 12 (.val (.int (X p q g k))))[11]? = some (I (X p q g a)) := by rw [List.getElem?_set_ne (by decide)]; exact h11
    have g12 : (env.set 12 (.val (.int (X p q g k))))[12]? = some (.val (.int (X p q g k))) := List.getElem?_set_self (by omega)
    have mp := fun z => G.mp z
    simp only [I] at g7 g11 mp
    rw [List.map_cons, List.map_cons, forL_cons]
    simp [g7, g11, g12, mul_sm, X_sm G, mp, X_add G]
  | k :: k2 :: l, _, a, env, h7, h11, hl => by
    have g7 : (env.set 12 (.val (.int (X p q g k))))[7]? = some (I p) := by rw [List.getElem?_set_ne (by decide)]; exact h7
    have g11 : (env.set 12 (.val (.int (X p q g k))))[11]? = some (I (X p q g a)) := by rw [List.getElem?_set_ne (by decide)]; exact h11
    have g12 : (env.set 12 (.val (.int (X p q g k))))[12]? = some (.val (.int (X p q g k))) := List.getElem?_set_self (by omega)
    have mp := fun z => G.mp z
    have ih := mul_loop G ta (k2 :: l) (by simp) (a + k) ((env.set 12 (.val (.int (X p q g k)))).set 11 (.val (.int (X p q g (a + k))))) (by rw [List.getElem?_set_ne (by decide)]; exact g7) (List.getElem?_set_self (by simp; omega)) (by simpa using hl)
    have e2 : (((env.set 12 (.val (.int (X p q g k)))).set 11 (.val (.int (X p q g (a + k))))).set 12 (I (X p q g ((k2 :: l).getLastD 0)))).set 11 (I (X p q g (a + k + (k2 :: l).sum))) =
        (env.set 12 (I (X p q g ((k :: k2 :: l).getLastD 0)))).set 11 (I (X p q g (a + (k :: k2 :: l).sum))) := by
      rw [List.set_comm (i := 11) (j := 12) _ _ (by decide), List.set_set, List.set_set]
      congr 3
      simp
      omega
    rw [e2] at ih
    simp only [I] at g7 g11 mp
    rw [List.map_cons, List.map_cons, forL_cons]
    simp only [I] at ih
    simp [g7, g11, g12, mul_sm, X_sm G, mp, X_add G]
    simpa using ih
def ans (q A : Int) (ks ds : List Int) : List Int := List.zipWith (fun k d => (d + A * k) % q) ks ds
theorem ans_comp (G : Gp p q g) (ta : TapeO) {A : Int} (hA : Ky q A) : ∀ (ks ds : List Int), ks.length = ds.length → (∀ k ∈ ks, Ky q k) → ∀ (env : SE), env[13]? = some (I A) → env[8]? = some (I q) → env.length = 15 →
    compL (.tup [5, 6]) yesT (binE modS (binE addS (varE 6) (binE mulS (varE 13) (varE 5))) (varE 8)) (zipD (ks.map D.int) (ds.map D.int)) env ta = some ((ans q A ks ds).map D.int, ta)
  | [], [], _, _, _, _, _, _ => rfl
  | k :: ks, d :: ds, hl, h, env, h13, h8, hn => by
    have hk := h k List.mem_cons_self
    have ih := ans_comp G ta hA ks ds (by simpa using hl) (fun x hx => h x (List.mem_cons_of_mem _ hx)) env h13 h8 hn
    have g13 : ((env.set 5 (.val (.int k))).set 6 (.val (.int d)))[13]? = some (I A) := by rw [List.getElem?_set_ne (by decide), List.getElem?_set_ne (by decide)]; exact h13
    have g8 : ((env.set 5 (.val (.int k))).set 6 (.val (.int d)))[8]? = some (I q) := by rw [List.getElem?_set_ne (by decide), List.getElem?_set_ne (by decide)]; exact h8
    have g5 : ((env.set 5 (.val (.int k))).set 6 (.val (.int d)))[5]? = some (.val (.int k)) := by rw [List.getElem?_set_ne (by decide), List.getElem?_set_self (by omega)]
    have g6 : ((env.set 5 (.val (.int k))).set 6 (.val (.int d)))[6]? = some (.val (.int d)) := List.getElem?_set_self (by simp; omega)
    have mq := fun z => G.mq z
    simp only [I] at g13 g8 mq
    rw [List.map_cons, List.map_cons, show zipD (.int k :: ks.map D.int) (.int d :: ds.map D.int) = .tup [.int k, .int d] :: zipD (ks.map D.int) (ds.map D.int) from rfl, compL_cons]
    show _ = some (.int ((d + A * k) % q) :: (ans q A ks ds).map D.int, ta)
    simp [g13, g8, g5, g6, mul_sm, hA.sm G, hk.sm G, add_int, mq, ih]
  | [], _ :: _, h, _, _, _, _, _ => by simp at h
  | _ :: _, [], h, _, _, _, _, _ => by simp at h
theorem ans_len {A : Int} {ks ds : List Int} (h : ks.length = ds.length) : (ans q A ks ds).length = ds.length := by simp [ans, h]
theorem ans_sum {A : Int} : ∀ {ks ds : List Int}, ks.length = ds.length → ∃ c, (ans q A ks ds).sum = ds.sum + A * ks.sum + q * c
  | [], [], _ => ⟨0, by simp [ans]⟩
  | k :: ks, d :: ds, h => by
    obtain ⟨c, e⟩ := ans_sum (A := A) (ks := ks) (ds := ds) (by simpa using h)
    obtain ⟨k1, h1⟩ := divm q (d + A * k)
    refine ⟨c - k1, ?_⟩
    simp [ans] at e ⊢
    rw [e]
    generalize (d + A * k) % q = r at *
    grind
  | [], _ :: _, h => by simp at h
  | _ :: _, [], h => by simp at h
def PP (p q g A : Int) (ks ds : List Int) : List (Int × Int) := List.zipWith (fun k d => (X p q g d, (d + A * k) % q)) ks ds
theorem PP_zip {A : Int} : ∀ {ks ds : List Int}, ks.length = ds.length → zipD ((ds.map (X p q g)).map D.int) ((ans q A ks ds).map D.int) = (PP p q g A ks ds).map pD
  | [], [], _ => rfl
  | k :: ks, d :: ds, h => by
    have ih := PP_zip (A := A) (ks := ks) (ds := ds) (by simpa using h)
    exact congrArg (fun r => D.tup [.int (X p q g d), .int ((d + A * k) % q)] :: r) ih
  | [], _ :: _, h => by simp at h
  | _ :: _, [], h => by simp at h
theorem X_together (G : Gp p q g) {Os : List Int} (O : Orc q Os) {m : Int} (hm : 0 ≤ m) (hm2 : m < 100000) (ks ds : List Int) (hk : ∀ k ∈ ks, Ky q k) (hd : ∀ d ∈ ds, Ky q d) (h1 : 1 ≤ ks.length) (h2 : ks.length ≤ 6) (hl : ks.length = ds.length) :
    F_together [Gr p q g, oT Os, .val (.tup (ks.map D.int)), I m, .val (.tup (ds.map D.int))] ta =
      some (.ok (.val (.tup [.tup ((PP p q g (ask Os (X p q g ds.sum) m) ks ds).map pD), pD (ask Os (X p q g ds.sum) m, (ds.sum + ask Os (X p q g ds.sum) m * ks.sum) % q)])), ta) := by
  have nk : ks ≠ [] := fun e => by rw [e] at h1; simp at h1
  have nd : ds ≠ [] := fun e => by rw [hl, e] at h1; simp at h1
  have c1 := fun env h0 hn => chk_loop G 5 (by decide) ta ks nk hk env h0 hn
  have c2 := fun env h0 hn => chk_loop G 6 (by decide) ta ds nd hd env h0 hn
  have fc := fun env h7 h9 hn => firsts_comp G ta ds hd env h7 h9 hn
  have ml := fun env h7 h11 hn => mul_loop G ta ds nd 0 env h7 h11 hn
  have ac := fun env h13 h8 hn => ans_comp G ta (O.ask_ky (X p q g ds.sum) m) ks ds hl hk env h13 h8 hn
  have ml1 : (1 : Int) ≤ ks.length := by omega
  have ml2 : (ks.length : Int) ≤ 6 := by omega
  have hlI : (ds.length : Int) = ks.length := by omega
  have e0 := X_0 G
  rw [e0, Int.zero_add] at ml
  have as := X_asked G O ds.sum hm hm2 (ta := ta)
  have pz := PP_zip (p := p) (q := q) (g := g) (A := ask Os (X p q g ds.sum) m) hl
  have al := ans_len (q := q) (A := ask Os (X p q g ds.sum) m) hl
  obtain ⟨c, sc⟩ := ans_sum (q := q) (A := ask Os (X p q g ds.sum) m) hl
  have se : (ans q (ask Os (X p q g ds.sum) m) ks ds).sum % q = (ds.sum + ask Os (X p q g ds.sum) m * ks.sum) % q := by rw [sc, Int.add_mul_emod_self_left]
  have sb := sum_bor (ans q (ask Os (X p q g ds.sum) m) ks ds)
  have LM : LIM = 16777216 := rfl
  have dL : ds.length < LIM := by omega
  have zL : (zipD (ks.map D.int) (ds.map D.int)).length < LIM := by unfold zipD; simp; omega
  obtain ⟨A, hA⟩ : ∃ A, ask Os (X p q g ds.sum) m = A := ⟨_, rfl⟩
  rw [hA] at as ac pz al se sb
  obtain ⟨F, hF⟩ : ∃ F, (ds.map (X p q g)).map D.int = F := ⟨_, rfl⟩
  have Fl : F.length = ds.length := by rw [← hF]; simp
  rw [hF] at pz
  simp only [hF] at fc ml
  obtain ⟨N, hN⟩ : ∃ N, (ans q A ks ds).map D.int = N := ⟨_, rfl⟩
  have Nl : N.length = ds.length := by rw [← hN]; simpa using al
  rw [hN] at pz sb
  simp only [hN] at ac
  have tz : tupZipS [.val (.lst F), .bor N] = some (.val (.tup ((PP p q g A ks ds).map pD))) := by
    unfold tupZipS
    simp [Fl, Nl, pz]
  rw [hA]
  unfold F_together C_together
  rw [defF_ap]
  have mq := fun z => G.mq z
  simp only [I] at c1 c2 fc ml as ac mq
  simp [X_oracle G O, lenS, le_int, ml1, ml2, ne_int, hlI, c1, X_message hm, c2, dL, fc, ml, as, zip_tup, zL, ac, tz, sb, mq, se, pD]
end
end MP.K57

namespace MP.K57
open PySem
section
variable {p q g : Int} {ta : TapeO}
/-! what is forged blindly -/
def cnd (p q g y m : Int) (Os : List Int) (a t : Int) : Bool := decide (ask Os (X p q g (t - y * a)) m = a)
def frow (p q g y m : Int) (Os : List Int) (a : Int) (l : List Nat) : List (Int × Int) := (l.filter fun t => cnd p q g y m Os a (t : Nat)).map fun t => (a, ((t : Nat) : Int))
def frows (p q g y m : Int) (Os : List Int) (all l : List Nat) : List (Int × Int) := l.flatMap fun a => frow p q g y m Os ((a : Nat) : Int) all
theorem frow_len {y m a : Int} {Os : List Int} (l : List Nat) : (frow p q g y m Os a l).length ≤ l.length := by
  unfold frow
  rw [List.length_map]
  exact List.length_filter_le _ _
theorem frows_len {y m : Int} {Os : List Int} (all : List Nat) : ∀ l : List Nat, (frows p q g y m Os all l).length ≤ l.length * all.length
  | [] => by simp [frows]
  | a :: l => by
    have h1 := frow_len (p := p) (q := q) (g := g) (y := y) (m := m) (a := ((a : Nat) : Int)) (Os := Os) all
    have h2 := frows_len (y := y) (m := m) (Os := Os) all l
    simp [frows] at h2 ⊢
    rw [Nat.add_mul]
    omega
theorem frow_cons {y m a : Int} {Os : List Int} (t : Nat) (l : List Nat) : frow p q g y m Os a (t :: l) = if cnd p q g y m Os a (t : Nat) = true then (a, ((t : Nat) : Int)) :: frow p q g y m Os a l else frow p q g y m Os a l := by
  unfold frow
  by_cases h : cnd p q g y m Os a (t : Nat) = true
  · rw [if_pos h, List.filter_cons_of_pos (by simpa using h), List.map_cons]
  · rw [if_neg h, List.filter_cons_of_neg (by simpa using h)]
theorem forg_in (G : Gp p q g) {Os : List Int} (O : Orc q Os) (y : Int) {m : Int} (hm : 0 ≤ m) (hm2 : m < 100000) {a : Int} (ha : Ky q a) : ∀ (k j : Nat) (z : Sl) (L : List (Int × Int)), (j + k : Nat) ≤ q.toNat → L.length + k < 100000 → ∃ z',
    forL (.one 6) (ifC (ofE (callF F_is_signed [(varE 0), (varE 1), (varE 2), (varE 3), (tupE [(varE 5), (varE 6)])])) (appC 4 (tupE [(varE 5), (varE 6)])) skipC) ((List.range' j k).map fun i => D.int (i : Nat))
      [Gr p q g, oT Os, I (X p q g y), I m, .own (L.map pD), I a, z] ta = some (.nx, [Gr p q g, oT Os, I (X p q g y), I m, .own ((L ++ frow p q g y m Os a (List.range' j k)).map pD), I a, z'], ta)
  | 0, j, z, L, _, _ => ⟨z, by simp [frow]⟩
  | k + 1, j, z, L, h, hL => by
    have hj : Ky q (j : Nat) := ⟨by omega, by have := G.q0; omega⟩
    have e := X_is_signed G O y hm hm2 ha hj (ta := ta)
    have LM : LIM = 16777216 := rfl
    rw [List.range'_succ, List.map_cons, forL_cons, frow_cons]
    by_cases c : cnd p q g y m Os a (j : Nat) = true
    · obtain ⟨z', ih⟩ := forg_in G O y hm hm2 ha k (j + 1) (I (j : Nat)) (L ++ [(a, ((j : Nat) : Int))]) (by omega) (by simp; omega)
      refine ⟨z', ?_⟩
      rw [if_pos c]
      unfold cnd at c
      rw [c] at e
      have hl : L.length < LIM := by omega
      rw [List.append_assoc, List.map_append, List.map_cons, List.map_nil] at ih
      simp only [I, oT, pD] at e ih ⊢
      simp [e, hl]
      simpa using ih
    · obtain ⟨z', ih⟩ := forg_in G O y hm hm2 ha k (j + 1) (I (j : Nat)) L (by omega) (by omega)
      refine ⟨z', ?_⟩
      rw [if_neg c]
      unfold cnd at c
      rw [Bool.not_eq_true] at c
      rw [c] at e
      simp only [I, oT] at e ih ⊢
      simp [e]
      simpa using ih
theorem forg_out (G : Gp p q g) {Os : List Int} (O : Orc q Os) (y : Int) {m : Int} (hm : 0 ≤ m) (hm2 : m < 100000) : ∀ (k j : Nat) (z w : Sl) (L : List (Int × Int)), (j + k : Nat) ≤ q.toNat → L.length + k * 100 < 90000 → ∃ z' w',
    forL (.one 5) (forC (argI rg1S [(binE ixS (varE 0) (cstE (.int 1)))]) (.one 6) (ifC (ofE (callF F_is_signed [(varE 0), (varE 1), (varE 2), (varE 3), (tupE [(varE 5), (varE 6)])])) (appC 4 (tupE [(varE 5), (varE 6)])) skipC)) ((List.range' j k).map fun i => D.int (i : Nat))
      [Gr p q g, oT Os, I (X p q g y), I m, .own (L.map pD), w, z] ta = some (.nx, [Gr p q g, oT Os, I (X p q g y), I m, .own ((L ++ frows p q g y m Os (List.range' 0 q.toNat) (List.range' j k)).map pD), w', z'], ta)
  | 0, j, z, w, L, _, _ => ⟨z, w, by simp [frows]⟩
  | k + 1, j, z, w, L, h, hL => by
    have hj : Ky q (j : Nat) := ⟨by omega, by have := G.q0; omega⟩
    have q1 := G.q1
    have q2 := G.q2
    obtain ⟨z1, e⟩ := forg_in G O y hm hm2 hj (ta := ta) q.toNat 0 z L (by omega) (by omega)
    have fl := frow_len (p := p) (q := q) (g := g) (y := y) (m := m) (a := ((j : Nat) : Int)) (Os := Os) (List.range' 0 q.toNat)
    rw [List.length_range'] at fl
    obtain ⟨z', w', ih⟩ := forg_out G O y hm hm2 k (j + 1) z1 (I (j : Nat)) (L ++ frow p q g y m Os ((j : Nat) : Int) (List.range' 0 q.toNat)) (by omega) (by rw [List.length_append]; omega)
    refine ⟨z', w', ?_⟩
    have rg := rg1_ok (show 0 ≤ q by omega) (show q < 1000000 by omega)
    rw [List.append_assoc] at ih
    rw [List.range'_succ, List.map_cons, forL_cons]
    have fc : frows p q g y m Os (List.range' 0 q.toNat) (j :: List.range' (j + 1) k) = frow p q g y m Os ((j : Nat) : Int) (List.range' 0 q.toNat) ++ frows p q g y m Os (List.range' 0 q.toNat) (List.range' (j + 1) k) := by simp [frows]
    rw [fc]
    simp only [I, oT] at e ih ⊢
    simp [rg]
    simp at e ih
    rw [e]
    simp
    exact ih
theorem X_forg (G : Gp p q g) {Os : List Int} (O : Orc q Os) (y : Int) {m : Int} (hm : 0 ≤ m) (hm2 : m < 100000) (hq : q ≤ 31) : F_blind_forgeries [Gr p q g, oT Os, I (X p q g y), I m] ta =
    some (.ok (.val (.tup ((frows p q g y m Os (List.range' 0 q.toNat) (List.range' 0 q.toNat)).map pD))), ta) := by
  have q1 := G.q1
  obtain ⟨z', w', e⟩ := forg_out G O y hm hm2 (ta := ta) q.toNat 0 .un .un [] (by omega) (by simp; omega)
  have rg := rg1_ok (show 0 ≤ q by omega) (show q < 1000000 by omega)
  have hq' : ¬ 31 < q := by omega
  rw [List.nil_append] at e
  obtain ⟨R, hR⟩ : ∃ R, (frows p q g y m Os (List.range' 0 q.toNat) (List.range' 0 q.toNat)).map pD = R := ⟨_, rfl⟩
  rw [hR] at e ⊢
  unfold F_blind_forgeries C_blind_forgeries
  rw [defF_ap]
  simp only [I, oT] at e
  simp at e
  simp [X_oracle G O, X_chm G, X_message hm, gt_int, hq', rg, e, tupleS]
theorem mem_frows {y m a t : Int} {Os : List Int} (h0 : Ky q a) (h1 : Ky q t) (h : ask Os (X p q g (t - y * a)) m = a) : (a, t) ∈ frows p q g y m Os (List.range' 0 q.toNat) (List.range' 0 q.toNat) := by
  unfold frows
  have ha : ((a.toNat : Nat) : Int) = a := Int.toNat_of_nonneg h0.1
  have ht : ((t.toNat : Nat) : Int) = t := Int.toNat_of_nonneg h1.1
  rw [List.mem_flatMap]
  refine ⟨a.toNat, by rw [List.mem_range'_1]; have := h0.1; have := h0.2; omega, ?_⟩
  unfold frow
  rw [List.mem_map]
  refine ⟨t.toNat, ?_, by rw [ha, ht]⟩
  rw [List.mem_filter]
  refine ⟨by rw [List.mem_range'_1]; have := h1.1; have := h1.2; omega, ?_⟩
  unfold cnd
  rw [ha, ht, h]
  simp
end
end MP.K57

namespace MP.K57
open PySem
section
variable {p q g : Int} {ta : TapeO}
/-- once round a ring -/
def rgf (p q g m : Int) (Os : List Int) : List Int → List Int → Int → Int
  | y :: ys, t :: ts, s => rgf p q g m Os ys ts (ask Os (X p q g (t - y * s)) m)
  | _, _, s => s
theorem rgf_ky {m : Int} {Os : List Int} (O : Orc q Os) : ∀ (ys ts : List Int) (s : Int), Ky q s → Ky q (rgf p q g m Os ys ts s)
  | y :: ys, t :: ts, s, _ => rgf_ky O ys ts _ (O.ask_ky _ _)
  | [], _, s, h => by simpa [rgf] using h
  | _ :: _, [], s, h => by simpa [rgf] using h
theorem rgf_app {m : Int} {Os : List Int} : ∀ (ys zs ts us : List Int) (s : Int), ys.length = ts.length → rgf p q g m Os (ys ++ zs) (ts ++ us) s = rgf p q g m Os zs us (rgf p q g m Os ys ts s)
  | y :: ys, zs, t :: ts, us, s, h => by
    have := rgf_app (m := m) (Os := Os) ys zs ts us (ask Os (X p q g (t - y * s)) m) (by simpa using h)
    simpa [rgf] using this
  | [], zs, [], us, s, _ => by simp [rgf]
  | [], _, _ :: _, _, _, h => by simp at h
  | _ :: _, _, [], _, _, h => by simp at h
abbrev pT (p q g : Int) (ys : List Int) : Sl := .val (.tup ((ys.map (X p q g)).map D.int))
theorem mem_loop' (G : Gp p q g) (z : Sl) (ta : TapeO) : ∀ (ys : List Int) (w : Sl), ∃ w', forL (.one 2) (dropC (callF F_check_member [(varE 0), (varE 2)])) ((ys.map (X p q g)).map D.int) [Gr p q g, z, w] ta = some (.nx, [Gr p q g, z, w'], ta)
  | [], w => ⟨w, rfl⟩
  | y :: ys, w => by
    obtain ⟨w', ih⟩ := mem_loop' G z ta ys (I (X p q g y))
    refine ⟨w', ?_⟩
    have e := X_chm G y (ta := ta)
    simp only [I] at e ih
    rw [List.map_cons, List.map_cons, forL_cons]
    simp [e]
    simpa using ih
theorem X_check_ring (G : Gp p q g) (ys : List Int) (h1 : 1 ≤ ys.length) (h2 : ys.length ≤ 6) : F_check_ring [Gr p q g, pT p q g ys] ta = some (.ok (.val .non), ta) := by
  obtain ⟨w', e⟩ := mem_loop' G (pT p q g ys) ta ys .un
  have g1 : (1 : Int) ≤ ys.length := by omega
  have g2 : (ys.length : Int) ≤ 6 := by omega
  obtain ⟨Y, hY⟩ : ∃ Y, (ys.map (X p q g)).map D.int = Y := ⟨_, rfl⟩
  have Yl : Y.length = ys.length := by rw [← hY]; simp
  simp only [pT] at e ⊢
  rw [hY] at e ⊢
  unfold F_check_ring C_check_ring
  rw [defF_ap]
  simp [G.chk, lenS, le_int, Yl, g1, g2, e]
theorem told_comp (ta : TapeO) : ∀ (ts : List Int), (∀ t ∈ ts, Ky q t) → ∀ (env : SE), env[8]? = some (I q) → env.length = 14 → compL (.one 12) yesT (chainE leS ltS (cstE (.int 0)) (varE 12) (varE 8)) (ts.map D.int) env ta = some ((ts.map fun _ => true).map D.bl, ta)
  | [], _, _, _, _ => rfl
  | t :: ts, h, env, h8, hn => by
    have ht := h t List.mem_cons_self
    have ih := told_comp ta ts (fun x hx => h x (List.mem_cons_of_mem _ hx)) env h8 hn
    have g8 : (env.set 12 (.val (.int t)))[8]? = some (I q) := by rw [List.getElem?_set_ne (by decide)]; exact h8
    have g12 : (env.set 12 (.val (.int t)))[12]? = some (.val (.int t)) := List.getElem?_set_self (by omega)
    simp only [I] at g8
    rw [List.map_cons, compL_cons]
    simp [g8, g12, le_int, lt_int, ht.1, ht.2] at ih ⊢
    exact ih
theorem ring_loop (G : Gp p q g) {Os : List Int} (O : Orc q Os) {m : Int} (hm : 0 ≤ m) (hm2 : m < 100000) (z2 z4 z5 z6 : Sl) (ta : TapeO) : ∀ (ys ts : List Int) (s : Int) (a b c : Sl), ys.length = ts.length → (∀ t ∈ ts, Ky q t) → Ky q s → ∃ a' b' c',
    forL (.tup [11, 12]) (seqC (asgC 13 (binE modS (binE mulS (callF F_power_in [(varE 7), (varE 9), (varE 12)]) (callF F_power_in [(varE 7), (varE 11), (binE subS (varE 8) (varE 10))])) (varE 7)))
      (asgC 10 (callF F_asked_of [(varE 0), (varE 1), (varE 13), (varE 3)]))) (zipD ((ys.map (X p q g)).map D.int) (ts.map D.int)) [Gr p q g, oT Os, z2, I m, z4, z5, z6, I p, I q, I g, I s, a, b, c] ta =
      some (.nx, [Gr p q g, oT Os, z2, I m, z4, z5, z6, I p, I q, I g, I (rgf p q g m Os ys ts s), a', b', c'], ta)
  | [], [], s, a, b, c, _, _, _ => ⟨a, b, c, by simp [rgf, zipD]⟩
  | y :: ys, t :: ts, s, a, b, c, hl, ht, hs => by
    have kt := ht t List.mem_cons_self
    have ks := ky_sub G hs
    obtain ⟨a', b', c', ih⟩ := ring_loop G O hm hm2 z2 z4 z5 z6 ta ys ts (ask Os (X p q g (t - y * s)) m) (I (X p q g y)) (I t) (I (X p q g (t - y * s))) (by simpa using hl) (fun x hx => ht x (List.mem_cons_of_mem _ hx)) (O.ask_ky _ _)
    refine ⟨a', b', c', ?_⟩
    have p1 := X_pwg G kt.1 (kt.lt G) (ta := ta)
    have p2 := X_pw G y ks.1 ks.2 (ta := ta)
    have ak := X_asked G O (t - y * s) hm hm2 (ta := ta)
    rw [List.map_cons, List.map_cons, List.map_cons, show zipD (.int (X p q g y) :: (ys.map (X p q g)).map D.int) (.int t :: ts.map D.int) = .tup [.int (X p q g y), .int t] :: zipD ((ys.map (X p q g)).map D.int) (ts.map D.int) from rfl, forL_cons]
    have mp := fun z => G.mp z
    simp only [I, oT] at ih p1 p2 ak mp
    simp [p1, sub_int, p2, mul_sm, X_sm G, mp, X_add G, X_first G, ak]
    simp [rgf] at ih ⊢
    exact ih
  | [], _ :: _, _, _, _, _, h, _, _ => by simp at h
  | _ :: _, [], _, _, _, _, h, _, _ => by simp at h
theorem X_is_ring (G : Gp p q g) {Os : List Int} (O : Orc q Os) {m : Int} (hm : 0 ≤ m) (hm2 : m < 100000) (ys ts : List Int) {s : Int} (h1 : 1 ≤ ys.length) (h2 : ys.length ≤ 6) (hl : ys.length = ts.length) (ht : ∀ t ∈ ts, Ky q t) (hs : Ky q s) :
    F_is_ring_signed [Gr p q g, oT Os, pT p q g ys, I m, .val (.tup [.int s, .tup (ts.map D.int)])] ta = some (.ok (.val (.bl (decide (rgf p q g m Os ys ts s = s)))), ta) := by
  obtain ⟨a', b', c', e⟩ := ring_loop G O hm hm2 (pT p q g ys) (.val (.tup [.int s, .tup (ts.map D.int)])) (I s) (.val (.tup (ts.map D.int))) ta ys ts s .un .un .un hl ht hs
  have tc := fun env h8 hn => told_comp (q := q) ta ts ht env h8 hn
  have cr := X_check_ring G ys h1 h2 (ta := ta)
  have aw := all_own (ts.map fun _ => true)
  rw [all_true] at aw
  obtain ⟨bs, hbs⟩ : ∃ bs, (ts.map fun _ => true).map D.bl = bs := ⟨_, rfl⟩
  rw [hbs] at aw
  simp only [hbs] at tc
  have LM : LIM = 16777216 := rfl
  have tL : ts.length < LIM := by omega
  have hlI : (ts.length : Int) = ys.length := by omega
  obtain ⟨Y, hY⟩ : ∃ Y, (ys.map (X p q g)).map D.int = Y := ⟨_, rfl⟩
  have Yl : Y.length = ys.length := by rw [← hY]; simp
  simp only [pT] at e cr ⊢
  rw [hY] at e cr ⊢
  unfold F_is_ring_signed C_is_ring_signed
  rw [defF_ap]
  simp only [I, oT] at e cr tc
  simp [X_oracle G O, cr, X_message hm, lenS, Yl, hlI, ne_int, le_int, lt_int, hs.1, hs.2, tL, tc, aw, zip_tup, e, eq_int]
end
end MP.K57

namespace MP.K57
open PySem
section
variable {a b c d : D} {l : List D}
@[simp] theorem ixb0 : ixS (.bor (a :: l)) (.val (.int 0)) = some (.val a) := ix_at rfl (by decide) rfl
@[simp] theorem ixb1 : ixS (.bor (a :: b :: l)) (.val (.int 1)) = some (.val b) := ix_at rfl (by decide) rfl
@[simp] theorem ixb2 : ixS (.bor (a :: b :: c :: l)) (.val (.int 2)) = some (.val c) := ix_at rfl (by decide) rfl
@[simp] theorem ixb3 : ixS (.bor (a :: b :: c :: d :: l)) (.val (.int 3)) = some (.val d) := ix_at rfl (by decide) rfl
end
@[simp] theorem ixn10 : L2.ixN 1 0 = some 0 := rfl
theorem rep1 : repS (.own [.int 0]) (.val (.int 1)) = some (.own [.int 0]) := rfl
theorem rgg1 : rg2S [.val (.int 1), .val (.int 2)] = some [.int 1] := rfl
@[simp] theorem ixn20 : L2.ixN 2 0 = some 0 := rfl
@[simp] theorem ixn21 : L2.ixN 2 1 = some 1 := rfl
theorem rep2 : repS (.own [.int 0]) (.val (.int 2)) = some (.own [.int 0, .int 0]) := rfl
theorem rgg2 : rg2S [.val (.int 1), .val (.int 3)] = some [.int 1, .int 2] := rfl
@[simp] theorem ixn30 : L2.ixN 3 0 = some 0 := rfl
@[simp] theorem ixn31 : L2.ixN 3 1 = some 1 := rfl
@[simp] theorem ixn32 : L2.ixN 3 2 = some 2 := rfl
theorem rep3 : repS (.own [.int 0]) (.val (.int 3)) = some (.own [.int 0, .int 0, .int 0]) := rfl
theorem rgg3 : rg2S [.val (.int 1), .val (.int 4)] = some [.int 1, .int 2, .int 3] := rfl
@[simp] theorem ixn40 : L2.ixN 4 0 = some 0 := rfl
@[simp] theorem ixn41 : L2.ixN 4 1 = some 1 := rfl
@[simp] theorem ixn42 : L2.ixN 4 2 = some 2 := rfl
@[simp] theorem ixn43 : L2.ixN 4 3 = some 3 := rfl
theorem rep4 : repS (.own [.int 0]) (.val (.int 4)) = some (.own [.int 0, .int 0, .int 0, .int 0]) := rfl
theorem rgg4 : rg2S [.val (.int 1), .val (.int 5)] = some [.int 1, .int 2, .int 3, .int 4] := rfl
section
variable {p q g : Int} {ta : TapeO}
theorem ring_1_0 (G : Gp p q g) {Os : List Int} (O : Orc q Os) {m : Int} (hm : 0 ≤ m) (hm2 : m < 100000) {t0 : Int} (y0 : Int) {d : Int} (kd : Ky q d) (ky : Ky q y0) (kt0 : Ky q t0) : ∃ (s : Int) (ts : List Int),
    F_ring_sign [Gr p q g, oT Os, pT p q g [y0], I 0, I y0, I m, I d, .val (.tup [.int t0])] ta = some (.ok (.val (.tup [.int s, .tup (ts.map D.int)])), ta) ∧ Ky q s ∧ (∀ t ∈ ts, Ky q t) ∧ ts.length = 1 ∧ rgf p q g m Os [y0] ts s = s := by
  obtain ⟨c1, h1⟩ : ∃ c, ask Os (X p q g d) m = c := ⟨_, rfl⟩
  have e1 := X_asked G O d hm hm2 (ta := ta)
  have k1 := O.ask_ky (X p q g d) m
  rw [h1] at e1 k1
  have kr := mod_ky G (d + c1 * y0)
  obtain ⟨w, hw⟩ := divm q (d + c1 * y0)
  have er : X p q g ((d + c1 * y0) % q - y0 * c1) = X p q g d := by
    generalize (d + c1 * y0) % q = r at *
    exact X_cg (-w) (by grind)
  refine ⟨c1, [(d + c1 * y0) % q], ?_, k1, ?_, rfl, ?_⟩
  · have cr := X_check_ring G [y0] (by simp) (by simp) (ta := ta)
    have pu := X_public G ky (ta := ta)
    have ud := X_pwg G kd.1 (kd.lt G) (ta := ta)
    have qt0 := G.chk_key kt0 (ta := ta)
    have mp := fun z => G.mp z
    have mq := fun z => G.mq z
    simp only [I, oT, pT, List.map_cons, List.map_nil] at cr pu ud mp mq qt0 e1 
    unfold F_ring_sign C_ring_sign
    rw [defF_ap]
    simp [X_oracle G O, cr, lenS, le_int, lt_int, pu, ne_int, X_message hm, G.chk_key kd, forL_cons, qt0, rep1, ud, listS, rgg1, add_int, mod_int, sub_int, mul_sm, X_sm G, mp, X_add G, X_first G, e1, eq_int, k1.sm G, ky.sm G, mq, tupleS]
  · intro t ht
    simp at ht
    rcases ht with rfl <;> assumption
  · simp only [rgf, er, h1]

theorem ring_2_0 (G : Gp p q g) {Os : List Int} (O : Orc q Os) {m : Int} (hm : 0 ≤ m) (hm2 : m < 100000) {t0 t1 : Int} (y0 y1 : Int) {d : Int} (kd : Ky q d) (ky : Ky q y0) (kt0 : Ky q t0) (kt1 : Ky q t1) : ∃ (s : Int) (ts : List Int),
    F_ring_sign [Gr p q g, oT Os, pT p q g [y0, y1], I 0, I y0, I m, I d, .val (.tup [.int t0, .int t1])] ta = some (.ok (.val (.tup [.int s, .tup (ts.map D.int)])), ta) ∧ Ky q s ∧ (∀ t ∈ ts, Ky q t) ∧ ts.length = 2 ∧ rgf p q g m Os [y0, y1] ts s = s := by
  obtain ⟨c1, h1⟩ : ∃ c, ask Os (X p q g d) m = c := ⟨_, rfl⟩
  have e1 := X_asked G O d hm hm2 (ta := ta)
  have k1 := O.ask_ky (X p q g d) m
  rw [h1] at e1 k1
  obtain ⟨c2, h2⟩ : ∃ c, ask Os (X p q g (t1 - y1 * c1)) m = c := ⟨_, rfl⟩
  have e2 := X_asked G O (t1 - y1 * c1) hm hm2 (ta := ta)
  have k2 := O.ask_ky (X p q g (t1 - y1 * c1)) m
  rw [h2] at e2 k2
  have u1 := X_pwg G kt1.1 (kt1.lt G) (ta := ta)
  have v1 := X_pw G y1 (ky_sub G k1).1 (ky_sub G k1).2 (ta := ta)
  have kr := mod_ky G (d + c2 * y0)
  obtain ⟨w, hw⟩ := divm q (d + c2 * y0)
  have er : X p q g ((d + c2 * y0) % q - y0 * c2) = X p q g d := by
    generalize (d + c2 * y0) % q = r at *
    exact X_cg (-w) (by grind)
  refine ⟨c2, [(d + c2 * y0) % q, t1], ?_, k2, ?_, rfl, ?_⟩
  · have cr := X_check_ring G [y0, y1] (by simp) (by simp) (ta := ta)
    have pu := X_public G ky (ta := ta)
    have ud := X_pwg G kd.1 (kd.lt G) (ta := ta)
    have qt0 := G.chk_key kt0 (ta := ta)
    have qt1 := G.chk_key kt1 (ta := ta)
    have mp := fun z => G.mp z
    have mq := fun z => G.mq z
    simp only [I, oT, pT, List.map_cons, List.map_nil] at cr pu ud mp mq qt0 qt1 e1 e2 u1 v1
    unfold F_ring_sign C_ring_sign
    rw [defF_ap]
    simp [X_oracle G O, cr, lenS, le_int, lt_int, pu, ne_int, X_message hm, G.chk_key kd, forL_cons, qt0, qt1, rep2, ud, listS, rgg2, add_int, mod_int, sub_int, mul_sm, X_sm G, mp, X_add G, X_first G, e1, e2, u1, v1, k2.sm G, ky.sm G, mq, tupleS]
  · intro t ht
    simp at ht
    rcases ht with rfl | rfl <;> assumption
  · simp only [rgf, er, h1, h2]

theorem ring_2_1 (G : Gp p q g) {Os : List Int} (O : Orc q Os) {m : Int} (hm : 0 ≤ m) (hm2 : m < 100000) {t0 t1 : Int} (y0 y1 : Int) {d : Int} (kd : Ky q d) (ky : Ky q y1) (kt0 : Ky q t0) (kt1 : Ky q t1) : ∃ (s : Int) (ts : List Int),
    F_ring_sign [Gr p q g, oT Os, pT p q g [y0, y1], I 1, I y1, I m, I d, .val (.tup [.int t0, .int t1])] ta = some (.ok (.val (.tup [.int s, .tup (ts.map D.int)])), ta) ∧ Ky q s ∧ (∀ t ∈ ts, Ky q t) ∧ ts.length = 2 ∧ rgf p q g m Os [y0, y1] ts s = s := by
  obtain ⟨c1, h1⟩ : ∃ c, ask Os (X p q g d) m = c := ⟨_, rfl⟩
  have e1 := X_asked G O d hm hm2 (ta := ta)
  have k1 := O.ask_ky (X p q g d) m
  rw [h1] at e1 k1
  obtain ⟨c2, h2⟩ : ∃ c, ask Os (X p q g (t0 - y0 * c1)) m = c := ⟨_, rfl⟩
  have e2 := X_asked G O (t0 - y0 * c1) hm hm2 (ta := ta)
  have k2 := O.ask_ky (X p q g (t0 - y0 * c1)) m
  rw [h2] at e2 k2
  have u1 := X_pwg G kt0.1 (kt0.lt G) (ta := ta)
  have v1 := X_pw G y0 (ky_sub G k1).1 (ky_sub G k1).2 (ta := ta)
  have kr := mod_ky G (d + c2 * y1)
  obtain ⟨w, hw⟩ := divm q (d + c2 * y1)
  have er : X p q g ((d + c2 * y1) % q - y1 * c2) = X p q g d := by
    generalize (d + c2 * y1) % q = r at *
    exact X_cg (-w) (by grind)
  refine ⟨c1, [t0, (d + c2 * y1) % q], ?_, k1, ?_, rfl, ?_⟩
  · have cr := X_check_ring G [y0, y1] (by simp) (by simp) (ta := ta)
    have pu := X_public G ky (ta := ta)
    have ud := X_pwg G kd.1 (kd.lt G) (ta := ta)
    have qt0 := G.chk_key kt0 (ta := ta)
    have qt1 := G.chk_key kt1 (ta := ta)
    have mp := fun z => G.mp z
    have mq := fun z => G.mq z
    simp only [I, oT, pT, List.map_cons, List.map_nil] at cr pu ud mp mq qt0 qt1 e1 e2 u1 v1
    unfold F_ring_sign C_ring_sign
    rw [defF_ap]
    simp [X_oracle G O, cr, lenS, le_int, lt_int, pu, ne_int, X_message hm, G.chk_key kd, forL_cons, qt0, qt1, rep2, ud, listS, rgg2, add_int, mod_int, sub_int, mul_sm, X_sm G, mp, X_add G, X_first G, e1, e2, u1, v1, k2.sm G, ky.sm G, mq, tupleS]
  · intro t ht
    simp at ht
    rcases ht with rfl | rfl <;> assumption
  · simp only [rgf, er, h1, h2]

theorem ring_3_0 (G : Gp p q g) {Os : List Int} (O : Orc q Os) {m : Int} (hm : 0 ≤ m) (hm2 : m < 100000) {t0 t1 t2 : Int} (y0 y1 y2 : Int) {d : Int} (kd : Ky q d) (ky : Ky q y0) (kt0 : Ky q t0) (kt1 : Ky q t1) (kt2 : Ky q t2) : ∃ (s : Int) (ts : List Int),
    F_ring_sign [Gr p q g, oT Os, pT p q g [y0, y1, y2], I 0, I y0, I m, I d, .val (.tup [.int t0, .int t1, .int t2])] ta = some (.ok (.val (.tup [.int s, .tup (ts.map D.int)])), ta) ∧ Ky q s ∧ (∀ t ∈ ts, Ky q t) ∧ ts.length = 3 ∧ rgf p q g m Os [y0, y1, y2] ts s = s := by
  obtain ⟨c1, h1⟩ : ∃ c, ask Os (X p q g d) m = c := ⟨_, rfl⟩
  have e1 := X_asked G O d hm hm2 (ta := ta)
  have k1 := O.ask_ky (X p q g d) m
  rw [h1] at e1 k1
  obtain ⟨c2, h2⟩ : ∃ c, ask Os (X p q g (t1 - y1 * c1)) m = c := ⟨_, rfl⟩
  have e2 := X_asked G O (t1 - y1 * c1) hm hm2 (ta := ta)
  have k2 := O.ask_ky (X p q g (t1 - y1 * c1)) m
  rw [h2] at e2 k2
  have u1 := X_pwg G kt1.1 (kt1.lt G) (ta := ta)
  have v1 := X_pw G y1 (ky_sub G k1).1 (ky_sub G k1).2 (ta := ta)
  obtain ⟨c3, h3⟩ : ∃ c, ask Os (X p q g (t2 - y2 * c2)) m = c := ⟨_, rfl⟩
  have e3 := X_asked G O (t2 - y2 * c2) hm hm2 (ta := ta)
  have k3 := O.ask_ky (X p q g (t2 - y2 * c2)) m
  rw [h3] at e3 k3
  have u2 := X_pwg G kt2.1 (kt2.lt G) (ta := ta)
  have v2 := X_pw G y2 (ky_sub G k2).1 (ky_sub G k2).2 (ta := ta)
  have kr := mod_ky G (d + c3 * y0)
  obtain ⟨w, hw⟩ := divm q (d + c3 * y0)
  have er : X p q g ((d + c3 * y0) % q - y0 * c3) = X p q g d := by
    generalize (d + c3 * y0) % q = r at *
    exact X_cg (-w) (by grind)
  refine ⟨c3, [(d + c3 * y0) % q, t1, t2], ?_, k3, ?_, rfl, ?_⟩
  · have cr := X_check_ring G [y0, y1, y2] (by simp) (by simp) (ta := ta)
    have pu := X_public G ky (ta := ta)
    have ud := X_pwg G kd.1 (kd.lt G) (ta := ta)
    have qt0 := G.chk_key kt0 (ta := ta)
    have qt1 := G.chk_key kt1 (ta := ta)
    have qt2 := G.chk_key kt2 (ta := ta)
    have mp := fun z => G.mp z
    have mq := fun z => G.mq z
    simp only [I, oT, pT, List.map_cons, List.map_nil] at cr pu ud mp mq qt0 qt1 qt2 e1 e2 e3 u1 v1 u2 v2
    unfold F_ring_sign C_ring_sign
    rw [defF_ap]
    simp [X_oracle G O, cr, lenS, le_int, lt_int, pu, ne_int, X_message hm, G.chk_key kd, forL_cons, qt0, qt1, qt2, rep3, ud, listS, rgg3, add_int, mod_int, sub_int, mul_sm, X_sm G, mp, X_add G, X_first G, e1, e2, e3, u1, v1, u2, v2, k3.sm G, ky.sm G, mq, tupleS]
  · intro t ht
    simp at ht
    rcases ht with rfl | rfl | rfl <;> assumption
  · simp only [rgf, er, h1, h2, h3]

theorem ring_3_1 (G : Gp p q g) {Os : List Int} (O : Orc q Os) {m : Int} (hm : 0 ≤ m) (hm2 : m < 100000) {t0 t1 t2 : Int} (y0 y1 y2 : Int) {d : Int} (kd : Ky q d) (ky : Ky q y1) (kt0 : Ky q t0) (kt1 : Ky q t1) (kt2 : Ky q t2) : ∃ (s : Int) (ts : List Int),
    F_ring_sign [Gr p q g, oT Os, pT p q g [y0, y1, y2], I 1, I y1, I m, I d, .val (.tup [.int t0, .int t1, .int t2])] ta = some (.ok (.val (.tup [.int s, .tup (ts.map D.int)])), ta) ∧ Ky q s ∧ (∀ t ∈ ts, Ky q t) ∧ ts.length = 3 ∧ rgf p q g m Os [y0, y1, y2] ts s = s := by
  obtain ⟨c1, h1⟩ : ∃ c, ask Os (X p q g d) m = c := ⟨_, rfl⟩
  have e1 := X_asked G O d hm hm2 (ta := ta)
  have k1 := O.ask_ky (X p q g d) m
  rw [h1] at e1 k1
  obtain ⟨c2, h2⟩ : ∃ c, ask Os (X p q g (t2 - y2 * c1)) m = c := ⟨_, rfl⟩
  have e2 := X_asked G O (t2 - y2 * c1) hm hm2 (ta := ta)
  have k2 := O.ask_ky (X p q g (t2 - y2 * c1)) m
  rw [h2] at e2 k2
  have u1 := X_pwg G kt2.1 (kt2.lt G) (ta := ta)
  have v1 := X_pw G y2 (ky_sub G k1).1 (ky_sub G k1).2 (ta := ta)
  obtain ⟨c3, h3⟩ : ∃ c, ask Os (X p q g (t0 - y0 * c2)) m = c := ⟨_, rfl⟩
  have e3 := X_asked G O (t0 - y0 * c2) hm hm2 (ta := ta)
  have k3 := O.ask_ky (X p q g (t0 - y0 * c2)) m
  rw [h3] at e3 k3
  have u2 := X_pwg G kt0.1 (kt0.lt G) (ta := ta)
  have v2 := X_pw G y0 (ky_sub G k2).1 (ky_sub G k2).2 (ta := ta)
  have kr := mod_ky G (d + c3 * y1)
  obtain ⟨w, hw⟩ := divm q (d + c3 * y1)
  have er : X p q g ((d + c3 * y1) % q - y1 * c3) = X p q g d := by
    generalize (d + c3 * y1) % q = r at *
    exact X_cg (-w) (by grind)
  refine ⟨c2, [t0, (d + c3 * y1) % q, t2], ?_, k2, ?_, rfl, ?_⟩
  · have cr := X_check_ring G [y0, y1, y2] (by simp) (by simp) (ta := ta)
    have pu := X_public G ky (ta := ta)
    have ud := X_pwg G kd.1 (kd.lt G) (ta := ta)
    have qt0 := G.chk_key kt0 (ta := ta)
    have qt1 := G.chk_key kt1 (ta := ta)
    have qt2 := G.chk_key kt2 (ta := ta)
    have mp := fun z => G.mp z
    have mq := fun z => G.mq z
    simp only [I, oT, pT, List.map_cons, List.map_nil] at cr pu ud mp mq qt0 qt1 qt2 e1 e2 e3 u1 v1 u2 v2
    unfold F_ring_sign C_ring_sign
    rw [defF_ap]
    simp [X_oracle G O, cr, lenS, le_int, lt_int, pu, ne_int, X_message hm, G.chk_key kd, forL_cons, qt0, qt1, qt2, rep3, ud, listS, rgg3, add_int, mod_int, sub_int, mul_sm, X_sm G, mp, X_add G, X_first G, e1, e2, e3, u1, v1, u2, v2, k3.sm G, ky.sm G, mq, tupleS]
  · intro t ht
    simp at ht
    rcases ht with rfl | rfl | rfl <;> assumption
  · simp only [rgf, er, h1, h2, h3]

theorem ring_3_2 (G : Gp p q g) {Os : List Int} (O : Orc q Os) {m : Int} (hm : 0 ≤ m) (hm2 : m < 100000) {t0 t1 t2 : Int} (y0 y1 y2 : Int) {d : Int} (kd : Ky q d) (ky : Ky q y2) (kt0 : Ky q t0) (kt1 : Ky q t1) (kt2 : Ky q t2) : ∃ (s : Int) (ts : List Int),
    F_ring_sign [Gr p q g, oT Os, pT p q g [y0, y1, y2], I 2, I y2, I m, I d, .val (.tup [.int t0, .int t1, .int t2])] ta = some (.ok (.val (.tup [.int s, .tup (ts.map D.int)])), ta) ∧ Ky q s ∧ (∀ t ∈ ts, Ky q t) ∧ ts.length = 3 ∧ rgf p q g m Os [y0, y1, y2] ts s = s := by
  obtain ⟨c1, h1⟩ : ∃ c, ask Os (X p q g d) m = c := ⟨_, rfl⟩
  have e1 := X_asked G O d hm hm2 (ta := ta)
  have k1 := O.ask_ky (X p q g d) m
  rw [h1] at e1 k1
  obtain ⟨c2, h2⟩ : ∃ c, ask Os (X p q g (t0 - y0 * c1)) m = c := ⟨_, rfl⟩
  have e2 := X_asked G O (t0 - y0 * c1) hm hm2 (ta := ta)
  have k2 := O.ask_ky (X p q g (t0 - y0 * c1)) m
  rw [h2] at e2 k2
  have u1 := X_pwg G kt0.1 (kt0.lt G) (ta := ta)
  have v1 := X_pw G y0 (ky_sub G k1).1 (ky_sub G k1).2 (ta := ta)
  obtain ⟨c3, h3⟩ : ∃ c, ask Os (X p q g (t1 - y1 * c2)) m = c := ⟨_, rfl⟩
  have e3 := X_asked G O (t1 - y1 * c2) hm hm2 (ta := ta)
  have k3 := O.ask_ky (X p q g (t1 - y1 * c2)) m
  rw [h3] at e3 k3
  have u2 := X_pwg G kt1.1 (kt1.lt G) (ta := ta)
  have v2 := X_pw G y1 (ky_sub G k2).1 (ky_sub G k2).2 (ta := ta)
  have kr := mod_ky G (d + c3 * y2)
  obtain ⟨w, hw⟩ := divm q (d + c3 * y2)
  have er : X p q g ((d + c3 * y2) % q - y2 * c3) = X p q g d := by
    generalize (d + c3 * y2) % q = r at *
    exact X_cg (-w) (by grind)
  refine ⟨c1, [t0, t1, (d + c3 * y2) % q], ?_, k1, ?_, rfl, ?_⟩
  · have cr := X_check_ring G [y0, y1, y2] (by simp) (by simp) (ta := ta)
    have pu := X_public G ky (ta := ta)
    have ud := X_pwg G kd.1 (kd.lt G) (ta := ta)
    have qt0 := G.chk_key kt0 (ta := ta)
    have qt1 := G.chk_key kt1 (ta := ta)
    have qt2 := G.chk_key kt2 (ta := ta)
    have mp := fun z => G.mp z
    have mq := fun z => G.mq z
    simp only [I, oT, pT, List.map_cons, List.map_nil] at cr pu ud mp mq qt0 qt1 qt2 e1 e2 e3 u1 v1 u2 v2
    unfold F_ring_sign C_ring_sign
    rw [defF_ap]
    simp [X_oracle G O, cr, lenS, le_int, lt_int, pu, ne_int, X_message hm, G.chk_key kd, forL_cons, qt0, qt1, qt2, rep3, ud, listS, rgg3, add_int, mod_int, sub_int, mul_sm, X_sm G, mp, X_add G, X_first G, e1, e2, e3, u1, v1, u2, v2, k3.sm G, ky.sm G, mq, tupleS]
  · intro t ht
    simp at ht
    rcases ht with rfl | rfl | rfl <;> assumption
  · simp only [rgf, er, h1, h2, h3]

theorem ring_4_0 (G : Gp p q g) {Os : List Int} (O : Orc q Os) {m : Int} (hm : 0 ≤ m) (hm2 : m < 100000) {t0 t1 t2 t3 : Int} (y0 y1 y2 y3 : Int) {d : Int} (kd : Ky q d) (ky : Ky q y0) (kt0 : Ky q t0) (kt1 : Ky q t1) (kt2 : Ky q t2) (kt3 : Ky q t3) : ∃ (s : Int) (ts : List Int),
    F_ring_sign [Gr p q g, oT Os, pT p q g [y0, y1, y2, y3], I 0, I y0, I m, I d, .val (.tup [.int t0, .int t1, .int t2, .int t3])] ta = some (.ok (.val (.tup [.int s, .tup (ts.map D.int)])), ta) ∧ Ky q s ∧ (∀ t ∈ ts, Ky q t) ∧ ts.length = 4 ∧ rgf p q g m Os [y0, y1, y2, y3] ts s = s := by
  obtain ⟨c1, h1⟩ : ∃ c, ask Os (X p q g d) m = c := ⟨_, rfl⟩
  have e1 := X_asked G O d hm hm2 (ta := ta)
  have k1 := O.ask_ky (X p q g d) m
  rw [h1] at e1 k1
  obtain ⟨c2, h2⟩ : ∃ c, ask Os (X p q g (t1 - y1 * c1)) m = c := ⟨_, rfl⟩
  have e2 := X_asked G O (t1 - y1 * c1) hm hm2 (ta := ta)
  have k2 := O.ask_ky (X p q g (t1 - y1 * c1)) m
  rw [h2] at e2 k2
  have u1 := X_pwg G kt1.1 (kt1.lt G) (ta := ta)
  have v1 := X_pw G y1 (ky_sub G k1).1 (ky_sub G k1).2 (ta := ta)
  obtain ⟨c3, h3⟩ : ∃ c, ask Os (X p q g (t2 - y2 * c2)) m = c := ⟨_, rfl⟩
  have e3 := X_asked G O (t2 - y2 * c2) hm hm2 (ta := ta)
  have k3 := O.ask_ky (X p q g (t2 - y2 * c2)) m
  rw [h3] at e3 k3
  have u2 := X_pwg G kt2.1 (kt2.lt G) (ta := ta)
  have v2 := X_pw G y2 (ky_sub G k2).1 (ky_sub G k2).2 (ta := ta)
  obtain ⟨c4, h4⟩ : ∃ c, ask Os (X p q g (t3 - y3 * c3)) m = c := ⟨_, rfl⟩
  have e4 := X_asked G O (t3 - y3 * c3) hm hm2 (ta := ta)
  have k4 := O.ask_ky (X p q g (t3 - y3 * c3)) m
  rw [h4] at e4 k4
  have u3 := X_pwg G kt3.1 (kt3.lt G) (ta := ta)
  have v3 := X_pw G y3 (ky_sub G k3).1 (ky_sub G k3).2 (ta := ta)
  have kr := mod_ky G (d + c4 * y0)
  obtain ⟨w, hw⟩ := divm q (d + c4 * y0)
  have er : X p q g ((d + c4 * y0) % q - y0 * c4) = X p q g d := by
    generalize (d + c4 * y0) % q = r at *
    exact X_cg (-w) (by grind)
  refine ⟨c4, [(d + c4 * y0) % q, t1, t2, t3], ?_, k4, ?_, rfl, ?_⟩
  · have cr := X_check_ring G [y0, y1, y2, y3] (by simp) (by simp) (ta := ta)
    have pu := X_public G ky (ta := ta)
    have ud := X_pwg G kd.1 (kd.lt G) (ta := ta)
    have qt0 := G.chk_key kt0 (ta := ta)
    have qt1 := G.chk_key kt1 (ta := ta)
    have qt2 := G.chk_key kt2 (ta := ta)
    have qt3 := G.chk_key kt3 (ta := ta)
    have mp := fun z => G.mp z
    have mq := fun z => G.mq z
    simp only [I, oT, pT, List.map_cons, List.map_nil] at cr pu ud mp mq qt0 qt1 qt2 qt3 e1 e2 e3 e4 u1 v1 u2 v2 u3 v3
    unfold F_ring_sign C_ring_sign
    rw [defF_ap]
    simp [X_oracle G O, cr, lenS, le_int, lt_int, pu, ne_int, X_message hm, G.chk_key kd, forL_cons, qt0, qt1, qt2, qt3, rep4, ud, listS, rgg4, add_int, mod_int, sub_int, mul_sm, X_sm G, mp, X_add G, X_first G, e1, e2, e3, e4, u1, v1, u2, v2, u3, v3, k4.sm G, ky.sm G, mq, tupleS]
  · intro t ht
    simp at ht
    rcases ht with rfl | rfl | rfl | rfl <;> assumption
  · simp only [rgf, er, h1, h2, h3, h4]

theorem ring_4_1 (G : Gp p q g) {Os : List Int} (O : Orc q Os) {m : Int} (hm : 0 ≤ m) (hm2 : m < 100000) {t0 t1 t2 t3 : Int} (y0 y1 y2 y3 : Int) {d : Int} (kd : Ky q d) (ky : Ky q y1) (kt0 : Ky q t0) (kt1 : Ky q t1) (kt2 : Ky q t2) (kt3 : Ky q t3) : ∃ (s : Int) (ts : List Int),
    F_ring_sign [Gr p q g, oT Os, pT p q g [y0, y1, y2, y3], I 1, I y1, I m, I d, .val (.tup [.int t0, .int t1, .int t2, .int t3])] ta = some (.ok (.val (.tup [.int s, .tup (ts.map D.int)])), ta) ∧ Ky q s ∧ (∀ t ∈ ts, Ky q t) ∧ ts.length = 4 ∧ rgf p q g m Os [y0, y1, y2, y3] ts s = s := by
  obtain ⟨c1, h1⟩ : ∃ c, ask Os (X p q g d) m = c := ⟨_, rfl⟩
  have e1 := X_asked G O d hm hm2 (ta := ta)
  have k1 := O.ask_ky (X p q g d) m
  rw [h1] at e1 k1
  obtain ⟨c2, h2⟩ : ∃ c, ask Os (X p q g (t2 - y2 * c1)) m = c := ⟨_, rfl⟩
  have e2 := X_asked G O (t2 - y2 * c1) hm hm2 (ta := ta)
  have k2 := O.ask_ky (X p q g (t2 - y2 * c1)) m
  rw [h2] at e2 k2
  have u1 := X_pwg G kt2.1 (kt2.lt G) (ta := ta)
  have v1 := X_pw G y2 (ky_sub G k1).1 (ky_sub G k1).2 (ta := ta)
  obtain ⟨c3, h3⟩ : ∃ c, ask Os (X p q g (t3 - y3 * c2)) m = c := ⟨_, rfl⟩
  have e3 := X_asked G O (t3 - y3 * c2) hm hm2 (ta := ta)
  have k3 := O.ask_ky (X p q g (t3 - y3 * c2)) m
  rw [h3] at e3 k3
  have u2 := X_pwg G kt3.1 (kt3.lt G) (ta := ta)
  have v2 := X_pw G y3 (ky_sub G k2).1 (ky_sub G k2).2 (ta := ta)
  obtain ⟨c4, h4⟩ : ∃ c, ask Os (X p q g (t0 - y0 * c3)) m = c := ⟨_, rfl⟩
  have e4 := X_asked G O (t0 - y0 * c3) hm hm2 (ta := ta)
  have k4 := O.ask_ky (X p q g (t0 - y0 * c3)) m
  rw [h4] at e4 k4
  have u3 := X_pwg G kt0.1 (kt0.lt G) (ta := ta)
  have v3 := X_pw G y0 (ky_sub G k3).1 (ky_sub G k3).2 (ta := ta)
  have kr := mod_ky G (d + c4 * y1)
  obtain ⟨w, hw⟩ := divm q (d + c4 * y1)
  have er : X p q g ((d + c4 * y1) % q - y1 * c4) = X p q g d := by
    generalize (d + c4 * y1) % q = r at *
    exact X_cg (-w) (by grind)
  refine ⟨c3, [t0, (d + c4 * y1) % q, t2, t3], ?_, k3, ?_, rfl, ?_⟩
  · have cr := X_check_ring G [y0, y1, y2, y3] (by simp) (by simp) (ta := ta)
    have pu := X_public G ky (ta := ta)
    have ud := X_pwg G kd.1 (kd.lt G) (ta := ta)
    have qt0 := G.chk_key kt0 (ta := ta)
    have qt1 := G.chk_key kt1 (ta := ta)
    have qt2 := G.chk_key kt2 (ta := ta)
    have qt3 := G.chk_key kt3 (ta := ta)
    have mp := fun z => G.mp z
    have mq := fun z => G.mq z
    simp only [I, oT, pT, List.map_cons, List.map_nil] at cr pu ud mp mq qt0 qt1 qt2 qt3 e1 e2 e3 e4 u1 v1 u2 v2 u3 v3
    unfold F_ring_sign C_ring_sign
    rw [defF_ap]
    simp [X_oracle G O, cr, lenS, le_int, lt_int, pu, ne_int, X_message hm, G.chk_key kd, forL_cons, qt0, qt1, qt2, qt3, rep4, ud, listS, rgg4, add_int, mod_int, sub_int, mul_sm, X_sm G, mp, X_add G, X_first G, e1, e2, e3, e4, u1, v1, u2, v2, u3, v3, k4.sm G, ky.sm G, mq, tupleS]
  · intro t ht
    simp at ht
    rcases ht with rfl | rfl | rfl | rfl <;> assumption
  · simp only [rgf, er, h1, h2, h3, h4]

theorem ring_4_2 (G : Gp p q g) {Os : List Int} (O : Orc q Os) {m : Int} (hm : 0 ≤ m) (hm2 : m < 100000) {t0 t1 t2 t3 : Int} (y0 y1 y2 y3 : Int) {d : Int} (kd : Ky q d) (ky : Ky q y2) (kt0 : Ky q t0) (kt1 : Ky q t1) (kt2 : Ky q t2) (kt3 : Ky q t3) : ∃ (s : Int) (ts : List Int),
    F_ring_sign [Gr p q g, oT Os, pT p q g [y0, y1, y2, y3], I 2, I y2, I m, I d, .val (.tup [.int t0, .int t1, .int t2, .int t3])] ta = some (.ok (.val (.tup [.int s, .tup (ts.map D.int)])), ta) ∧ Ky q s ∧ (∀ t ∈ ts, Ky q t) ∧ ts.length = 4 ∧ rgf p q g m Os [y0, y1, y2, y3] ts s = s := by
  obtain ⟨c1, h1⟩ : ∃ c, ask Os (X p q g d) m = c := ⟨_, rfl⟩
  have e1 := X_asked G O d hm hm2 (ta := ta)
  have k1 := O.ask_ky (X p q g d) m
  rw [h1] at e1 k1
  obtain ⟨c2, h2⟩ : ∃ c, ask Os (X p q g (t3 - y3 * c1)) m = c := ⟨_, rfl⟩
  have e2 := X_asked G O (t3 - y3 * c1) hm hm2 (ta := ta)
  have k2 := O.ask_ky (X p q g (t3 - y3 * c1)) m
  rw [h2] at e2 k2
  have u1 := X_pwg G kt3.1 (kt3.lt G) (ta := ta)
  have v1 := X_pw G y3 (ky_sub G k1).1 (ky_sub G k1).2 (ta := ta)
  obtain ⟨c3, h3⟩ : ∃ c, ask Os (X p q g (t0 - y0 * c2)) m = c := ⟨_, rfl⟩
  have e3 := X_asked G O (t0 - y0 * c2) hm hm2 (ta := ta)
  have k3 := O.ask_ky (X p q g (t0 - y0 * c2)) m
  rw [h3] at e3 k3
  have u2 := X_pwg G kt0.1 (kt0.lt G) (ta := ta)
  have v2 := X_pw G y0 (ky_sub G k2).1 (ky_sub G k2).2 (ta := ta)
  obtain ⟨c4, h4⟩ : ∃ c, ask Os (X p q g (t1 - y1 * c3)) m = c := ⟨_, rfl⟩
  have e4 := X_asked G O (t1 - y1 * c3) hm hm2 (ta := ta)
  have k4 := O.ask_ky (X p q g (t1 - y1 * c3)) m
  rw [h4] at e4 k4
  have u3 := X_pwg G kt1.1 (kt1.lt G) (ta := ta)
  have v3 := X_pw G y1 (ky_sub G k3).1 (ky_sub G k3).2 (ta := ta)
  have kr := mod_ky G (d + c4 * y2)
  obtain ⟨w, hw⟩ := divm q (d + c4 * y2)
  have er : X p q g ((d + c4 * y2) % q - y2 * c4) = X p q g d := by
    generalize (d + c4 * y2) % q = r at *
    exact X_cg (-w) (by grind)
  refine ⟨c2, [t0, t1, (d + c4 * y2) % q, t3], ?_, k2, ?_, rfl, ?_⟩
  · have cr := X_check_ring G [y0, y1, y2, y3] (by simp) (by simp) (ta := ta)
    have pu := X_public G ky (ta := ta)
    have ud := X_pwg G kd.1 (kd.lt G) (ta := ta)
    have qt0 := G.chk_key kt0 (ta := ta)
    have qt1 := G.chk_key kt1 (ta := ta)
    have qt2 := G.chk_key kt2 (ta := ta)
    have qt3 := G.chk_key kt3 (ta := ta)
    have mp := fun z => G.mp z
    have mq := fun z => G.mq z
    simp only [I, oT, pT, List.map_cons, List.map_nil] at cr pu ud mp mq qt0 qt1 qt2 qt3 e1 e2 e3 e4 u1 v1 u2 v2 u3 v3
    unfold F_ring_sign C_ring_sign
    rw [defF_ap]
    simp [X_oracle G O, cr, lenS, le_int, lt_int, pu, ne_int, X_message hm, G.chk_key kd, forL_cons, qt0, qt1, qt2, qt3, rep4, ud, listS, rgg4, add_int, mod_int, sub_int, mul_sm, X_sm G, mp, X_add G, X_first G, e1, e2, e3, e4, u1, v1, u2, v2, u3, v3, k4.sm G, ky.sm G, mq, tupleS]
  · intro t ht
    simp at ht
    rcases ht with rfl | rfl | rfl | rfl <;> assumption
  · simp only [rgf, er, h1, h2, h3, h4]

theorem ring_4_3 (G : Gp p q g) {Os : List Int} (O : Orc q Os) {m : Int} (hm : 0 ≤ m) (hm2 : m < 100000) {t0 t1 t2 t3 : Int} (y0 y1 y2 y3 : Int) {d : Int} (kd : Ky q d) (ky : Ky q y3) (kt0 : Ky q t0) (kt1 : Ky q t1) (kt2 : Ky q t2) (kt3 : Ky q t3) : ∃ (s : Int) (ts : List Int),
    F_ring_sign [Gr p q g, oT Os, pT p q g [y0, y1, y2, y3], I 3, I y3, I m, I d, .val (.tup [.int t0, .int t1, .int t2, .int t3])] ta = some (.ok (.val (.tup [.int s, .tup (ts.map D.int)])), ta) ∧ Ky q s ∧ (∀ t ∈ ts, Ky q t) ∧ ts.length = 4 ∧ rgf p q g m Os [y0, y1, y2, y3] ts s = s := by
  obtain ⟨c1, h1⟩ : ∃ c, ask Os (X p q g d) m = c := ⟨_, rfl⟩
  have e1 := X_asked G O d hm hm2 (ta := ta)
  have k1 := O.ask_ky (X p q g d) m
  rw [h1] at e1 k1
  obtain ⟨c2, h2⟩ : ∃ c, ask Os (X p q g (t0 - y0 * c1)) m = c := ⟨_, rfl⟩
  have e2 := X_asked G O (t0 - y0 * c1) hm hm2 (ta := ta)
  have k2 := O.ask_ky (X p q g (t0 - y0 * c1)) m
  rw [h2] at e2 k2
  have u1 := X_pwg G kt0.1 (kt0.lt G) (ta := ta)
  have v1 := X_pw G y0 (ky_sub G k1).1 (ky_sub G k1).2 (ta := ta)
  obtain ⟨c3, h3⟩ : ∃ c, ask Os (X p q g (t1 - y1 * c2)) m = c := ⟨_, rfl⟩
  have e3 := X_asked G O (t1 - y1 * c2) hm hm2 (ta := ta)
  have k3 := O.ask_ky (X p q g (t1 - y1 * c2)) m
  rw [h3] at e3 k3
  have u2 := X_pwg G kt1.1 (kt1.lt G) (ta := ta)
  have v2 := X_pw G y1 (ky_sub G k2).1 (ky_sub G k2).2 (ta := ta)
  obtain ⟨c4, h4⟩ : ∃ c, ask Os (X p q g (t2 - y2 * c3)) m = c := ⟨_, rfl⟩
  have e4 := X_asked G O (t2 - y2 * c3) hm hm2 (ta := ta)
  have k4 := O.ask_ky (X p q g (t2 - y2 * c3)) m
  rw [h4] at e4 k4
  have u3 := X_pwg G kt2.1 (kt2.lt G) (ta := ta)
  have v3 := X_pw G y2 (ky_sub G k3).1 (ky_sub G k3).2 (ta := ta)
  have kr := mod_ky G (d + c4 * y3)
  obtain ⟨w, hw⟩ := divm q (d + c4 * y3)
  have er : X p q g ((d + c4 * y3) % q - y3 * c4) = X p q g d := by
    generalize (d + c4 * y3) % q = r at *
    exact X_cg (-w) (by grind)
  refine ⟨c1, [t0, t1, t2, (d + c4 * y3) % q], ?_, k1, ?_, rfl, ?_⟩
  · have cr := X_check_ring G [y0, y1, y2, y3] (by simp) (by simp) (ta := ta)
    have pu := X_public G ky (ta := ta)
    have ud := X_pwg G kd.1 (kd.lt G) (ta := ta)
    have qt0 := G.chk_key kt0 (ta := ta)
    have qt1 := G.chk_key kt1 (ta := ta)
    have qt2 := G.chk_key kt2 (ta := ta)
    have qt3 := G.chk_key kt3 (ta := ta)
    have mp := fun z => G.mp z
    have mq := fun z => G.mq z
    simp only [I, oT, pT, List.map_cons, List.map_nil] at cr pu ud mp mq qt0 qt1 qt2 qt3 e1 e2 e3 e4 u1 v1 u2 v2 u3 v3
    unfold F_ring_sign C_ring_sign
    rw [defF_ap]
    simp [X_oracle G O, cr, lenS, le_int, lt_int, pu, ne_int, X_message hm, G.chk_key kd, forL_cons, qt0, qt1, qt2, qt3, rep4, ud, listS, rgg4, add_int, mod_int, sub_int, mul_sm, X_sm G, mp, X_add G, X_first G, e1, e2, e3, e4, u1, v1, u2, v2, u3, v3, k4.sm G, ky.sm G, mq, tupleS]
  · intro t ht
    simp at ht
    rcases ht with rfl | rfl | rfl | rfl <;> assumption
  · simp only [rgf, er, h1, h2, h3, h4]

end
end MP.K57
namespace MP.K57
open PySem
/-! ### from shares to the secret, plain -/
section
variable {q : Int}
def tbf (q x : Int) : List Int → Int → Int → Int × Int
  | [], t, b => (t, b)
  | o :: l, t, b => if o = x then tbf q x l t b else tbf q x l (t * (0 - o) % q) (b * (x - o) % q)
def prT (x : Int) : List Int → Int
  | [] => 1
  | o :: l => if o = x then prT x l else (0 - o) * prT x l
def prB (x : Int) : List Int → Int
  | [] => 1
  | o :: l => if o = x then prB x l else (x - o) * prB x l
theorem tbf_spec (x : Int) : ∀ (l : List Int) (t b : Int), ∃ z w, (tbf q x l t b).1 = t * prT x l + q * z ∧ (tbf q x l t b).2 = b * prB x l + q * w
  | [], t, b => ⟨0, 0, by simp [tbf, prT], by simp [tbf, prB]⟩
  | o :: l, t, b => by
    by_cases h : o = x
    · obtain ⟨z, w, h1, h2⟩ := tbf_spec x l t b
      exact ⟨z, w, by simp [tbf, prT, h, h1], by simp [tbf, prB, h, h2]⟩
    · obtain ⟨z, w, h1, h2⟩ := tbf_spec x l (t * (0 - o) % q) (b * (x - o) % q)
      obtain ⟨k1, e1⟩ := divm q (t * (0 - o))
      obtain ⟨k2, e2⟩ := divm q (b * (x - o))
      simp only [tbf, prT, prB, if_neg h]
      rw [h1, h2]
      generalize (t * (0 - o)) % q = r1 at *
      generalize (b * (x - o)) % q = r2 at *
      exact ⟨z - k1 * prT x l, w - k2 * prB x l, by grind, by grind⟩
theorem tbf_ky (hq : 0 < q) (x : Int) : ∀ (l : List Int) (t b : Int), Ky q t → Ky q b → Ky q (tbf q x l t b).1 ∧ Ky q (tbf q x l t b).2
  | [], t, b, h1, h2 => ⟨h1, h2⟩
  | o :: l, t, b, h1, h2 => by
    by_cases h : o = x
    · simp only [tbf, if_pos h]; exact tbf_ky hq x l t b h1 h2
    · simp only [tbf, if_neg h]
      exact tbf_ky hq x l _ _ ⟨Int.emod_nonneg _ (by omega), Int.emod_lt_of_pos _ hq⟩ ⟨Int.emod_nonneg _ (by omega), Int.emod_lt_of_pos _ hq⟩
theorem mul_ne0 (P : Pr q) {a b : Int} (ha : a % q ≠ 0) (hb : b % q ≠ 0) : (a * b) % q ≠ 0 := fun h => (P.dom a b h).elim ha hb
theorem prB_ne (P : Pr q) (h1 : (1 : Int) % q ≠ 0) (x : Int) : ∀ l : List Int, (∀ o ∈ l, o ≠ x → (x - o) % q ≠ 0) → prB x l % q ≠ 0
  | [], _ => by simpa [prB] using h1
  | o :: l, h => by
    have ih := prB_ne P h1 x l fun y hy => h y (List.mem_cons_of_mem _ hy)
    by_cases e : o = x
    · simp only [prB, if_pos e]; exact ih
    · simp only [prB, if_neg e]; exact mul_ne0 P (h o List.mem_cons_self e) ih
def kf (q : Int) (pl : List Int) (x s : Int) : Int := s * (tbf q x pl 1 1).1 * iv q (tbf q x pl 1 1).2 % q
/-- one hand's part, times V -/
theorem kf_step (P : Pr q) (h1 : (1 : Int) % q ≠ 0) (pl : List Int) (x s sp V W : Int) (hn : ∀ o ∈ pl, o ≠ x → (x - o) % q ≠ 0) (hs : ∃ e, s = sp + q * e) (hV : V = W * prB x pl) : ∃ z, V * kf q pl x s = W * sp * prT x pl + q * z := by
  obtain ⟨t, b, h2, h3⟩ := tbf_spec (q := q) x pl 1 1
  have hB : (tbf q x pl 1 1).2 % q ≠ 0 := by
    rw [h3, Int.one_mul, Int.add_mul_emod_self_left]
    exact prB_ne P h1 x pl hn
  have hi := P.inv _ hB
  obtain ⟨e, he⟩ := hs
  unfold kf
  obtain ⟨w, hw⟩ := divm q ((tbf q x pl 1 1).2 * iv q (tbf q x pl 1 1).2)
  rw [hi] at hw
  obtain ⟨g, hg⟩ := divm q (s * (tbf q x pl 1 1).1 * iv q (tbf q x pl 1 1).2)
  generalize s * (tbf q x pl 1 1).1 * iv q (tbf q x pl 1 1).2 % q = k at *
  generalize iv q (tbf q x pl 1 1).2 = v at *
  generalize (tbf q x pl 1 1).1 = T at *
  generalize (tbf q x pl 1 1).2 = B at *
  generalize prT x pl = Tp at *
  generalize prB x pl = Bp at *
  refine ⟨W * (w * s * T - b * v * s * T - Bp * g + e * Tp + sp * t + q * e * t), ?_⟩
  grind
theorem lag_fin (P : Pr q) {V S c : Int} (hV : V % q ≠ 0) (h : ∃ z, V * S = V * c + q * z) : S % q = c % q := by
  obtain ⟨z, h⟩ := h
  have h2 : V * (S - c) % q = 0 := by
    have : V * (S - c) = q * z := by grind
    rw [this, Int.mul_emod_right]
  rcases P.dom _ _ h2 with k | k
  · exact absurd k hV
  · have : S = c + (S - c) := by omega
    rw [this, Int.add_emod, k, Int.add_zero, Int.emod_emod_of_dvd _ (Int.dvd_refl q)]
theorem lag1 (P : Pr q) (h1 : (1 : Int) % q ≠ 0) (x0 c0 : Int) (s0 : Int) (e0 : ∃ e, s0 = c0 + q * e) : (kf q [x0] x0 s0) % q = c0 % q := by
  obtain ⟨z0, h0⟩ := kf_step P h1 [x0] x0 s0 c0 1 1 (by simp) e0 (by simp [prB])
  refine lag_fin P (V := 1) h1 ⟨z0, ?_⟩
  rw [h0]
  simp [prT]
theorem lag2 (P : Pr q) (h1 : (1 : Int) % q ≠ 0) (x0 x1 c0 c1 : Int) (n01 : (x0 - x1) % q ≠ 0) (n10 : (x1 - x0) % q ≠ 0) (s0 s1 : Int)
    (e0 : ∃ e, s0 = c0 + c1 * x0 + q * e) (e1 : ∃ e, s1 = c0 + c1 * x1 + q * e) : (kf q [x0, x1] x0 s0 + kf q [x0, x1] x1 s1) % q = c0 % q := by
  have d01 : ¬ x0 = x1 := fun e => n01 (by rw [e, Int.sub_self, Int.zero_emod])
  have d10 : ¬ x1 = x0 := fun e => d01 e.symm
  obtain ⟨z0, h0⟩ := kf_step P h1 [x0, x1] x0 s0 (c0 + c1 * x0) (x0 - x1) 1 (by simp [d10, n01]) e0 (by simp [prB, d10])
  obtain ⟨z1, h2⟩ := kf_step P h1 [x0, x1] x1 s1 (c0 + c1 * x1) (x0 - x1) (-1) (by simp [d01, n10]) e1 (by simp [prB, d01]; try omega)
  refine lag_fin P (V := x0 - x1) n01 ⟨z0 + z1, ?_⟩
  rw [Int.mul_add, h0, h2]
  simp [prT, d01, d10]
  grind
theorem pv30 (x0 x1 x2 : Int) : (x0 - x1) * (x0 - x2) * (x1 - x2) = ((x1 - x2)) * ((x0 - x1) * ((x0 - x2) * 1)) := by grind
theorem pv31 (x0 x1 x2 : Int) : (x0 - x1) * (x0 - x2) * (x1 - x2) = (-((x0 - x2))) * ((x1 - x0) * ((x1 - x2) * 1)) := by grind
theorem pv32 (x0 x1 x2 : Int) : (x0 - x1) * (x0 - x2) * (x1 - x2) = ((x0 - x1)) * ((x2 - x0) * ((x2 - x1) * 1)) := by grind
theorem pf3 (q x0 x1 x2 c0 c1 c2 z0 z1 z2 : Int) : (((x1 - x2)) * (c0 + c1 * x0 + c2 * x0 * x0) * ((0 - x1) * ((0 - x2) * 1)) + q * z0) + ((-((x0 - x2))) * (c0 + c1 * x1 + c2 * x1 * x1) * ((0 - x0) * ((0 - x2) * 1)) + q * z1) + (((x0 - x1)) * (c0 + c1 * x2 + c2 * x2 * x2) * ((0 - x0) * ((0 - x1) * 1)) + q * z2) = (x0 - x1) * (x0 - x2) * (x1 - x2) * c0 + q * (z0 + z1 + z2) := by grind
theorem lag3 (P : Pr q) (h1 : (1 : Int) % q ≠ 0) (x0 x1 x2 c0 c1 c2 : Int) (n01 : (x0 - x1) % q ≠ 0) (n02 : (x0 - x2) % q ≠ 0) (n10 : (x1 - x0) % q ≠ 0) (n12 : (x1 - x2) % q ≠ 0) (n20 : (x2 - x0) % q ≠ 0) (n21 : (x2 - x1) % q ≠ 0) (s0 s1 s2 : Int)
    (e0 : ∃ e, s0 = c0 + c1 * x0 + c2 * x0 * x0 + q * e) (e1 : ∃ e, s1 = c0 + c1 * x1 + c2 * x1 * x1 + q * e) (e2 : ∃ e, s2 = c0 + c1 * x2 + c2 * x2 * x2 + q * e) : (kf q [x0, x1, x2] x0 s0 + kf q [x0, x1, x2] x1 s1 + kf q [x0, x1, x2] x2 s2) % q = c0 % q := by
  have d01 : ¬ x0 = x1 := fun e => n01 (by rw [e, Int.sub_self, Int.zero_emod])
  have d02 : ¬ x0 = x2 := fun e => n02 (by rw [e, Int.sub_self, Int.zero_emod])
  have d10 : ¬ x1 = x0 := fun e => n10 (by rw [e, Int.sub_self, Int.zero_emod])
  have d12 : ¬ x1 = x2 := fun e => n12 (by rw [e, Int.sub_self, Int.zero_emod])
  have d20 : ¬ x2 = x0 := fun e => n20 (by rw [e, Int.sub_self, Int.zero_emod])
  have d21 : ¬ x2 = x1 := fun e => n21 (by rw [e, Int.sub_self, Int.zero_emod])
  have b0 : prB x0 [x0, x1, x2] = ((x0 - x1) * ((x0 - x2) * 1)) := by simp only [prB, if_neg d10, if_neg d20, if_true]
  have t0 : prT x0 [x0, x1, x2] = ((0 - x1) * ((0 - x2) * 1)) := by simp only [prT, if_neg d10, if_neg d20, if_true]
  obtain ⟨z0, h10⟩ := kf_step P h1 [x0, x1, x2] x0 s0 (c0 + c1 * x0 + c2 * x0 * x0) ((x0 - x1) * (x0 - x2) * (x1 - x2)) ((x1 - x2)) (by simp [d10, d20, n01, n02]) e0 (by rw [b0]; exact pv30 x0 x1 x2)
  rw [t0] at h10
  have b1 : prB x1 [x0, x1, x2] = ((x1 - x0) * ((x1 - x2) * 1)) := by simp only [prB, if_neg d01, if_neg d21, if_true]
  have t1 : prT x1 [x0, x1, x2] = ((0 - x0) * ((0 - x2) * 1)) := by simp only [prT, if_neg d01, if_neg d21, if_true]
  obtain ⟨z1, h11⟩ := kf_step P h1 [x0, x1, x2] x1 s1 (c0 + c1 * x1 + c2 * x1 * x1) ((x0 - x1) * (x0 - x2) * (x1 - x2)) (-((x0 - x2))) (by simp [d01, d21, n10, n12]) e1 (by rw [b1]; exact pv31 x0 x1 x2)
  rw [t1] at h11
  have b2 : prB x2 [x0, x1, x2] = ((x2 - x0) * ((x2 - x1) * 1)) := by simp only [prB, if_neg d02, if_neg d12, if_true]
  have t2 : prT x2 [x0, x1, x2] = ((0 - x0) * ((0 - x1) * 1)) := by simp only [prT, if_neg d02, if_neg d12, if_true]
  obtain ⟨z2, h12⟩ := kf_step P h1 [x0, x1, x2] x2 s2 (c0 + c1 * x2 + c2 * x2 * x2) ((x0 - x1) * (x0 - x2) * (x1 - x2)) ((x0 - x1)) (by simp [d02, d12, n20, n21]) e2 (by rw [b2]; exact pv32 x0 x1 x2)
  rw [t2] at h12
  refine lag_fin P (V := (x0 - x1) * (x0 - x2) * (x1 - x2)) (mul_ne0 P (mul_ne0 P n01 n02) n12) ⟨z0 + z1 + z2, ?_⟩
  rw [Int.mul_add, Int.mul_add, h10, h11, h12]
  exact pf3 q x0 x1 x2 c0 c1 c2 z0 z1 z2
theorem pv40 (x0 x1 x2 x3 : Int) : (x0 - x1) * (x0 - x2) * (x0 - x3) * (x1 - x2) * (x1 - x3) * (x2 - x3) = ((x1 - x2) * (x1 - x3) * (x2 - x3)) * ((x0 - x1) * ((x0 - x2) * ((x0 - x3) * 1))) := by grind
theorem pv41 (x0 x1 x2 x3 : Int) : (x0 - x1) * (x0 - x2) * (x0 - x3) * (x1 - x2) * (x1 - x3) * (x2 - x3) = (-((x0 - x2) * (x0 - x3) * (x2 - x3))) * ((x1 - x0) * ((x1 - x2) * ((x1 - x3) * 1))) := by grind
theorem pv42 (x0 x1 x2 x3 : Int) : (x0 - x1) * (x0 - x2) * (x0 - x3) * (x1 - x2) * (x1 - x3) * (x2 - x3) = ((x0 - x1) * (x0 - x3) * (x1 - x3)) * ((x2 - x0) * ((x2 - x1) * ((x2 - x3) * 1))) := by grind
theorem pv43 (x0 x1 x2 x3 : Int) : (x0 - x1) * (x0 - x2) * (x0 - x3) * (x1 - x2) * (x1 - x3) * (x2 - x3) = (-((x0 - x1) * (x0 - x2) * (x1 - x2))) * ((x3 - x0) * ((x3 - x1) * ((x3 - x2) * 1))) := by grind
theorem pf4 (q x0 x1 x2 x3 c0 c1 c2 c3 z0 z1 z2 z3 : Int) : (((x1 - x2) * (x1 - x3) * (x2 - x3)) * (c0 + c1 * x0 + c2 * x0 * x0 + c3 * x0 * x0 * x0) * ((0 - x1) * ((0 - x2) * ((0 - x3) * 1))) + q * z0) + ((-((x0 - x2) * (x0 - x3) * (x2 - x3))) * (c0 + c1 * x1 + c2 * x1 * x1 + c3 * x1 * x1 * x1) * ((0 - x0) * ((0 - x2) * ((0 - x3) * 1))) + q * z1) + (((x0 - x1) * (x0 - x3) * (x1 - x3)) * (c0 + c1 * x2 + c2 * x2 * x2 + c3 * x2 * x2 * x2) * ((0 - x0) * ((0 - x1) * ((0 - x3) * 1))) + q * z2) + ((-((x0 - x1) * (x0 - x2) * (x1 - x2))) * (c0 + c1 * x3 + c2 * x3 * x3 + c3 * x3 * x3 * x3) * ((0 - x0) * ((0 - x1) * ((0 - x2) * 1))) + q * z3) = (x0 - x1) * (x0 - x2) * (x0 - x3) * (x1 - x2) * (x1 - x3) * (x2 - x3) * c0 + q * (z0 + z1 + z2 + z3) := by grind
theorem lag4 (P : Pr q) (h1 : (1 : Int) % q ≠ 0) (x0 x1 x2 x3 c0 c1 c2 c3 : Int) (n01 : (x0 - x1) % q ≠ 0) (n02 : (x0 - x2) % q ≠ 0) (n03 : (x0 - x3) % q ≠ 0) (n10 : (x1 - x0) % q ≠ 0) (n12 : (x1 - x2) % q ≠ 0) (n13 : (x1 - x3) % q ≠ 0) (n20 : (x2 - x0) % q ≠ 0) (n21 : (x2 - x1) % q ≠ 0) (n23 : (x2 - x3) % q ≠ 0) (n30 : (x3 - x0) % q ≠ 0) (n31 : (x3 - x1) % q ≠ 0) (n32 : (x3 - x2) % q ≠ 0) (s0 s1 s2 s3 : Int)
    (e0 : ∃ e, s0 = c0 + c1 * x0 + c2 * x0 * x0 + c3 * x0 * x0 * x0 + q * e) (e1 : ∃ e, s1 = c0 + c1 * x1 + c2 * x1 * x1 + c3 * x1 * x1 * x1 + q * e) (e2 : ∃ e, s2 = c0 + c1 * x2 + c2 * x2 * x2 + c3 * x2 * x2 * x2 + q * e) (e3 : ∃ e, s3 = c0 + c1 * x3 + c2 * x3 * x3 + c3 * x3 * x3 * x3 + q * e) : (kf q [x0, x1, x2, x3] x0 s0 + kf q [x0, x1, x2, x3] x1 s1 + kf q [x0, x1, x2, x3] x2 s2 + kf q [x0, x1, x2, x3] x3 s3) % q = c0 % q := by
  have d01 : ¬ x0 = x1 := fun e => n01 (by rw [e, Int.sub_self, Int.zero_emod])
  have d02 : ¬ x0 = x2 := fun e => n02 (by rw [e, Int.sub_self, Int.zero_emod])
  have d03 : ¬ x0 = x3 := fun e => n03 (by rw [e, Int.sub_self, Int.zero_emod])
  have d10 : ¬ x1 = x0 := fun e => n10 (by rw [e, Int.sub_self, Int.zero_emod])
  have d12 : ¬ x1 = x2 := fun e => n12 (by rw [e, Int.sub_self, Int.zero_emod])
  have d13 : ¬ x1 = x3 := fun e => n13 (by rw [e, Int.sub_self, Int.zero_emod])
  have d20 : ¬ x2 = x0 := fun e => n20 (by rw [e, Int.sub_self, Int.zero_emod])
  have d21 : ¬ x2 = x1 := fun e => n21 (by rw [e, Int.sub_self, Int.zero_emod])
  have d23 : ¬ x2 = x3 := fun e => n23 (by rw [e, Int.sub_self, Int.zero_emod])
  have d30 : ¬ x3 = x0 := fun e => n30 (by rw [e, Int.sub_self, Int.zero_emod])
  have d31 : ¬ x3 = x1 := fun e => n31 (by rw [e, Int.sub_self, Int.zero_emod])
  have d32 : ¬ x3 = x2 := fun e => n32 (by rw [e, Int.sub_self, Int.zero_emod])
  have b0 : prB x0 [x0, x1, x2, x3] = ((x0 - x1) * ((x0 - x2) * ((x0 - x3) * 1))) := by simp only [prB, if_neg d10, if_neg d20, if_neg d30, if_true]
  have t0 : prT x0 [x0, x1, x2, x3] = ((0 - x1) * ((0 - x2) * ((0 - x3) * 1))) := by simp only [prT, if_neg d10, if_neg d20, if_neg d30, if_true]
  obtain ⟨z0, h10⟩ := kf_step P h1 [x0, x1, x2, x3] x0 s0 (c0 + c1 * x0 + c2 * x0 * x0 + c3 * x0 * x0 * x0) ((x0 - x1) * (x0 - x2) * (x0 - x3) * (x1 - x2) * (x1 - x3) * (x2 - x3)) ((x1 - x2) * (x1 - x3) * (x2 - x3)) (by simp [d10, d20, d30, n01, n02, n03]) e0 (by rw [b0]; exact pv40 x0 x1 x2 x3)
  rw [t0] at h10
  have b1 : prB x1 [x0, x1, x2, x3] = ((x1 - x0) * ((x1 - x2) * ((x1 - x3) * 1))) := by simp only [prB, if_neg d01, if_neg d21, if_neg d31, if_true]
  have t1 : prT x1 [x0, x1, x2, x3] = ((0 - x0) * ((0 - x2) * ((0 - x3) * 1))) := by simp only [prT, if_neg d01, if_neg d21, if_neg d31, if_true]
  obtain ⟨z1, h11⟩ := kf_step P h1 [x0, x1, x2, x3] x1 s1 (c0 + c1 * x1 + c2 * x1 * x1 + c3 * x1 * x1 * x1) ((x0 - x1) * (x0 - x2) * (x0 - x3) * (x1 - x2) * (x1 - x3) * (x2 - x3)) (-((x0 - x2) * (x0 - x3) * (x2 - x3))) (by simp [d01, d21, d31, n10, n12, n13]) e1 (by rw [b1]; exact pv41 x0 x1 x2 x3)
  rw [t1] at h11
  have b2 : prB x2 [x0, x1, x2, x3] = ((x2 - x0) * ((x2 - x1) * ((x2 - x3) * 1))) := by simp only [prB, if_neg d02, if_neg d12, if_neg d32, if_true]
  have t2 : prT x2 [x0, x1, x2, x3] = ((0 - x0) * ((0 - x1) * ((0 - x3) * 1))) := by simp only [prT, if_neg d02, if_neg d12, if_neg d32, if_true]
  obtain ⟨z2, h12⟩ := kf_step P h1 [x0, x1, x2, x3] x2 s2 (c0 + c1 * x2 + c2 * x2 * x2 + c3 * x2 * x2 * x2) ((x0 - x1) * (x0 - x2) * (x0 - x3) * (x1 - x2) * (x1 - x3) * (x2 - x3)) ((x0 - x1) * (x0 - x3) * (x1 - x3)) (by simp [d02, d12, d32, n20, n21, n23]) e2 (by rw [b2]; exact pv42 x0 x1 x2 x3)
  rw [t2] at h12
  have b3 : prB x3 [x0, x1, x2, x3] = ((x3 - x0) * ((x3 - x1) * ((x3 - x2) * 1))) := by simp only [prB, if_neg d03, if_neg d13, if_neg d23, if_true]
  have t3 : prT x3 [x0, x1, x2, x3] = ((0 - x0) * ((0 - x1) * ((0 - x2) * 1))) := by simp only [prT, if_neg d03, if_neg d13, if_neg d23, if_true]
  obtain ⟨z3, h13⟩ := kf_step P h1 [x0, x1, x2, x3] x3 s3 (c0 + c1 * x3 + c2 * x3 * x3 + c3 * x3 * x3 * x3) ((x0 - x1) * (x0 - x2) * (x0 - x3) * (x1 - x2) * (x1 - x3) * (x2 - x3)) (-((x0 - x1) * (x0 - x2) * (x1 - x2))) (by simp [d03, d13, d23, n30, n31, n32]) e3 (by rw [b3]; exact pv43 x0 x1 x2 x3)
  rw [t3] at h13
  refine lag_fin P (V := (x0 - x1) * (x0 - x2) * (x0 - x3) * (x1 - x2) * (x1 - x3) * (x2 - x3)) (mul_ne0 P (mul_ne0 P (mul_ne0 P (mul_ne0 P (mul_ne0 P n01 n02) n03) n12) n13) n23) ⟨z0 + z1 + z2 + z3, ?_⟩
  rw [Int.mul_add, Int.mul_add, Int.mul_add, h10, h11, h12, h13]
  exact pf4 q x0 x1 x2 x3 c0 c1 c2 c3 z0 z1 z2 z3
end
end MP.K57

namespace MP.K57
open PySem
section
variable {p q g : Int} {ta : TapeO}
theorem sh_in (hq : 0 < q) (hq2 : q < 100) (z0 z1 z2 z3 z4 z5 z7 z9 : Sl) (ta : TapeO) {x : Int} (hx : Ky q x) : ∀ (l : List Int) (t b : Int) (z : Sl), (∀ o ∈ l, Ky q o) → Ky q t → Ky q b → ∃ z',
    forL (.one 12) (ifC (ofE (binE neS (varE 12) (varE 8))) (seqC (asgC 10 (binE modS (binE mulS (varE 10) (binE subS (cstE (.int 0)) (varE 12))) (varE 6)))
      (asgC 11 (binE modS (binE mulS (varE 11) (binE subS (varE 8) (varE 12))) (varE 6)))) skipC) (l.map D.int) [z0, z1, z2, z3, z4, z5, I q, z7, I x, z9, I t, I b, z] ta =
      some (.nx, [z0, z1, z2, z3, z4, z5, I q, z7, I x, z9, I (tbf q x l t b).1, I (tbf q x l t b).2, z'], ta)
  | [], t, b, z, _, _, _ => ⟨z, by simp [tbf]⟩
  | o :: l, t, b, z, hl, ht, hb => by
    have ho := hl o List.mem_cons_self
    have mq := fun i => @mod_int i q hq
    have sm : ∀ i : Int, Ky q i → Sm i := fun i h => ⟨by have := h.1; omega, by have := h.2; omega⟩
    have sd : Sm (0 - o) := ⟨by have := ho.2; omega, by have := ho.1; omega⟩
    have sd2 : Sm (x - o) := ⟨by have := ho.2; have := hx.1; omega, by have := ho.1; have := hx.2; omega⟩
    rw [List.map_cons, forL_cons]
    by_cases h : o = x
    · obtain ⟨z', ih⟩ := sh_in hq hq2 z0 z1 z2 z3 z4 z5 z7 z9 ta hx l t b (I o) (fun y hy => hl y (List.mem_cons_of_mem _ hy)) ht hb
      refine ⟨z', ?_⟩
      simp only [I] at ih ⊢
      simp [ne_int, h, tbf] at ih ⊢
      exact ih
    · obtain ⟨z', ih⟩ := sh_in hq hq2 z0 z1 z2 z3 z4 z5 z7 z9 ta hx l (t * (0 - o) % q) (b * (x - o) % q) (I o) (fun y hy => hl y (List.mem_cons_of_mem _ hy)) ⟨Int.emod_nonneg _ (by omega), Int.emod_lt_of_pos _ hq⟩ ⟨Int.emod_nonneg _ (by omega), Int.emod_lt_of_pos _ hq⟩
      refine ⟨z', ?_⟩
      have e1 : tbf q x (o :: l) t b = tbf q x l (t * (0 - o) % q) (b * (x - o) % q) := by simp only [tbf, if_neg h]
      rw [e1]
      simp only [I] at ih mq ⊢
      generalize hT : tbf q x l (t * (0 - o) % q) (b * (x - o) % q) = T at ih ⊢
      obtain ⟨a1, ha1⟩ : ∃ a, 0 - o = a := ⟨_, rfl⟩
      rw [ha1] at sd ih
      simp [ne_int, h, sub_int, ha1, mul_sm, sm t ht, sm b hb, sd, sd2, mq]
      simpa using ih
def kl (q : Int) (pl : List Int) : List Int → List Int → List Int
  | x :: xs, s :: ss => kf q pl x s :: kl q pl xs ss
  | _, _ => []
theorem sh_out (G : Gp p q g) (z1 z2 z4 z5 : Sl) (ta : TapeO) (pl : List Int) (hp : ∀ o ∈ pl, Ky q o) : ∀ (xs ss : List Int) (L : List Int) (z8 z9 z10 z11 z12 : Sl), xs.length = ss.length → (∀ o ∈ xs, Ky q o) → (∀ o ∈ ss, Ky q o) → L.length + xs.length < 1000 → ∃ w8 w9 w10 w11 w12,
    forL (.tup [8, 9]) (seqC (dropC (callF F_check_key [(varE 0), (varE 9)]))
      (seqC (unpC [10, 11] (tupE [(cstE (.int 1)), (cstE (.int 1))]))
      (seqC (forC (seqF (varE 3)) (.one 12) (ifC (ofE (binE neS (varE 12) (varE 8))) (seqC (asgC 10 (binE modS (binE mulS (varE 10) (binE subS (cstE (.int 0)) (varE 12))) (varE 6)))
      (asgC 11 (binE modS (binE mulS (varE 11) (binE subS (varE 8) (varE 12))) (varE 6)))) skipC))
      (appC 7 (binE modS (binE mulS (binE mulS (varE 9) (varE 10)) (callF F_power_in [(varE 6), (varE 11), (binE subS (varE 6) (cstE (.int 2)))])) (varE 6)))))) (zipD (xs.map D.int) (ss.map D.int))
      [Gr p q g, z1, z2, .val (.tup (pl.map D.int)), z4, z5, I q, .own (L.map D.int), z8, z9, z10, z11, z12] ta =
      some (.nx, [Gr p q g, z1, z2, .val (.tup (pl.map D.int)), z4, z5, I q, .own ((L ++ kl q pl xs ss).map D.int), w8, w9, w10, w11, w12], ta)
  | [], [], L, z8, z9, z10, z11, z12, _, _, _, _ => ⟨z8, z9, z10, z11, z12, by simp [kl, zipD]⟩
  | x :: xs, s :: ss, L, z8, z9, z10, z11, z12, hl, hx, hs, hL => by
    have q1 := G.q1
    have q2 := G.q2
    have kx := hx x List.mem_cons_self
    have ks := hs s List.mem_cons_self
    have k1 : Ky q 1 := ⟨by omega, by omega⟩
    obtain ⟨w, e⟩ := sh_in (q := q) (by omega) (by omega) (Gr p q g) z1 z2 (.val (.tup (pl.map D.int))) z4 z5 (.own (L.map D.int)) (I s) ta kx pl 1 1 z12 hp k1 k1
    obtain ⟨kt, kb⟩ := tbf_ky (q := q) (by omega) x pl 1 1 k1 k1
    obtain ⟨w8, w9, w10, w11, w12, ih⟩ := sh_out G z1 z2 z4 z5 ta pl hp xs ss (L ++ [kf q pl x s]) (I x) (I s) (I (tbf q x pl 1 1).1) (I (tbf q x pl 1 1).2) w (by simpa using hl) (fun y hy => hx y (List.mem_cons_of_mem _ hy)) (fun y hy => hs y (List.mem_cons_of_mem _ hy)) (by simp at hL ⊢; omega)
    refine ⟨w8, w9, w10, w11, w12, ?_⟩
    have pw := power_in_ok (p := q) (by omega) (by omega) (tbf q x pl 1 1).2 (q - 2) (by omega) ta
    have kd : kf q pl x s = s * (tbf q x pl 1 1).1 * ((tbf q x pl 1 1).2 ^ (q - 2).toNat % q) % q := rfl
    have ck := G.chk_key ks (ta := ta)
    have mq := fun z => G.mq z
    have LM : LIM = 16777216 := rfl
    have lL : L.length < LIM := by omega
    have sv : Sm ((tbf q x pl 1 1).2 ^ (q - 2).toNat % q) := G.smq _
    have sst : Sm (s * (tbf q x pl 1 1).1) := by
      have h1 : 0 ≤ s * (tbf q x pl 1 1).1 := Int.mul_nonneg ks.1 kt.1
      have h2 : s * (tbf q x pl 1 1).1 ≤ q * q := Int.mul_le_mul (Int.le_of_lt ks.2) (Int.le_of_lt kt.2) kt.1 (by omega)
      have h3 : q * q ≤ 64 * 64 := Int.mul_le_mul (by omega) (by omega) (by omega) (by omega)
      exact ⟨by omega, by omega⟩
    rw [List.append_assoc, show [kf q pl x s] ++ kl q pl xs ss = kl q pl (x :: xs) (s :: ss) from rfl] at ih
    rw [List.map_cons, List.map_cons, show zipD (.int x :: xs.map D.int) (.int s :: ss.map D.int) = .tup [.int x, .int s] :: zipD (xs.map D.int) (ss.map D.int) from rfl, forL_cons]
    generalize kl q pl (x :: xs) (s :: ss) = R at ih ⊢
    generalize kf q pl x s = kk at kd ih
    have smt := kt.sm G
    generalize tbf q x pl 1 1 = TB at *
    obtain ⟨T, B⟩ := TB
    simp only [I] at e ih pw ck mq ⊢
    simp at kd smt sst pw
    simp [ck, e, sub_int, pw, mul_sm, ks.sm G, smt, sst, sv, mq, ← kd, lL]
    simp at ih
    exact ih
  | [], _ :: _, _, _, _, _, _, _, h, _, _, _ => by simp at h
  | _ :: _, [], _, _, _, _, _, _, h, _, _, _ => by simp at h
theorem dis_comp (z : SE) (ta : TapeO) (h6 : z[6]? = some (I q)) (hn : z.length = 13) (hq : 0 < q) : ∀ (pl : List Int) (acc : List (L2.Key × D)), (∀ x ∈ pl, Ky q x) → pl.Nodup → (∀ e ∈ acc, ∀ x ∈ pl, e.1 ≠ Sum.inl x) →
    dcompL (.one 8) yesT (binE modS (varE 8) (varE 6)) (cstE (.bl true)) (pl.map D.int) z ta acc = some (acc ++ pl.map (fun x => (Sum.inl x, D.bl true)), ta)
  | [], acc, _, _, _ => by simp
  | x :: pl, acc, hk, nd, ha => by
    have kx := hk x List.mem_cons_self
    rw [List.nodup_cons] at nd
    have g6 : (z.set 8 (.val (.int x)))[6]? = some (I q) := by rw [List.getElem?_set_ne (by decide)]; exact h6
    have g8 : (z.set 8 (.val (.int x)))[8]? = some (.val (.int x)) := List.getElem?_set_self (by omega)
    have mq := fun i => @mod_int i q hq
    have ex : x % q = x := Int.emod_eq_of_lt kx.1 kx.2
    have pn : putD acc (Sum.inl x) (.bl true) = acc ++ [(Sum.inl x, .bl true)] := by
      unfold putD
      rw [if_neg]
      simp
      intro b hb
      exact ha _ hb x List.mem_cons_self rfl
    have ih := dis_comp z ta h6 hn hq pl (acc ++ [(Sum.inl x, .bl true)]) (fun y hy => hk y (List.mem_cons_of_mem _ hy)) nd.2 (fun e he y hy => by
      rcases List.mem_append.mp he with h | h
      · exact ha e h y (List.mem_cons_of_mem _ hy)
      · rw [List.mem_singleton] at h
        subst h
        intro hh
        have := Sum.inl.inj hh
        subst this
        exact nd.1 hy)
    simp only [I] at g6 mq
    rw [List.map_cons, dcompL_cons]
    simp [g6, g8, mq, ex, pn]
    rw [List.append_assoc] at ih
    simpa using ih
theorem nz_comp (z : SE) (ta : TapeO) (h6 : z[6]? = some (I q)) (hn : z.length = 13) (hq : 0 < q) : ∀ (pl : List Int), (∀ x ∈ pl, 1 ≤ x ∧ x < q) →
    compL (.one 8) yesT (binE eqS (binE modS (varE 8) (varE 6)) (cstE (.int 0))) (pl.map D.int) z ta = some ((pl.map fun _ => false).map D.bl, ta)
  | [], _ => rfl
  | x :: pl, hk => by
    have kx := hk x List.mem_cons_self
    have g6 : (z.set 8 (.val (.int x)))[6]? = some (I q) := by rw [List.getElem?_set_ne (by decide)]; exact h6
    have g8 : (z.set 8 (.val (.int x)))[8]? = some (.val (.int x)) := List.getElem?_set_self (by omega)
    have mq := fun i => @mod_int i q hq
    have ex : x % q = x := Int.emod_eq_of_lt (by omega) kx.2
    have nx : ¬ x = 0 := by omega
    have ih := nz_comp z ta h6 hn hq pl fun y hy => hk y (List.mem_cons_of_mem _ hy)
    simp only [I] at g6 mq
    rw [List.map_cons, compL_cons]
    simp [g6, g8, mq, ex, eq_int, nx] at ih ⊢
    exact ih
theorem any_false (l : List Int) : (l.map fun _ => false).any id = false := by simp
theorem kl_len {pl : List Int} : ∀ {xs ss : List Int}, xs.length = ss.length → (kl q pl xs ss).length = xs.length
  | [], [], _ => rfl
  | x :: xs, s :: ss, h => by simp [kl, kl_len (pl := pl) (xs := xs) (ss := ss) (by simpa using h)]
  | [], _ :: _, h => by simp at h
  | _ :: _, [], h => by simp at h
theorem kl_ky (hq : 0 < q) {pl : List Int} : ∀ {xs ss : List Int}, ∀ k ∈ kl q pl xs ss, Ky q k
  | [], _, k, h => by simp [kl] at h
  | _ :: _, [], k, h => by simp [kl] at h
  | x :: xs, s :: ss, k, h => by
    simp [kl] at h
    rcases h with h | h
    · rw [h]; exact ⟨Int.emod_nonneg _ (by omega), Int.emod_lt_of_pos _ hq⟩
    · exact kl_ky hq k h
theorem X_by_shares (G : Gp p q g) {Os : List Int} (O : Orc q Os) {m : Int} (hm : 0 ≤ m) (hm2 : m < 100000) (sh pl ds : List Int) (hs : ∀ s ∈ sh, Ky q s) (hp : ∀ x ∈ pl, 1 ≤ x ∧ x < q) (nd : pl.Nodup) (hd : ∀ d ∈ ds, Ky q d) (h1 : 1 ≤ pl.length) (h2 : pl.length ≤ 6) (hl : sh.length = pl.length) (hl2 : ds.length = pl.length) :
    F_by_shares [Gr p q g, oT Os, .val (.tup (sh.map D.int)), .val (.tup (pl.map D.int)), I m, .val (.tup (ds.map D.int))] ta =
      some (.ok (.val (pD (ask Os (X p q g ds.sum) m, (ds.sum + ask Os (X p q g ds.sum) m * (kl q pl pl sh).sum) % q))), ta) := by
  have q0 := G.q0
  have hk : ∀ x ∈ pl, Ky q x := fun x hx => ⟨by have := (hp x hx).1; omega, (hp x hx).2⟩
  obtain ⟨w8, w9, w10, w11, w12, e⟩ := sh_out G (oT Os) (.val (.tup (sh.map D.int))) (I m) (.val (.tup (ds.map D.int))) ta pl hk pl sh [] .un .un .un .un .un hl.symm hk hs (by simp; omega)
  rw [List.nil_append, List.map_nil] at e
  have dc := fun z h6 hn => dis_comp (q := q) z ta h6 hn q0 pl [] hk nd (fun e he => by cases he)
  have nc := fun z h6 hn => nz_comp (q := q) z ta h6 hn q0 pl hp
  have aw := any_own (pl.map fun _ => false)
  rw [any_false] at aw
  obtain ⟨bs, hbs⟩ : ∃ bs, (pl.map fun _ => false).map D.bl = bs := ⟨_, rfl⟩
  rw [hbs] at aw
  simp only [hbs] at nc
  obtain ⟨dk, hdk⟩ : ∃ dk, pl.map (fun x => ((Sum.inl x : L2.Key), D.bl true)) = dk := ⟨_, rfl⟩
  have dkl : dk.length = pl.length := by rw [← hdk]; simp
  simp only [hdk, List.nil_append] at dc
  have LM : LIM = 16777216 := rfl
  have pL : pl.length < LIM := by omega
  have tg := X_together G O hm hm2 (kl q pl pl sh) ds (kl_ky q0) hd (by rw [kl_len hl.symm]; exact h1) (by rw [kl_len hl.symm]; exact h2) (by rw [kl_len hl.symm]; exact hl2.symm) (ta := ta)
  have i1 : (1 : Int) ≤ pl.length := by omega
  have i2 : (pl.length : Int) ≤ 6 := by omega
  have i3 : (sh.length : Int) = pl.length := by omega
  have i4 : (ds.length : Int) = pl.length := by omega
  generalize kl q pl pl sh = KL at *
  unfold F_by_shares C_by_shares
  rw [defF_ap]
  simp only [I, oT, pD] at e tg dc nc ⊢
  simp [X_oracle G O, lenS, ne_int, i3, i4, le_int, i1, i2, pL, dc, dkl, nc, aw, zip_tup, e, tupleS, tg]
end
end MP.K57

namespace MP.K57
open PySem
section
variable {p q g : Int} {ta : TapeO}
theorem lp_loop (hq : 2 ≤ q) (hq2 : q < 100) {x : Int} (hx : Ky q x) (n : Sl) (ta : TapeO) : ∀ (m j : Nat) (z : Sl), ∃ z', forL (.one 4) (asgC 3 (binE modS (callE intS [(binE mulS (varE 3) (varE 1))]) (varE 0))) ((List.range' j m).map fun i => D.int (i : Nat)) [I q, I x, n, I (x ^ j % q), z] ta =
    some (.nx, [I q, I x, n, I (x ^ (j + m) % q), z'], ta)
  | 0, j, z => ⟨z, rfl⟩
  | m + 1, j, z => by
    obtain ⟨z', e⟩ := lp_loop hq hq2 hx n ta m (j + 1) (I j)
    refine ⟨z', ?_⟩
    have mq := fun i => @mod_int i q (by omega)
    have s1 : Sm (x ^ j % q) := Sm.emod (by omega) (by omega)
    have s2 : Sm x := ⟨by have := hx.1; omega, by have := hx.2; omega⟩
    have hs : (x ^ j % q * x) % q = x ^ (j + 1) % q := by
      rw [Int.pow_succ, Int.mul_emod, Int.emod_emod_of_dvd _ (Int.dvd_refl q), ← Int.mul_emod]
    rw [show j + 1 + m = j + (m + 1) by omega] at e
    rw [List.range'_succ, List.map_cons, forL_cons]
    simp only [I] at e mq ⊢
    simp [mul_sm, s1, s2, mq, hs]
    simpa using e
theorem X_lpow (hq : 2 ≤ q) (hq2 : q < 100) {x : Int} (hx : Ky q x) (j : Nat) (hj : j < 1000) : F__law_power [I q, I x, I (j : Nat)] ta = some (.ok (.val (.int (x ^ j % q))), ta) := by
  obtain ⟨z', e⟩ := lp_loop hq hq2 hx (I (j : Nat)) ta j 0 .un
  rw [Int.pow_zero, Int.emod_eq_of_lt (by decide) (by omega), Nat.zero_add] at e
  have rg := rg1_ok (j := (j : Int)) (by omega) (by omega)
  rw [Int.toNat_natCast] at rg
  unfold F__law_power C__law_power
  rw [defF_ap]
  simp only [I] at e
  simp [rg, e]
def evt (q x : Int) : Nat → List Int → List Int
  | _, [] => []
  | j, c :: cs => c * (x ^ j % q) :: evt q x (j + 1) cs
def evp (x : Int) : Nat → List Int → Int
  | _, [] => 0
  | j, c :: cs => c * x ^ j + evp x (j + 1) cs
theorem evt_sum (x : Int) : ∀ (cs : List Int) (j : Nat), ∃ z, (evt q x j cs).sum = evp x j cs + q * z
  | [], _ => ⟨0, by simp [evt, evp]⟩
  | c :: cs, j => by
    obtain ⟨z, h⟩ := evt_sum x cs (j + 1)
    obtain ⟨k, hk⟩ := divm q (x ^ j)
    refine ⟨z - c * k, ?_⟩
    simp only [evt, evp, List.sum_cons, h]
    generalize x ^ j % q = r at *
    generalize x ^ j = e at *
    grind
def vl (q : Int) (cs : List Int) (x : Int) : Int := (evt q x 0 cs).sum % q
def hh (q : Int) (one two : List Int) (x : Int) : Int := (vl q one x + vl q two x) % q
theorem hh_ky (hq : 0 < q) (one two : List Int) (x : Int) : Ky q (hh q one two x) := ⟨Int.emod_nonneg _ (by omega), Int.emod_lt_of_pos _ hq⟩
theorem hh_spec (one two : List Int) (x : Int) : ∃ e, hh q one two x = evp x 0 one + evp x 0 two + q * e := by
  obtain ⟨z1, h1⟩ := evt_sum (q := q) x one 0
  obtain ⟨z2, h2⟩ := evt_sum (q := q) x two 0
  unfold hh vl
  obtain ⟨k1, e1⟩ := divm q (evt q x 0 one).sum
  obtain ⟨k2, e2⟩ := divm q (evt q x 0 two).sum
  generalize (evt q x 0 one).sum % q = r1 at *
  generalize (evt q x 0 two).sum % q = r2 at *
  obtain ⟨k3, e3⟩ := divm q (r1 + r2)
  generalize (r1 + r2) % q = r3 at *
  exact ⟨z1 + z2 - k1 - k2 - k3, by grind⟩
theorem lagr (P : Pr q) (h1 : (1 : Int) % q ≠ 0) : ∀ (pl one two : List Int), one.length = pl.length → two.length = pl.length → 1 ≤ pl.length → pl.length ≤ 4 → pl.Pairwise (fun x y => (x - y) % q ≠ 0 ∧ (y - x) % q ≠ 0) →
    (kl q pl pl (pl.map (hh q one two))).sum % q = (one.headD 0 + two.headD 0) % q
  | [x0], [a0], [b0], _, _, _, _, _ => by
    obtain ⟨e, he⟩ := hh_spec (q := q) [a0] [b0] x0
    have := lag1 P h1 x0 (a0 + b0) (hh q [a0] [b0] x0) ⟨e, by rw [he]; simp [evp]⟩
    simpa [kl] using this
  | [x0, x1], [a0, a1], [b0, b1], _, _, _, _, hp => by
    obtain ⟨e0, h0⟩ := hh_spec (q := q) [a0, a1] [b0, b1] x0
    obtain ⟨e2, h2⟩ := hh_spec (q := q) [a0, a1] [b0, b1] x1
    simp at hp
    have := lag2 P h1 x0 x1 (a0 + b0) (a1 + b1) hp.1 hp.2 (hh q [a0, a1] [b0, b1] x0) (hh q [a0, a1] [b0, b1] x1) ⟨e0, by rw [h0]; simp [evp]; grind⟩ ⟨e2, by rw [h2]; simp [evp]; grind⟩
    simpa [kl] using this
  | [x0, x1, x2], [a0, a1, a2], [b0, b1, b2], _, _, _, _, hp => by
    obtain ⟨e0, h0⟩ := hh_spec (q := q) [a0, a1, a2] [b0, b1, b2] x0
    obtain ⟨e2, h2⟩ := hh_spec (q := q) [a0, a1, a2] [b0, b1, b2] x1
    obtain ⟨e3, h3⟩ := hh_spec (q := q) [a0, a1, a2] [b0, b1, b2] x2
    simp at hp
    obtain ⟨⟨⟨n01, n10⟩, n02, n20⟩, n12, n21⟩ := hp
    have := lag3 P h1 x0 x1 x2 (a0 + b0) (a1 + b1) (a2 + b2) n01 n02 n10 n12 n20 n21 (hh q [a0, a1, a2] [b0, b1, b2] x0) (hh q [a0, a1, a2] [b0, b1, b2] x1) (hh q [a0, a1, a2] [b0, b1, b2] x2)
      ⟨e0, by rw [h0]; simp [evp]; grind⟩ ⟨e2, by rw [h2]; simp [evp]; grind⟩ ⟨e3, by rw [h3]; simp [evp]; grind⟩
    simpa [kl, Int.add_assoc] using this
  | [x0, x1, x2, x3], [a0, a1, a2, a3], [b0, b1, b2, b3], _, _, _, _, hp => by
    obtain ⟨e0, h0⟩ := hh_spec (q := q) [a0, a1, a2, a3] [b0, b1, b2, b3] x0
    obtain ⟨e2, h2⟩ := hh_spec (q := q) [a0, a1, a2, a3] [b0, b1, b2, b3] x1
    obtain ⟨e3, h3⟩ := hh_spec (q := q) [a0, a1, a2, a3] [b0, b1, b2, b3] x2
    obtain ⟨e4, h4⟩ := hh_spec (q := q) [a0, a1, a2, a3] [b0, b1, b2, b3] x3
    simp at hp
    obtain ⟨⟨⟨n01, n10⟩, ⟨n02, n20⟩, n03, n30⟩, ⟨⟨n12, n21⟩, n13, n31⟩, n23, n32⟩ := hp
    have := lag4 P h1 x0 x1 x2 x3 (a0 + b0) (a1 + b1) (a2 + b2) (a3 + b3) n01 n02 n03 n10 n12 n13 n20 n21 n23 n30 n31 n32
      (hh q [a0, a1, a2, a3] [b0, b1, b2, b3] x0) (hh q [a0, a1, a2, a3] [b0, b1, b2, b3] x1) (hh q [a0, a1, a2, a3] [b0, b1, b2, b3] x2) (hh q [a0, a1, a2, a3] [b0, b1, b2, b3] x3)
      ⟨e0, by rw [h0]; simp [evp]; grind⟩ ⟨e2, by rw [h2]; simp [evp]; grind⟩ ⟨e3, by rw [h3]; simp [evp]; grind⟩ ⟨e4, by rw [h4]; simp [evp]; grind⟩
    simpa [kl, Int.add_assoc] using this
  | [], _, _, _, _, h, _, _ => by simp at h
  | _ :: _ :: _ :: _ :: _ :: _, _, _, _, _, _, h, _ => by simp at h
  | [_], [], _, h, _, _, _, _ => by simp at h
  | [_], _ :: _ :: _, _, h, _, _, _, _ => by simp at h
  | [_], [_], [], _, h, _, _, _ => by simp at h
  | [_], [_], _ :: _ :: _, _, h, _, _, _ => by simp at h
  | [_, _], [], _, h, _, _, _, _ => by simp at h
  | [_, _], [_], _, h, _, _, _, _ => by simp at h
  | [_, _], _ :: _ :: _ :: _, _, h, _, _, _, _ => by simp at h
  | [_, _], [_, _], [], _, h, _, _, _ => by simp at h
  | [_, _], [_, _], [_], _, h, _, _, _ => by simp at h
  | [_, _], [_, _], _ :: _ :: _ :: _, _, h, _, _, _ => by simp at h
  | [_, _, _], [], _, h, _, _, _, _ => by simp at h
  | [_, _, _], [_], _, h, _, _, _, _ => by simp at h
  | [_, _, _], [_, _], _, h, _, _, _, _ => by simp at h
  | [_, _, _], _ :: _ :: _ :: _ :: _, _, h, _, _, _, _ => by simp at h
  | [_, _, _], [_, _, _], [], _, h, _, _, _ => by simp at h
  | [_, _, _], [_, _, _], [_], _, h, _, _, _ => by simp at h
  | [_, _, _], [_, _, _], [_, _], _, h, _, _, _ => by simp at h
  | [_, _, _], [_, _, _], _ :: _ :: _ :: _ :: _, _, h, _, _, _ => by simp at h
  | [_, _, _, _], [], _, h, _, _, _, _ => by simp at h
  | [_, _, _, _], [_], _, h, _, _, _, _ => by simp at h
  | [_, _, _, _], [_, _], _, h, _, _, _, _ => by simp at h
  | [_, _, _, _], [_, _, _], _, h, _, _, _, _ => by simp at h
  | [_, _, _, _], _ :: _ :: _ :: _ :: _ :: _, _, h, _, _, _, _ => by simp at h
  | [_, _, _, _], [_, _, _, _], [], _, h, _, _, _ => by simp at h
  | [_, _, _, _], [_, _, _, _], [_], _, h, _, _, _ => by simp at h
  | [_, _, _, _], [_, _, _, _], [_, _], _, h, _, _, _ => by simp at h
  | [_, _, _, _], [_, _, _, _], [_, _, _], _, h, _, _, _ => by simp at h
  | [_, _, _, _], [_, _, _, _], _ :: _ :: _ :: _ :: _ :: _, _, h, _, _, _ => by simp at h
end
end MP.K57

namespace MP.K57
open PySem
section
variable {p q g : Int} {ta : TapeO}
def enJ (j : Nat) (cs : List Int) : List D := List.zipWith (fun (i : Nat) d => D.tup [.int (i : Int), d]) (List.range' j cs.length) (cs.map D.int)
theorem enum_is (cs : List Int) : enumD (cs.map D.int) = enJ 0 cs := by unfold enumD enJ; rw [List.length_map, List.range_eq_range']
theorem term_comp (hq : 2 ≤ q) (hq2 : q < 100) {x : Int} (hx : Ky q x) (ta : TapeO) : ∀ (cs : List Int) (j : Nat) (env : SE), (∀ c ∈ cs, Ky q c) → j + cs.length < 500 → env[3]? = some (I q) → env[35]? = some (I x) → env.length = 39 →
    compL (.tup [29, 36]) yesT (binE mulS (varE 36) (callF F__law_power [(varE 3), (varE 35), (varE 29)])) (enJ j cs) env ta = some ((evt q x j cs).map D.int, ta)
  | [], _, _, _, _, _, _, _ => rfl
  | c :: cs, j, env, hc, hj, h3, h35, hn => by
    have kc := hc c List.mem_cons_self
    have ih := term_comp hq hq2 hx ta cs (j + 1) env (fun y hy => hc y (List.mem_cons_of_mem _ hy)) (by simp at hj; omega) h3 h35 hn
    have g3 : ((env.set 29 (.val (.int (j : Nat)))).set 36 (.val (.int c)))[3]? = some (I q) := by rw [List.getElem?_set_ne (by decide), List.getElem?_set_ne (by decide)]; exact h3
    have g35 : ((env.set 29 (.val (.int (j : Nat)))).set 36 (.val (.int c)))[35]? = some (I x) := by rw [List.getElem?_set_ne (by decide), List.getElem?_set_ne (by decide)]; exact h35
    have g29 : ((env.set 29 (.val (.int (j : Nat)))).set 36 (.val (.int c)))[29]? = some (.val (.int (j : Nat))) := by rw [List.getElem?_set_ne (by decide), List.getElem?_set_self (by omega)]
    have g36 : ((env.set 29 (.val (.int (j : Nat)))).set 36 (.val (.int c)))[36]? = some (.val (.int c)) := List.getElem?_set_self (by simp; omega)
    have lp := X_lpow hq hq2 hx j (by simp at hj; omega) (ta := ta)
    have s1 : Sm (x ^ j % q) := Sm.emod (by omega) (by omega)
    have s2 : Sm c := ⟨by have := kc.1; omega, by have := kc.2; omega⟩
    rw [show enJ j (c :: cs) = .tup [.int (j : Nat), .int c] :: enJ (j + 1) cs by unfold enJ; rw [List.length_cons, List.range'_succ, List.map_cons, List.zipWith_cons_cons], compL_cons]
    simp only [I] at g3 g35 lp
    simp [g3, g35, g29, g36, lp, mul_sm, s1, s2, ih, evt]
theorem place_comp (hq : 2 ≤ q) (hq2 : q < 100) (cs : List Int) (hc : ∀ c ∈ cs, Ky q c) (hl : cs.length < 400) (ta : TapeO) : ∀ (pl : List Int) (env : SE), (∀ x ∈ pl, Ky q x) → env[3]? = some (I q) → env[34]? = some (.val (.tup (cs.map D.int))) → env.length = 39 →
    compL (.one 35) yesT (binE modS (callE intS [(callE sumAS [(compE (argI (enumS false) [(varE 34)]) [29, 36] (.tup [29, 36]) yesT (binE mulS (varE 36) (callF F__law_power [(varE 3), (varE 35), (varE 29)])))])]) (varE 3)) (pl.map D.int) env ta = some ((pl.map (vl q cs)).map D.int, ta)
  | [], _, _, _, _, _ => rfl
  | x :: pl, env, hx, h3, h34, hn => by
    have kx := hx x List.mem_cons_self
    have ih := place_comp hq hq2 cs hc hl ta pl env (fun y hy => hx y (List.mem_cons_of_mem _ hy)) h3 h34 hn
    have g3 : (env.set 35 (.val (.int x)))[3]? = some (I q) := by rw [List.getElem?_set_ne (by decide)]; exact h3
    have g34 : (env.set 35 (.val (.int x)))[34]? = some (.val (.tup (cs.map D.int))) := by rw [List.getElem?_set_ne (by decide)]; exact h34
    have w3 : (((env.set 35 (.val (.int x))).set 36 .un).set 29 .un)[3]? = some (I q) := by rw [List.getElem?_set_ne (by decide), List.getElem?_set_ne (by decide)]; exact g3
    have w35 : (((env.set 35 (.val (.int x))).set 36 .un).set 29 .un)[35]? = some (I x) := by rw [List.getElem?_set_ne (by decide), List.getElem?_set_ne (by decide), List.getElem?_set_self (by omega)]
    have tc := term_comp hq hq2 kx ta cs 0 (((env.set 35 (.val (.int x))).set 36 .un).set 29 .un) hc (by omega) w3 w35 (by simpa using hn)
    have so := sum_own (evt q x 0 cs)
    have LM : LIM = 16777216 := rfl
    have el : (enJ 0 cs).length < LIM := by unfold enJ; simp; omega
    have mq := fun i => @mod_int i q (by omega)
    generalize hE : (evt q x 0 cs).map D.int = E at tc so
    simp only [I] at g3 mq tc
    rw [List.map_cons, compL_cons]
    simp [g3, g34, enum_tup, enum_is, el, tc, so, mq]
    simp at ih
    exact ⟨ih, rfl⟩
theorem both_comp (a b : Int → Int) (ta : TapeO) (hq : 0 < q) : ∀ (pl : List Int) (env : SE), env[3]? = some (I q) → env.length = 39 →
    compL (.tup [37, 38]) yesT (binE modS (callE intS [(binE addS (varE 37) (varE 38))]) (varE 3)) (zipD ((pl.map a).map D.int) ((pl.map b).map D.int)) env ta = some ((pl.map fun x => (a x + b x) % q).map D.int, ta)
  | [], _, _, _ => rfl
  | x :: pl, env, h3, hn => by
    have ih := both_comp a b ta hq pl env h3 hn
    have g3 : ((env.set 37 (.val (.int (a x)))).set 38 (.val (.int (b x))))[3]? = some (I q) := by rw [List.getElem?_set_ne (by decide), List.getElem?_set_ne (by decide)]; exact h3
    have g37 : ((env.set 37 (.val (.int (a x)))).set 38 (.val (.int (b x))))[37]? = some (.val (.int (a x))) := by rw [List.getElem?_set_ne (by decide), List.getElem?_set_self (by omega)]
    have g38 : ((env.set 37 (.val (.int (a x)))).set 38 (.val (.int (b x))))[38]? = some (.val (.int (b x))) := List.getElem?_set_self (by simp; omega)
    have mq := fun i => @mod_int i q hq
    simp only [I] at g3 mq
    rw [show zipD (((x :: pl).map a).map D.int) (((x :: pl).map b).map D.int) = .tup [.int (a x), .int (b x)] :: zipD ((pl.map a).map D.int) ((pl.map b).map D.int) from rfl, compL_cons]
    simp at ih
    simp [g3, g37, g38, add_int, mq, ih]
theorem plus_comp (ta : TapeO) : ∀ (l : List Int) (env : SE), env.length = 39 → compL (.one 29) yesT (binE addS (varE 29) (cstE (.int 1))) (l.map D.int) env ta = some ((l.map (· + 1)).map D.int, ta)
  | [], _, _ => rfl
  | x :: l, env, hn => by
    have ih := plus_comp ta l env hn
    have g29 : (env.set 29 (.val (.int x)))[29]? = some (.val (.int x)) := List.getElem?_set_self (by omega)
    rw [List.map_cons, compL_cons]
    simp at ih
    simp [g29, add_int, ih]
theorem pub_comp (G : Gp p q g) (ta : TapeO) : ∀ (l : List Int) (env : SE), env[1]? = some (Gr p q g) → env[4]? = some (I g) → env.length = 39 → compL (.one 32) yesT (callF F_power [(varE 1), (varE 4), (varE 32)]) (l.map D.int) env ta = some ((l.map (X p q g)).map D.int, ta)
  | [], _, _, _, _ => rfl
  | x :: l, env, h1, h4, hn => by
    have ih := pub_comp G ta l env h1 h4 hn
    have g1 : (env.set 32 (.val (.int x)))[1]? = some (Gr p q g) := by rw [List.getElem?_set_ne (by decide)]; exact h1
    have g4 : (env.set 32 (.val (.int x)))[4]? = some (I g) := by rw [List.getElem?_set_ne (by decide)]; exact h4
    have g32 : (env.set 32 (.val (.int x)))[32]? = some (.val (.int x)) := List.getElem?_set_self (by omega)
    have pw := X_powerg G x (ta := ta)
    simp only [I] at g4 pw
    rw [List.map_cons, compL_cons]
    simp at ih
    simp [g1, g4, g32, pw, ih]
theorem right_comp (G : Gp p q g) (ta : TapeO) {A : Int} (hA : Ky q A) (T : Int) : ∀ (ks ds : List Int) (env : SE), ks.length = ds.length → env[1]? = some (Gr p q g) → env[4]? = some (I g) → env[16]? = some (.val (.tup [.int A, .int T])) → env.length = 39 →
    compL (.tup [32, 33]) yesT (notE (callF F_part_is_right [(varE 1), (callF F_power [(varE 1), (varE 4), (varE 32)]), (binE ixS (varE 33) (cstE (.int 0))), (binE ixS (varE 16) (cstE (.int 0))), (binE ixS (varE 33) (cstE (.int 1)))])) (zipD (ks.map D.int) ((PP p q g A ks ds).map pD)) env ta = some ((ks.map fun _ => false).map D.bl, ta)
  | [], [], _, _, _, _, _, _ => rfl
  | k :: ks, d :: ds, env, hl, h1, h4, h16, hn => by
    have ih := right_comp G ta hA T ks ds env (by simpa using hl) h1 h4 h16 hn
    obtain ⟨v, hv⟩ : ∃ v, v = pD (X p q g d, (d + A * k) % q) := ⟨_, rfl⟩
    have g1 : ((env.set 32 (.val (.int k))).set 33 (.val v))[1]? = some (Gr p q g) := by rw [List.getElem?_set_ne (by decide), List.getElem?_set_ne (by decide)]; exact h1
    have g4 : ((env.set 32 (.val (.int k))).set 33 (.val v))[4]? = some (I g) := by rw [List.getElem?_set_ne (by decide), List.getElem?_set_ne (by decide)]; exact h4
    have g16 : ((env.set 32 (.val (.int k))).set 33 (.val v))[16]? = some (.val (.tup [.int A, .int T])) := by rw [List.getElem?_set_ne (by decide), List.getElem?_set_ne (by decide)]; exact h16
    have g32 : ((env.set 32 (.val (.int k))).set 33 (.val v))[32]? = some (.val (.int k)) := by rw [List.getElem?_set_ne (by decide), List.getElem?_set_self (by omega)]
    have g33 : ((env.set 32 (.val (.int k))).set 33 (.val v))[33]? = some (.val v) := List.getElem?_set_self (by simp; omega)
    have pw := X_powerg G k (ta := ta)
    have pr := X_part G k d hA (mod_ky G (d + A * k)) (ta := ta)
    have e : X p q g ((d + A * k) % q) = X p q g (d + k * A) := by rw [X_mod, Int.mul_comm]
    rw [decide_eq_true e] at pr
    rw [show zipD ((k :: ks).map D.int) ((PP p q g A (k :: ks) (d :: ds)).map pD) = .tup [.int k, pD (X p q g d, (d + A * k) % q)] :: zipD (ks.map D.int) ((PP p q g A ks ds).map pD) from rfl, compL_cons, ← hv]
    simp only [I] at g4 pw pr
    simp only [pD] at hv
    subst hv
    simp at ih
    simp [g1, g4, g16, g32, g33, pw, pr, ih]
  | [], _ :: _, _, h, _, _, _, _ => by simp at h
  | _ :: _, [], _, h, _, _, _, _ => by simp at h
end
end MP.K57

namespace MP.K57
open PySem
def tailC : Cs :=
  (seqC (par2C 24 25 [(callE tupleS [(compE (seqI (varE 13)) [32] (.one 32) yesT (callF F_power [(varE 1), (varE 4), (varE 32)]))]), (callF F__law_take [(varE 0), (varE 12)])])
  (seqC (asgC 26 (callF F_ring_sign [(varE 1), (varE 5), (varE 24), (varE 25), (binE ixS (varE 13) (varE 25)), (varE 6), (varE 8), (callE tupleS [(callF F__law_some [(varE 0), (varE 3), (varE 12)])])]))
  (seqC (ifC (notT (ofE (callF F_is_ring_signed [(varE 1), (varE 5), (varE 24), (varE 6), (varE 26)]))) (retC (cstE (.bl false))) skipC)
  (seqC (parC 27 28 (binE ixS (varE 26) (cstE (.int 0))) (lstE []))
  (seqC (forC (argI rg1S [(varE 12)]) (.one 29) (seqC (appC 28 (varE 27))
  (asgC 27 (callF F_asked_of [(varE 1), (varE 5), (binE modS (binE mulS (callF F_power [(varE 1), (varE 4), (binE ixS (binE ixS (varE 26) (cstE (.int 1))) (varE 29))]) (callF F_power [(varE 1), (binE ixS (varE 24) (varE 29)), (binE subS (varE 3) (varE 27))])) (varE 2)), (varE 6)]))))
  (seqC (ifC (ofE (binE neS (varE 27) (binE ixS (varE 26) (cstE (.int 0))))) (retC (cstE (.bl false))) skipC)
  (seqC (forC (argI rg1S [(varE 12)]) (.one 30) (ifC (notT (ofE (callF F_is_ring_signed [(varE 1), (varE 5), (binE addS (slE (varE 24) (someP (varE 30)) noP) (slE (varE 24) noP (someP (varE 30)))), (varE 6), (tupE [(binE ixS (varE 28) (varE 30)), (binE addS (slE (binE ixS (varE 26) (cstE (.int 1))) (someP (varE 30)) noP) (slE (binE ixS (varE 26) (cstE (.int 1))) noP (someP (varE 30))))])]))) (retC (cstE (.bl false))) skipC))
  (seqC (asgC 31 (tupE [(binE ixS (varE 11) (cstE (.int 0))), (tupE [(binE ixS (varE 11) (cstE (.int 1)))])]))
  (retC (andE (callF F_is_ring_signed [(varE 1), (varE 5), (tupE [(varE 9)]), (varE 6), (varE 31)]) (andE (binE eqS (callF F_ring_sign [(varE 1), (varE 5), (tupE [(varE 9)]), (cstE (.int 0)), (varE 7), (varE 6), (varE 8), (tupE [(cstE (.int 0))])]) (varE 31)) (binE eqS (callE lenS [(callF F_members [(varE 1)])]) (varE 3)))))))))))))
def qC : Cs :=
  (ifC (ofE (binE gtS (varE 3) (varE 12))) (seqC (asgC 18 (callE tupleS [(compE (seqI (slE (callF F__law_order [(varE 0), (binE subS (varE 3) (cstE (.int 1)))]) noP (someP (varE 12)))) [29] (.one 29) yesT (binE addS (varE 29) (cstE (.int 1))))]))
  (seqC (par2C 19 20 [(callE tupleS [(callF F__law_some [(varE 0), (varE 3), (varE 12)])]), (callE tupleS [(callF F__law_some [(varE 0), (varE 3), (varE 12)])])])
  (seqC (asgC 21 (compE (seqI (tupE [(varE 19), (varE 20)])) [34] (.one 34) yesT (callE tupleS [(compE (seqI (varE 18)) [35] (.one 35) yesT (binE modS (callE intS [(callE sumAS [(compE (argI (enumS false) [(varE 34)]) [29, 36] (.tup [29, 36]) yesT (binE mulS (varE 36) (callF F__law_power [(varE 3), (varE 35), (varE 29)])))])]) (varE 3)))])))
  (seqC (asgC 22 (callE tupleS [(compE (argI (zipS false) [(binE ixS (varE 21) (cstE (.int 0))), (binE ixS (varE 21) (cstE (.int 1)))]) [37, 38] (.tup [37, 38]) yesT (binE modS (callE intS [(binE addS (varE 37) (varE 38))]) (varE 3)))]))
  (seqC (ifC (notT (ofE (callF F_is_signed [(varE 1), (varE 5), (callF F_power [(varE 1), (varE 4), (binE addS (binE ixS (varE 19) (cstE (.int 0))) (binE ixS (varE 20) (cstE (.int 0))))]), (varE 6), (callF F_by_shares [(varE 1), (varE 5), (varE 22), (varE 18), (varE 6), (varE 14)])]))) (retC (cstE (.bl false))) skipC)
  (seqC (asgC 23 (callF F__law_order [(varE 0), (varE 12)]))
  (ifC (ofE (binE neS (callF F_by_shares [(varE 1), (varE 5), (callF F__law_moved [(varE 22), (varE 23)]), (callF F__law_moved [(varE 18), (varE 23)]), (varE 6), (callF F__law_moved [(varE 14), (varE 23)])]) (callF F_by_shares [(varE 1), (varE 5), (varE 22), (varE 18), (varE 6), (varE 14)]))) (retC (cstE (.bl false))) skipC))))))) skipC)
section
variable {p q g : Int} {ta : TapeO}
theorem some_is : F__law_some = someF := rfl
theorem order_is : F__law_order = orderF := rfl
theorem moved_is : F__law_moved = movedF := rfl
def sqf (p q g m : Int) (Os : List Int) : List Int → List Int → Int → List Int
  | y :: ys, t :: ts, s => s :: sqf p q g m Os ys ts (ask Os (X p q g (t - y * s)) m)
  | _, _, _ => []
theorem sq_get {m : Int} {Os : List Int} : ∀ (ys ts : List Int) (s : Int) (j : Nat), ys.length = ts.length → j < ys.length → (sqf p q g m Os ys ts s)[j]? = some (rgf p q g m Os (ys.take j) (ts.take j) s)
  | y :: ys, t :: ts, s, 0, _, _ => by simp [sqf, rgf]
  | y :: ys, t :: ts, s, j + 1, h, hj => by
    have := sq_get (m := m) (Os := Os) ys ts (ask Os (X p q g (t - y * s)) m) j (by simpa using h) (by simpa using hj)
    simpa [sqf, rgf] using this
  | [], _, _, _, _, hj => by simp at hj
  | _ :: _, [], _, _, h, _ => by simp at h
theorem sq_len {m : Int} {Os : List Int} : ∀ (ys ts : List Int) (s : Int), ys.length = ts.length → (sqf p q g m Os ys ts s).length = ys.length
  | y :: ys, t :: ts, s, h => by simp [sqf, sq_len (m := m) (Os := Os) ys ts _ (by simpa using h)]
  | [], [], _, _ => by simp [sqf]
  | [], _ :: _, _, h => by simp at h
  | _ :: _, [], _, h => by simp at h
theorem ix_list (l : List Int) (j : Nat) (h : j < l.length) : ixS (.val (.tup (l.map D.int))) (.val (.int (j : Nat))) = some (.val (.int l[j])) := ix_at rfl (by omega) (by rw [Int.toNat_natCast, List.getElem?_map, List.getElem?_eq_getElem h]; rfl)
theorem ix_listB (l : List Int) (j : Nat) {v : Int} (h : l[j]? = some v) : ixS (.bor (l.map D.int)) (.val (.int (j : Nat))) = some (.val (.int v)) := ix_at rfl (by omega) (by rw [Int.toNat_natCast, List.getElem?_map, h]; rfl)
theorem ask_loop (G : Gp p q g) {Os : List Int} (O : Orc q Os) {m : Int} (hm : 0 ≤ m) (hm2 : m < 100000) (ys ts : List Int) (hl : ys.length = ts.length) (hn : ys.length < 100) (s0 : D) (ta : TapeO) : ∀ (k j : Nat) (s : Int) (L : List Int) (env : SE), j + k = ys.length → 1 ≤ k → L.length = j → env.length = 39 →
    env[1]? = some (Gr p q g) → env[2]? = some (I p) → env[3]? = some (I q) → env[4]? = some (I g) → env[5]? = some (oT Os) → env[6]? = some (I m) → env[24]? = some (pT p q g ys) → env[26]? = some (.val (.tup [s0, .tup (ts.map D.int)])) → env[27]? = some (I s) → env[28]? = some (.own (L.map D.int)) →
    forL (.one 29) (seqC (appC 28 (varE 27))
      (asgC 27 (callF F_asked_of [(varE 1), (varE 5), (binE modS (binE mulS (callF F_power [(varE 1), (varE 4), (binE ixS (binE ixS (varE 26) (cstE (.int 1))) (varE 29))]) (callF F_power [(varE 1), (binE ixS (varE 24) (varE 29)), (binE subS (varE 3) (varE 27))])) (varE 2)), (varE 6)]))) ((List.range' j k).map fun i => D.int (i : Nat)) env ta =
      some (.nx, ((env.set 29 (I ((j + k - 1 : Nat) : Int))).set 28 (.own ((L ++ sqf p q g m Os (ys.drop j) (ts.drop j) s).map D.int))).set 27 (I (rgf p q g m Os (ys.drop j) (ts.drop j) s)), ta)
  | 0, j, s, L, env, _, hk, _, _, _, _, _, _, _, _, _, _, _, _ => by omega
  | k + 1, j, s, L, env, h, hk, hL, hlen, e1, e2, e3, e4, e5, e6, e24, e26, e27, e28 => by
    have hj : j < ys.length := by omega
    have hj2 : j < ts.length := by omega
    have d1 : ys.drop j = ys[j] :: ys.drop (j + 1) := List.drop_eq_getElem_cons hj
    have d2 : ts.drop j = ts[j] :: ts.drop (j + 1) := List.drop_eq_getElem_cons hj2
    obtain ⟨y, hy⟩ : ∃ y, ys[j] = y := ⟨_, rfl⟩
    obtain ⟨t, ht⟩ : ∃ t, ts[j] = t := ⟨_, rfl⟩
    have x1 := ix_list ts j hj2
    rw [ht] at x1
    have x2 : ixS (pT p q g ys) (.val (.int (j : Nat))) = some (.val (.int (X p q g y))) := by
      have := ix_list (ys.map (X p q g)) j (by simpa using hj)
      rw [List.getElem_map, hy] at this
      exact this
    have w1 := X_powerg G t (ta := ta)
    have w2 := X_power G y (q - s) (ta := ta)
    have ak := X_asked G O (t - y * s) hm hm2 (ta := ta)
    have mp := fun z => G.mp z
    have LM : LIM = 16777216 := rfl
    have lL : L.length < LIM := by omega
    rw [d1, d2, hy, ht]
    have hsq : sqf p q g m Os (y :: ys.drop (j + 1)) (t :: ts.drop (j + 1)) s = s :: sqf p q g m Os (ys.drop (j + 1)) (ts.drop (j + 1)) (ask Os (X p q g (t - y * s)) m) := rfl
    have hrg : rgf p q g m Os (y :: ys.drop (j + 1)) (t :: ts.drop (j + 1)) s = rgf p q g m Os (ys.drop (j + 1)) (ts.drop (j + 1)) (ask Os (X p q g (t - y * s)) m) := rfl
    rw [hsq, hrg]
    generalize hn' : ask Os (X p q g (t - y * s)) m = s' at *
    have body : ∀ rest : Cs, kL ((seqC (appC 28 (varE 27))
      (asgC 27 (callF F_asked_of [(varE 1), (varE 5), (binE modS (binE mulS (callF F_power [(varE 1), (varE 4), (binE ixS (binE ixS (varE 26) (cstE (.int 1))) (varE 29))]) (callF F_power [(varE 1), (binE ixS (varE 24) (varE 29)), (binE subS (varE 3) (varE 27))])) (varE 2)), (varE 6)]))) (env.set 29 (I (j : Nat))) ta) rest = rest (((env.set 29 (I (j : Nat))).set 28 (.own ((L ++ [s]).map D.int))).set 27 (I s')) ta := fun rest => by
      have n27 : (env.set 29 (I (j : Nat)))[27]? = some (I s) := by rw [List.getElem?_set_ne (by decide)]; exact e27
      have n28 : (env.set 29 (I (j : Nat)))[28]? = some (.own (L.map D.int)) := by rw [List.getElem?_set_ne (by decide)]; exact e28
      have f : ∀ i, i ≠ 28 → i ≠ 29 → ((env.set 29 (I (j : Nat))).set 28 (.own (L.map D.int ++ [D.int s])))[i]? = env[i]? := fun i h1 h2 => by rw [List.getElem?_set_ne (Ne.symm h1), List.getElem?_set_ne (Ne.symm h2)]
      have f29 : ((env.set 29 (I (j : Nat))).set 28 (.own (L.map D.int ++ [D.int s])))[29]? = some (I (j : Nat)) := by rw [List.getElem?_set_ne (by decide), List.getElem?_set_self (by omega)]
      have g1 := f 1 (by decide) (by decide)
      have g2 := f 2 (by decide) (by decide)
      have g3 := f 3 (by decide) (by decide)
      have g4 := f 4 (by decide) (by decide)
      have g5 := f 5 (by decide) (by decide)
      have g6 := f 6 (by decide) (by decide)
      have g24 := f 24 (by decide) (by decide)
      have g26 := f 26 (by decide) (by decide)
      have g27 := f 27 (by decide) (by decide)
      rw [e1] at g1
      rw [e2] at g2
      rw [e3] at g3
      rw [e4] at g4
      rw [e5] at g5
      rw [e6] at g6
      rw [e24] at g24
      rw [e26] at g26
      rw [e27] at g27
      simp only [I, oT, pT] at n27 n28 f29 g1 g2 g3 g4 g5 g6 g24 g26 g27 x1 x2 w1 w2 ak mp
      generalize (ys.map (X p q g)).map D.int = Y at x2 g24
      simp [n27, n28, lL, f29, g1, g2, g3, g4, g5, g6, g24, g26, g27, x1, x2, w1, w2, sub_int, mul_sm, X_sm G, mp, X_add G, X_first G, ak]
    rw [List.range'_succ, List.map_cons, forL_cons]
    show kL _ _ = _
    rw [body]
    have F : ∀ i, i ≠ 27 → i ≠ 28 → i ≠ 29 → (((env.set 29 (I (j : Nat))).set 28 (.own ((L ++ [s]).map D.int))).set 27 (I s'))[i]? = env[i]? := fun i h0 h1 h2 => by
      rw [List.getElem?_set_ne (Ne.symm h0), List.getElem?_set_ne (Ne.symm h1), List.getElem?_set_ne (Ne.symm h2)]
    by_cases hk0 : k = 0
    · subst hk0
      have z1 : ys.drop (j + 1) = [] := List.drop_eq_nil_of_le (by omega)
      rw [z1]
      simp [sqf, rgf]
    · have ih := ask_loop G O hm hm2 ys ts hl hn s0 ta k (j + 1) s' (L ++ [s]) (((env.set 29 (I (j : Nat))).set 28 (.own ((L ++ [s]).map D.int))).set 27 (I s')) (by omega) (by omega) (by simp [hL]) (by simpa using hlen)
        (by rw [F 1 (by decide) (by decide) (by decide)]; exact e1) (by rw [F 2 (by decide) (by decide) (by decide)]; exact e2) (by rw [F 3 (by decide) (by decide) (by decide)]; exact e3) (by rw [F 4 (by decide) (by decide) (by decide)]; exact e4)
        (by rw [F 5 (by decide) (by decide) (by decide)]; exact e5) (by rw [F 6 (by decide) (by decide) (by decide)]; exact e6) (by rw [F 24 (by decide) (by decide) (by decide)]; exact e24) (by rw [F 26 (by decide) (by decide) (by decide)]; exact e26)
        (List.getElem?_set_self (by simp; omega)) (by rw [List.getElem?_set_ne (by decide), List.getElem?_set_self (by simp; omega)])
      rw [ih, List.append_assoc]
      congr 2
      rw [show j + 1 + k - 1 = j + (k + 1) - 1 by omega]
      congr 1
      rw [List.set_comm (i := 27) (j := 29) _ _ (by decide), List.set_comm (i := 28) (j := 29) _ _ (by decide), List.set_set, List.set_comm (i := 27) (j := 28) _ _ (by decide), List.set_set, List.set_set]
      rfl
end
end MP.K57

namespace MP.K57
open PySem
section
variable {p q g : Int} {ta : TapeO}
theorem add_tup (a b : List D) (h : a.length + b.length ≤ LIM) : addS (.val (.tup a)) (.val (.tup b)) = some (.val (.tup (a ++ b))) := by
  unfold addS
  simp [h]
theorem by_loop (G : Gp p q g) {Os : List Int} (O : Orc q Os) {m : Int} (hm : 0 ≤ m) (hm2 : m < 100000) (ys ts : List Int) (hl : ys.length = ts.length) (h1 : 1 ≤ ys.length) (h6 : ys.length ≤ 6) (ht : ∀ t ∈ ts, Ky q t) {s0 : Int} (ks : Ky q s0) (hc : rgf p q g m Os ys ts s0 = s0) (ta : TapeO) : ∀ (k j : Nat) (env : SE), j + k = ys.length → 1 ≤ k → env.length = 39 →
    env[1]? = some (Gr p q g) → env[5]? = some (oT Os) → env[6]? = some (I m) → env[24]? = some (pT p q g ys) → env[26]? = some (.val (.tup [.int s0, .tup (ts.map D.int)])) → env[28]? = some (.own ((sqf p q g m Os ys ts s0).map D.int)) →
    forL (.one 30) (ifC (notT (ofE (callF F_is_ring_signed [(varE 1), (varE 5), (binE addS (slE (varE 24) (someP (varE 30)) noP) (slE (varE 24) noP (someP (varE 30)))), (varE 6), (tupE [(binE ixS (varE 28) (varE 30)), (binE addS (slE (binE ixS (varE 26) (cstE (.int 1))) (someP (varE 30)) noP) (slE (binE ixS (varE 26) (cstE (.int 1))) noP (someP (varE 30))))])]))) (retC (cstE (.bl false))) skipC)
      ((List.range' j k).map fun i => D.int (i : Nat)) env ta = some (.nx, env.set 30 (I ((j + k - 1 : Nat) : Int)), ta)
  | 0, j, env, _, hk, _, _, _, _, _, _, _ => by omega
  | k + 1, j, env, h, hk, hlen, e1, e5, e6, e24, e26, e28 => by
    have hj : j < ys.length := by omega
    have LM : LIM = 16777216 := rfl
    have sg := sq_get (p := p) (q := q) (g := g) (m := m) (Os := Os) ys ts s0 j hl hj
    have xb := ix_listB (sqf p q g m Os ys ts s0) j sg
    have kj := rgf_ky (p := p) (g := g) (m := m) O (ys.take j) (ts.take j) s0 ks
    have rot : rgf p q g m Os (ys.drop j ++ ys.take j) (ts.drop j ++ ts.take j) (rgf p q g m Os (ys.take j) (ts.take j) s0) = rgf p q g m Os (ys.take j) (ts.take j) s0 := by
      have a := rgf_app (p := p) (q := q) (g := g) (m := m) (Os := Os) (ys.drop j) (ys.take j) (ts.drop j) (ts.take j) (rgf p q g m Os (ys.take j) (ts.take j) s0) (by simp [hl])
      have b := rgf_app (p := p) (q := q) (g := g) (m := m) (Os := Os) (ys.take j) (ys.drop j) (ts.take j) (ts.drop j) s0 (by simp [hl])
      rw [List.take_append_drop, List.take_append_drop, hc] at b
      rw [a, ← b]
    have ir := X_is_ring G O hm hm2 (ys.drop j ++ ys.take j) (ts.drop j ++ ts.take j) (s := rgf p q g m Os (ys.take j) (ts.take j) s0) (by simp; omega) (by simp; omega) (by simp [hl]) (fun t h => by
      rcases List.mem_append.mp h with h | h
      · exact ht t (List.mem_of_mem_drop h)
      · exact ht t (List.mem_of_mem_take h)) kj (ta := ta)
    rw [decide_eq_true rot] at ir
    have hnext : k = 0 ∨ forL (.one 30) (ifC (notT (ofE (callF F_is_ring_signed [(varE 1), (varE 5), (binE addS (slE (varE 24) (someP (varE 30)) noP) (slE (varE 24) noP (someP (varE 30)))), (varE 6), (tupE [(binE ixS (varE 28) (varE 30)), (binE addS (slE (binE ixS (varE 26) (cstE (.int 1))) (someP (varE 30)) noP) (slE (binE ixS (varE 26) (cstE (.int 1))) noP (someP (varE 30))))])]))) (retC (cstE (.bl false))) skipC)
      ((List.range' (j + 1) k).map fun i => D.int (i : Nat)) (env.set 30 (I (j : Nat))) ta = some (.nx, env.set 30 (I ((j + (k + 1) - 1 : Nat) : Int)), ta) := by
      by_cases hk0 : k = 0
      · exact .inl hk0
      · right
        have F : ∀ i, i ≠ 30 → (env.set 30 (I (j : Nat)))[i]? = env[i]? := fun i h => by rw [List.getElem?_set_ne (Ne.symm h)]
        have ih := by_loop G O hm hm2 ys ts hl h1 h6 ht ks hc ta k (j + 1) (env.set 30 (I (j : Nat))) (by omega) (by omega) (by simpa using hlen) (by rw [F 1 (by decide)]; exact e1) (by rw [F 5 (by decide)]; exact e5) (by rw [F 6 (by decide)]; exact e6)
          (by rw [F 24 (by decide)]; exact e24) (by rw [F 26 (by decide)]; exact e26) (by rw [F 28 (by decide)]; exact e28)
        rw [List.set_set, show j + 1 + k - 1 = j + (k + 1) - 1 by omega] at ih
        exact ih
    have eY : ((ys.drop j ++ ys.take j).map (X p q g)).map D.int = ((ys.map (X p q g)).map D.int).drop j ++ ((ys.map (X p q g)).map D.int).take j := by simp [List.map_drop, List.map_take]
    have eT : (ts.drop j ++ ts.take j).map D.int = (ts.map D.int).drop j ++ (ts.map D.int).take j := by simp [List.map_drop, List.map_take]
    have Yl : ((ys.map (X p q g)).map D.int).length = ys.length := by simp
    simp only [pT] at e24 ir
    rw [eY, eT] at ir
    generalize (ys.map (X p q g)).map D.int = Y at e24 ir Yl
    have c1 := cut_from Y (c := (j : Int)) (by omega) (by omega)
    have c2 := cut_to Y (c := (j : Int)) (by omega) (by omega)
    have c3 := cut_from (ts.map D.int) (c := (j : Int)) (by omega) (by simp; omega)
    have c4 := cut_to (ts.map D.int) (c := (j : Int)) (by omega) (by simp; omega)
    rw [Int.toNat_natCast] at c1 c2 c3 c4
    have a1 := add_tup (Y.drop j) (Y.take j) (by simp; omega)
    have a2 := add_tup ((ts.map D.int).drop j) ((ts.map D.int).take j) (by simp; omega)
    generalize rgf p q g m Os (ys.take j) (ts.take j) s0 = sj at *
    generalize (sqf p q g m Os ys ts s0).map D.int = SQ at *
    generalize ts.map D.int = TT at *
    have f : ∀ i, i ≠ 30 → (env.set 30 (I (j : Nat)))[i]? = env[i]? := fun i h => by rw [List.getElem?_set_ne (Ne.symm h)]
    have g1 := f 1 (by decide)
    have g5 := f 5 (by decide)
    have g6 := f 6 (by decide)
    have g24 := f 24 (by decide)
    have g26 := f 26 (by decide)
    have g28 := f 28 (by decide)
    rw [e1] at g1
    rw [e5] at g5
    rw [e6] at g6
    rw [e24] at g24
    rw [e26] at g26
    rw [e28] at g28
    have g30 : (env.set 30 (I (j : Nat)))[30]? = some (I (j : Nat)) := List.getElem?_set_self (by omega)
    simp only [I, oT] at g1 g5 g6 g24 g26 g28 g30 ir xb a1 a2
    rw [List.range'_succ, List.map_cons, forL_cons]
    rcases hnext with hk0 | hnext
    · subst hk0
      simp [g1, g5, g6, g24, g26, g28, g30, c1, c2, c3, c4, a1, a2, xb, ir]
    · simp only [I] at hnext
      simp [g1, g5, g6, g24, g26, g28, g30, c1, c2, c3, c4, a1, a2, xb, ir]
      simpa using hnext
end
end MP.K57

namespace MP.K57
open PySem
section
variable {p q g : Int} {ta : TapeO}
theorem X_ring_one (G : Gp p q g) {Os : List Int} (O : Orc q Os) {m : Int} (hm : 0 ≤ m) (hm2 : m < 100000) (y0 : Int) {d : Int} (kd : Ky q d) (ky : Ky q y0) :
    F_ring_sign [Gr p q g, oT Os, pT p q g [y0], I 0, I y0, I m, I d, .val (.tup [.int 0])] ta = some (.ok (.val (.tup [.int (ask Os (X p q g d) m), .tup [.int ((d + ask Os (X p q g d) m * y0) % q)]])), ta) := by
  have e1 := X_asked G O d hm hm2 (ta := ta)
  have k1 := O.ask_ky (X p q g d) m
  generalize ask Os (X p q g d) m = c1 at *
  have cr := X_check_ring G [y0] (by simp) (by simp) (ta := ta)
  have pu := X_public G ky (ta := ta)
  have ud := X_pwg G kd.1 (kd.lt G) (ta := ta)
  have kt0 : Ky q 0 := ⟨by omega, G.q0⟩
  have qt0 := G.chk_key kt0 (ta := ta)
  have mp := fun z => G.mp z
  have mq := fun z => G.mq z
  simp only [I, oT, pT, List.map_cons, List.map_nil] at cr pu ud mp mq qt0 e1
  unfold F_ring_sign C_ring_sign
  rw [defF_ap]
  simp [X_oracle G O, cr, lenS, le_int, lt_int, pu, ne_int, X_message hm, G.chk_key kd, forL_cons, qt0, rep1, ud, listS, rgg1, add_int, mod_int, sub_int, mul_sm, X_sm G, mp, X_add G, X_first G, e1, eq_int, k1.sm G, ky.sm G, mq, tupleS]
theorem X_ring_sign (G : Gp p q g) {Os : List Int} (O : Orc q Os) {m : Int} (hm : 0 ≤ m) (hm2 : m < 100000) {d : Int} (kd : Ky q d) : ∀ (ys ts0 : List Int), ys.length = ts0.length → 1 ≤ ys.length → ys.length ≤ 4 → (∀ y ∈ ys, Ky q y) → (∀ t ∈ ts0, Ky q t) → ∀ at_ : Int, 0 ≤ at_ → at_ < ys.length → ∃ (s : Int) (ts : List Int),
    F_ring_sign [Gr p q g, oT Os, pT p q g ys, I at_, I (ys.getD at_.toNat 0), I m, I d, .val (.tup (ts0.map D.int))] ta = some (.ok (.val (.tup [.int s, .tup (ts.map D.int)])), ta) ∧ Ky q s ∧ (∀ t ∈ ts, Ky q t) ∧ ts.length = ys.length ∧ rgf p q g m Os ys ts s = s
  | [y0], [t0], _, _, _, hy, ht, at_, h0, h1 => by
    simp at h1 hy ht
    have : at_ = 0 := by omega
    subst this
    exact ring_1_0 G O hm hm2 y0 kd hy ht
  | [y0, y1], [t0, t1], _, _, _, hy, ht, at_, h0, h1 => by
    simp at h1 hy ht
    have : at_ = 0 ∨ at_ = 1 := by omega
    obtain ⟨hy0, hy1⟩ := hy
    obtain ⟨ht0, ht1⟩ := ht
    rcases this with rfl | rfl
    · exact ring_2_0 G O hm hm2 y0 y1 kd hy0 ht0 ht1
    · exact ring_2_1 G O hm hm2 y0 y1 kd hy1 ht0 ht1
  | [y0, y1, y2], [t0, t1, t2], _, _, _, hy, ht, at_, h0, h1 => by
    simp at h1 hy ht
    have : at_ = 0 ∨ at_ = 1 ∨ at_ = 2 := by omega
    obtain ⟨hy0, hy1, hy2⟩ := hy
    obtain ⟨ht0, ht1, ht2⟩ := ht
    rcases this with rfl | rfl | rfl
    · exact ring_3_0 G O hm hm2 y0 y1 y2 kd hy0 ht0 ht1 ht2
    · exact ring_3_1 G O hm hm2 y0 y1 y2 kd hy1 ht0 ht1 ht2
    · exact ring_3_2 G O hm hm2 y0 y1 y2 kd hy2 ht0 ht1 ht2
  | [y0, y1, y2, y3], [t0, t1, t2, t3], _, _, _, hy, ht, at_, h0, h1 => by
    simp at h1 hy ht
    have : at_ = 0 ∨ at_ = 1 ∨ at_ = 2 ∨ at_ = 3 := by omega
    obtain ⟨hy0, hy1, hy2, hy3⟩ := hy
    obtain ⟨ht0, ht1, ht2, ht3⟩ := ht
    rcases this with rfl | rfl | rfl | rfl
    · exact ring_4_0 G O hm hm2 y0 y1 y2 y3 kd hy0 ht0 ht1 ht2 ht3
    · exact ring_4_1 G O hm hm2 y0 y1 y2 y3 kd hy1 ht0 ht1 ht2 ht3
    · exact ring_4_2 G O hm hm2 y0 y1 y2 y3 kd hy2 ht0 ht1 ht2 ht3
    · exact ring_4_3 G O hm hm2 y0 y1 y2 y3 kd hy3 ht0 ht1 ht2 ht3

  | [], _, _, h, _, _, _, _, _, _ => by simp at h
  | _ :: _ :: _ :: _ :: _ :: _, _, _, _, h, _, _, _, _, _ => by simp at h
  | [_], [], h, _, _, _, _, _, _, _ => by simp at h
  | [_], _ :: _ :: _, h, _, _, _, _, _, _, _ => by simp at h
  | [_, _], [], h, _, _, _, _, _, _, _ => by simp at h
  | [_, _], [_], h, _, _, _, _, _, _, _ => by simp at h
  | [_, _], _ :: _ :: _ :: _, h, _, _, _, _, _, _, _ => by simp at h
  | [_, _, _], [], h, _, _, _, _, _, _, _ => by simp at h
  | [_, _, _], [_], h, _, _, _, _, _, _, _ => by simp at h
  | [_, _, _], [_, _], h, _, _, _, _, _, _, _ => by simp at h
  | [_, _, _], _ :: _ :: _ :: _ :: _, h, _, _, _, _, _, _, _ => by simp at h
  | [_, _, _, _], [], h, _, _, _, _, _, _, _ => by simp at h
  | [_, _, _, _], [_], h, _, _, _, _, _, _, _ => by simp at h
  | [_, _, _, _], [_, _], h, _, _, _, _, _, _, _ => by simp at h
  | [_, _, _, _], [_, _, _], h, _, _, _, _, _, _, _ => by simp at h
  | [_, _, _, _], _ :: _ :: _ :: _ :: _ :: _, h, _, _, _, _, _, _, _ => by simp at h
theorem nxt (G : Gp p q g) {t : Tape} (T : TOk t) : ∃ (a : Int) (t' : Tape), Ky q a ∧ TOk t' ∧ takeF [.tape, .val (.int q)] (some t) = some (.ok (.val (.int a)), some t') := by
  obtain ⟨a, t', h0, h1, T', e⟩ := take_next (n := q) (by have := G.q1; omega) (by have := G.q2; omega) T
  exact ⟨a, t', ⟨h0, h1⟩, T', e⟩
theorem eq_self (d : D) (hn : d.ns = true) (h : d.py.depth ≤ 64) : eqS (.val d) (.val d) = some (.val (.bl true)) := by
  unfold eqS eqC
  simp only [Sl.dat?]
  rw [if_pos ⟨shaped_py d hn h, shaped_py d hn h⟩, eqv_self]
  rfl
theorem isnt_true {b : Bool} : isntBS (.val (.bl b)) (.val (.bl true)) = some (.val (.bl (!b))) := by cases b <;> rfl
def endsT (r : Option (Fl × SE × TapeO)) : Prop := ∃ env t, r = some (.rt (.val (.bl true)), env, some t)
theorem endsT_rt {b : Bool} {e : SE} {t : Tape} : endsT (some (.rt (.val (.bl b)), e, some t)) ↔ b = true := by
  constructor
  · rintro ⟨env, t, h⟩
    cases h; rfl
  · rintro rfl
    exact ⟨e, t, rfl⟩
theorem tail_ok (G : Gp p q g) {Os : List Int} (O : Orc q Os) {m : Int} (hm : 0 ≤ m) (hm2 : m < 100000) {x dr : Int} (kx : Ky q x) (kdr : Ky q dr) (ks ds : List Int) (hk : ∀ k ∈ ks, Ky q k) (h1 : 1 ≤ ks.length) (h4 : ks.length ≤ 4) (z14 z15 z16 z17 z18 z19 z20 z21 z22 z23 : Sl) {t : Tape} (T : TOk t) : 
    endsT (tailC [.tape, Gr p q g, I p, I q, I g, oT Os, I m, I x, I dr, I (X p q g x), I (X p q g dr), .val (.tup [.int (ask Os (X p q g dr) m), .int ((dr + ask Os (X p q g dr) m * x) % q)]), I (ks.length : Nat), .val (.tup (ks.map D.int)), z14, z15, z16, z17, z18, z19, z20, z21, z22, z23, .un, .un, .un, .un, .un, .un, .un, .un, .un, .un, .un, .un, .un, .un, .un] (some t)) := by
  have q1 := G.q1
  have q2 := G.q2
  have LM : LIM = 16777216 := rfl
  obtain ⟨a, t1, a0, a1, T1, e1⟩ := take_next (n := ((ks.length : Nat) : Int)) (by omega) (by omega) T
  obtain ⟨l0, t2, hl0, kl0, T2, e2⟩ := some_ok (n := q) (by omega) (by omega) (m := ((ks.length : Nat) : Int)) (by omega) (by omega) T1
  obtain ⟨s, ts, rs, kys, kts, tl, rc⟩ := X_ring_sign G O hm hm2 kdr ks l0 (by omega) h1 h4 hk kl0 a a0 a1 (ta := some t2)
  have ir := fun ta => X_is_ring G O hm hm2 ks ts h1 (by omega) tl.symm kts kys (ta := ta)
  simp only [decide_eq_true rc] at ir
  have pc := fun ta env h1 h4 hn => pub_comp G ta ks env h1 h4 hn
  have al := fun ta env => ask_loop G O hm hm2 ks ts tl.symm (by omega) (.int s) ta ks.length 0 s [] env (by omega) h1 rfl
  have bl := fun ta env => by_loop G O hm hm2 ks ts tl.symm h1 (by omega) kts kys rc ta ks.length 0 env (by omega) h1
  simp only [List.drop_zero, List.nil_append, Nat.zero_add, rc, List.map_nil] at al bl
  have xa : ixS (.val (.tup (ks.map D.int))) (I a) = some (I (ks.getD a.toNat 0)) := ix_at rfl a0 (by rw [List.getElem?_map, List.getElem?_eq_getElem (by omega), List.getD_eq_getElem?_getD, List.getElem?_eq_getElem (by omega)]; rfl)
  generalize ks.getD a.toNat 0 = v at xa rs
  have ak := O.ask_ky (X p q g dr) m
  have r1 := fun ta => X_ring_one G O hm hm2 x kdr kx (ta := ta)
  obtain ⟨T0, hT0⟩ : ∃ T0, (dr + ask Os (X p q g dr) m * x) % q = T0 := ⟨_, rfl⟩
  have kT0 : Ky q T0 := by rw [← hT0]; exact mod_ky G _
  have ral : rgf p q g m Os [x] [T0] (ask Os (X p q g dr) m) = ask Os (X p q g dr) m := by
    obtain ⟨w, hw⟩ := divm q (dr + ask Os (X p q g dr) m * x)
    rw [hT0] at hw
    have : X p q g (T0 - x * ask Os (X p q g dr) m) = X p q g dr := X_cg (-w) (by generalize ask Os (X p q g dr) m = A at *; grind)
    simp only [rgf, this]
  have ir1 := fun ta => X_is_ring G O hm hm2 [x] [T0] (by simp) (by simp) rfl (fun t ht => by rw [List.mem_singleton] at ht; rw [ht]; exact kT0) ak (ta := ta)
  simp only [decide_eq_true ral] at ir1
  have rg := rg1_ok (j := ((ks.length : Nat) : Int)) (by omega) (by omega)
  rw [Int.toNat_natCast] at rg
  have mm := fun ta => G.members (ta := ta)
  have ml : (((sortI (mems p q g)).length : Nat) : Int) = q := by
    rw [(sortI_perm _).length_eq]
    unfold mems
    simp
    omega
  have eq1 := eq_self (.tup [.int (ask Os (X p q g dr) m), .tup [.int T0]]) rfl (by simp [D.py, pys, PyData.depth, PyData.depthAll])
  have kL : ks.length < LIM := by omega
  rw [hT0]
  simp only [hT0] at r1
  generalize ask Os (X p q g dr) m = A0 at *
  simp only [I, oT, pT, List.map_cons, List.map_nil] at *
  obtain ⟨Y, hY⟩ : ∃ Y, (ks.map (X p q g)).map D.int = Y := ⟨_, rfl⟩
  simp only [hY] at *
  obtain ⟨SQ, hSQ⟩ : ∃ SQ, (sqf p q g m Os ks ts s).map D.int = SQ := ⟨_, rfl⟩
  simp only [hSQ] at *
  unfold tailC
  simp [take_is, some_is, pc, kL, tupleS, e1, xa, e2, rs, ir, rg, al, ne_int, bl, ir1, r1, eq1, mm, lenS, ml, eq_int, endsT_rt]
end
end MP.K57

namespace MP.K57
open PySem
def P1 : Cs :=
  (ifC (ofE (binE neS (callF F_together [(varE 1), (varE 5), (callF F__law_moved [(varE 13), (varE 17)]), (varE 6), (callF F__law_moved [(varE 14), (varE 17)])]) (tupE [(callF F__law_moved [(varE 15), (varE 17)]), (varE 16)]))) (retC (cstE (.bl false))) skipC)
def P2 : Cs :=
  (ifC (ofE (binE neS (varE 16) (callF F_sign [(varE 1), (varE 5), (binE modS (callE intS [(callE sumAS [(varE 13)])]) (varE 3)), (varE 6), (binE modS (callE intS [(callE sumAS [(varE 14)])]) (varE 3))]))) (retC (cstE (.bl false))) skipC)
def P3 : Cs :=
  (ifC (ofE (callE anyS [(compE (argI (zipS false) [(varE 13), (varE 15)]) [32, 33] (.tup [32, 33]) yesT (notE (callF F_part_is_right [(varE 1), (callF F_power [(varE 1), (varE 4), (varE 32)]), (binE ixS (varE 33) (cstE (.int 0))), (binE ixS (varE 16) (cstE (.int 0))), (binE ixS (varE 33) (cstE (.int 1)))])))])) (retC (cstE (.bl false))) skipC)
def P4 : Cs :=
  (ifC (orT (andT (ofE (binE ltS (varE 12) (cstE (.int 6)))) (ofE (binE neS (binE ixS (callF F_together [(varE 1), (varE 5), (binE addS (varE 13) (tupE [(cstE (.int 0))])), (varE 6), (binE addS (varE 14) (tupE [(cstE (.int 0))]))]) (cstE (.int 1))) (varE 16)))) (ofE (binE neS (callF F_together [(varE 1), (varE 5), (tupE [(varE 7)]), (varE 6), (tupE [(varE 8)])]) (tupE [(tupE [(tupE [(varE 10), (binE ixS (varE 11) (cstE (.int 1)))])]), (varE 11)])))) (retC (cstE (.bl false))) skipC)
def qB : Cs :=
  (seqC (asgC 18 (callE tupleS [(compE (seqI (slE (callF F__law_order [(varE 0), (binE subS (varE 3) (cstE (.int 1)))]) noP (someP (varE 12)))) [29] (.one 29) yesT (binE addS (varE 29) (cstE (.int 1))))]))
  (seqC (par2C 19 20 [(callE tupleS [(callF F__law_some [(varE 0), (varE 3), (varE 12)])]), (callE tupleS [(callF F__law_some [(varE 0), (varE 3), (varE 12)])])])
  (seqC (asgC 21 (compE (seqI (tupE [(varE 19), (varE 20)])) [34] (.one 34) yesT (callE tupleS [(compE (seqI (varE 18)) [35] (.one 35) yesT (binE modS (callE intS [(callE sumAS [(compE (argI (enumS false) [(varE 34)]) [29, 36] (.tup [29, 36]) yesT (binE mulS (varE 36) (callF F__law_power [(varE 3), (varE 35), (varE 29)])))])]) (varE 3)))])))
  (seqC (asgC 22 (callE tupleS [(compE (argI (zipS false) [(binE ixS (varE 21) (cstE (.int 0))), (binE ixS (varE 21) (cstE (.int 1)))]) [37, 38] (.tup [37, 38]) yesT (binE modS (callE intS [(binE addS (varE 37) (varE 38))]) (varE 3)))]))
  (seqC (ifC (notT (ofE (callF F_is_signed [(varE 1), (varE 5), (callF F_power [(varE 1), (varE 4), (binE addS (binE ixS (varE 19) (cstE (.int 0))) (binE ixS (varE 20) (cstE (.int 0))))]), (varE 6), (callF F_by_shares [(varE 1), (varE 5), (varE 22), (varE 18), (varE 6), (varE 14)])]))) (retC (cstE (.bl false))) skipC)
  (seqC (asgC 23 (callF F__law_order [(varE 0), (varE 12)]))
  (ifC (ofE (binE neS (callF F_by_shares [(varE 1), (varE 5), (callF F__law_moved [(varE 22), (varE 23)]), (callF F__law_moved [(varE 18), (varE 23)]), (varE 6), (callF F__law_moved [(varE 14), (varE 23)])]) (callF F_by_shares [(varE 1), (varE 5), (varE 22), (varE 18), (varE 6), (varE 14)]))) (retC (cstE (.bl false))) skipC)))))))
theorem part2_eq : C__law_part2 = seqC P1 (seqC P2 (seqC P3 (seqC P4 (seqC qC tailC)))) := rfl
theorem qC_eq : qC = ifC (ofE (binE gtS (varE 3) (varE 12))) qB skipC := rfl
section
variable {p q g : Int} {ta : TapeO}
/-! moved lists -/
def mvl {α : Type} (d : α) (l : List α) (ord : List Int) : List α := ord.map fun i => l.getD i.toNat d
theorem mvl_map {α : Type} (d : α) (f : α → D) (l : List α) (ord : List Int) (h : ∀ i ∈ ord, 0 ≤ i ∧ i < l.length) : (ord.map fun i => (l.map f).getD i.toNat .non) = (mvl d l ord).map f := by
  unfold mvl
  rw [List.map_map]
  refine List.map_congr_left fun i hi => ?_
  have := h i hi
  show (l.map f).getD i.toNat .non = f (l.getD i.toNat d)
  rw [List.getD_eq_getElem?_getD, List.getD_eq_getElem?_getD, List.getElem?_map, List.getElem?_eq_getElem (by omega)]
  rfl
theorem mvl_mem {α : Type} (d : α) (l : List α) (ord : List Int) (h : ∀ i ∈ ord, 0 ≤ i ∧ i < l.length) : ∀ x ∈ mvl d l ord, x ∈ l := fun x hx => by
  unfold mvl at hx
  obtain ⟨i, hi, rfl⟩ := List.mem_map.mp hx
  have := h i hi
  rw [List.getD_eq_getElem?_getD, List.getElem?_eq_getElem (by omega)]
  exact List.getElem_mem _
theorem mvl_PP (A : Int) (ks ds : List Int) (hl : ks.length = ds.length) (ord : List Int) (h : ∀ i ∈ ord, 0 ≤ i ∧ i < ks.length) : mvl (0, 0) (PP p q g A ks ds) ord = PP p q g A (mvl 0 ks ord) (mvl 0 ds ord) := by
  unfold mvl PP
  induction ord with
  | nil => rfl
  | cons i ord ih =>
    have hi := h i List.mem_cons_self
    have ih := ih fun j hj => h j (List.mem_cons_of_mem _ hj)
    rw [List.map_cons, List.map_cons, List.map_cons, List.zipWith_cons_cons, ih]
    congr 1
    rw [List.getD_eq_getElem?_getD, List.getD_eq_getElem?_getD, List.getD_eq_getElem?_getD, List.getElem?_zipWith, List.getElem?_eq_getElem (by omega), List.getElem?_eq_getElem (by omega)]
    rfl
theorem mvl_h (h : Int → Int) (pl : List Int) (ord : List Int) (ho : ∀ i ∈ ord, 0 ≤ i ∧ i < pl.length) : mvl 0 (pl.map h) ord = (mvl 0 pl ord).map h := by
  unfold mvl
  rw [List.map_map]
  refine List.map_congr_left fun i hi => ?_
  have := ho i hi
  show (pl.map h).getD i.toNat 0 = h (pl.getD i.toNat 0)
  rw [List.getD_eq_getElem?_getD, List.getD_eq_getElem?_getD, List.getElem?_map, List.getElem?_eq_getElem (by omega)]
  rfl
theorem PP_len {A : Int} {ks ds : List Int} (hl : ks.length = ds.length) : (PP p q g A ks ds).length = ks.length := by simp [PP, hl]
theorem dep_PP (L : List (Int × Int)) (e : Int × Int) : (D.tup [.tup (L.map pD), pD e]).py.depth ≤ 64 := Nat.le_trans (depth_tup (n := 2) fun d hd => by
  simp at hd
  rcases hd with rfl | rfl
  · exact depth_tup fun d hd => by
      obtain ⟨f, _, rfl⟩ := List.mem_map.mp hd
      exact depth_pD f
  · exact Nat.le_succ_of_le (depth_pD e)) (by decide)
theorem ns_PP (L : List (Int × Int)) (e : Int × Int) : (D.tup [.tup (L.map pD), pD e]).ns = true := by
  have h1 : nss (L.map pD) = true := nss_of fun d hd => by
    obtain ⟨f, _, rfl⟩ := List.mem_map.mp hd
    rfl
  simp [D.ns, nss, h1, pD]
theorem ne_PP (L : List (Int × Int)) (e : Int × Int) : neS (.val (.tup [.tup (L.map pD), pD e])) (.val (.tup [.tup (L.map pD), pD e])) = some (.val (.bl false)) := ne_self _ (ns_PP L e) (dep_PP L e)
theorem ne_pD (e : Int × Int) : neS (.val (pD e)) (.val (pD e)) = some (.val (.bl false)) := ne_self _ rfl (Nat.le_trans (depth_pD e) (by decide))
/-- the frame of _law_part2 -/
abbrev env2 (z0 z1 z2 z3 z4 z5 z6 z7 z8 z9 z10 z11 z12 z13 z14 z15 z16 z17 z18 z19 z20 z21 z22 z23 : Sl) : SE := [z0, z1, z2, z3, z4, z5, z6, z7, z8, z9, z10, z11, z12, z13, z14, z15, z16, z17, z18, z19, z20, z21, z22, z23, .un, .un, .un, .un, .un, .un, .un, .un, .un, .un, .un, .un, .un, .un, .un]
theorem P1_ok (G : Gp p q g) {Os : List Int} (O : Orc q Os) {m : Int} (hm : 0 ≤ m) (hm2 : m < 100000) (ks ds : List Int) (hk : ∀ k ∈ ks, Ky q k) (hd : ∀ d ∈ ds, Ky q d) (h1 : 1 ≤ ks.length) (h4 : ks.length ≤ 4) (hl : ks.length = ds.length) (ord : List Int) (ho : ord.Perm ((List.range' 0 ks.length).map fun i => (i : Nat))) (z0 z2 z3 z4 z7 z8 z9 z10 z11 z12 : Sl) :
    P1 (env2 z0 (Gr p q g) z2 z3 z4 (oT Os) (I m) z7 z8 z9 z10 z11 z12 (.val (.tup (ks.map D.int))) (.val (.tup (ds.map D.int))) (.val (.tup ((PP p q g (ask Os (X p q g ds.sum) m) ks ds).map pD))) (.val (pD (ask Os (X p q g ds.sum) m, (ds.sum + ask Os (X p q g ds.sum) m * ks.sum) % q))) (.val (.tup (ord.map D.int))) .un .un .un .un .un .un) ta =
      some (.nx, env2 z0 (Gr p q g) z2 z3 z4 (oT Os) (I m) z7 z8 z9 z10 z11 z12 (.val (.tup (ks.map D.int))) (.val (.tup (ds.map D.int))) (.val (.tup ((PP p q g (ask Os (X p q g ds.sum) m) ks ds).map pD))) (.val (pD (ask Os (X p q g ds.sum) m, (ds.sum + ask Os (X p q g ds.sum) m * ks.sum) % q))) (.val (.tup (ord.map D.int))) .un .un .un .un .un .un, ta) := by
  have om := ord_mem ho
  have ol : ord.length = ks.length := by have := ho.length_eq; simpa using this
  have om2 : ∀ i ∈ ord, 0 ≤ i ∧ i < (ds.length : Int) := fun i hi => by rw [← hl]; exact om i hi
  have p1 : (mvl 0 ks ord).Perm ks := ord_perm 0 ks ho
  have p2 : (mvl 0 ds ord).Perm ds := ord_perm 0 ds (by rw [← hl]; exact ho)
  have m1 := moved_ok (ks.map D.int) ord ta (by simpa using om) (by omega)
  rw [mvl_map 0 D.int ks ord om] at m1
  have m2 := moved_ok (ds.map D.int) ord ta (by simpa using om2) (by omega)
  rw [mvl_map 0 D.int ds ord om2] at m2
  have pl := PP_len (p := p) (q := q) (g := g) (A := ask Os (X p q g ds.sum) m) hl
  have om3 : ∀ i ∈ ord, 0 ≤ i ∧ i < ((PP p q g (ask Os (X p q g ds.sum) m) ks ds).length : Int) := fun i hi => by rw [pl]; exact om i hi
  have m3 := moved_ok ((PP p q g (ask Os (X p q g ds.sum) m) ks ds).map pD) ord ta (by simpa using om3) (by omega)
  rw [mvl_map (0, 0) pD _ ord om3, mvl_PP _ ks ds hl ord om] at m3
  have tg := X_together G O hm hm2 (mvl 0 ks ord) (mvl 0 ds ord) (fun k hk' => hk k (mvl_mem 0 ks ord om k hk')) (fun k hk' => hd k (mvl_mem 0 ds ord om2 k hk')) (by rw [p1.length_eq]; exact h1) (by rw [p1.length_eq]; omega) (by rw [p1.length_eq, p2.length_eq]; exact hl) (ta := ta)
  rw [perm_sum p1, perm_sum p2] at tg
  have ne := ne_PP (PP p q g (ask Os (X p q g ds.sum) m) (mvl 0 ks ord) (mvl 0 ds ord)) (ask Os (X p q g ds.sum) m, (ds.sum + ask Os (X p q g ds.sum) m * ks.sum) % q)
  generalize (PP p q g (ask Os (X p q g ds.sum) m) (mvl 0 ks ord) (mvl 0 ds ord)).map pD = R1 at *
  generalize (PP p q g (ask Os (X p q g ds.sum) m) ks ds).map pD = R2 at *
  generalize pD (ask Os (X p q g ds.sum) m, (ds.sum + ask Os (X p q g ds.sum) m * ks.sum) % q) = SG at *
  generalize (mvl 0 ks ord).map D.int = MK at *
  generalize (mvl 0 ds ord).map D.int = MD at *
  unfold P1
  simp only [I, oT, env2] at *
  simp [moved_is, m1, m2, m3, tg, ne]
theorem P2_ok (G : Gp p q g) {Os : List Int} (O : Orc q Os) {m : Int} (hm : 0 ≤ m) (hm2 : m < 100000) (ks ds : List Int) (z0 z2 z4 z7 z8 z9 z10 z11 z12 z15 z17 : Sl) :
    P2 (env2 z0 (Gr p q g) z2 (I q) z4 (oT Os) (I m) z7 z8 z9 z10 z11 z12 (.val (.tup (ks.map D.int))) (.val (.tup (ds.map D.int))) z15 (.val (pD (ask Os (X p q g ds.sum) m, (ds.sum + ask Os (X p q g ds.sum) m * ks.sum) % q))) z17 .un .un .un .un .un .un) ta =
      some (.nx, env2 z0 (Gr p q g) z2 (I q) z4 (oT Os) (I m) z7 z8 z9 z10 z11 z12 (.val (.tup (ks.map D.int))) (.val (.tup (ds.map D.int))) z15 (.val (pD (ask Os (X p q g ds.sum) m, (ds.sum + ask Os (X p q g ds.sum) m * ks.sum) % q))) z17 .un .un .un .un .un .un, ta) := by
  have sg := X_sign G O hm hm2 (mod_ky G ks.sum) (mod_ky G ds.sum) (ta := ta)
  rw [X_mod] at sg
  have e : (ds.sum % q + ask Os (X p q g ds.sum) m * (ks.sum % q)) % q = (ds.sum + ask Os (X p q g ds.sum) m * ks.sum) % q := by
    obtain ⟨k1, h1⟩ := divm q ds.sum
    obtain ⟨k2, h2⟩ := divm q ks.sum
    generalize ds.sum % q = a at *
    generalize ks.sum % q = b at *
    generalize ask Os (X p q g ds.sum) m = A at *
    have : ds.sum + A * ks.sum = a + A * b + q * (k1 + A * k2) := by grind
    rw [this, Int.add_mul_emod_self_left]
  rw [e] at sg
  have ne := ne_pD (ask Os (X p q g ds.sum) m, (ds.sum + ask Os (X p q g ds.sum) m * ks.sum) % q)
  have s1 := sum_ints ks
  have s2 := sum_ints ds
  have mq := fun z => G.mq z
  generalize ask Os (X p q g ds.sum) m = A at *
  unfold P2
  simp only [I, oT, env2, pD] at *
  simp [s1, s2, mq, sg, ne]
theorem P3_ok (G : Gp p q g) {A T : Int} (hA : Ky q A) (ks ds : List Int) (hl : ks.length = ds.length) (hL : ks.length < 1000) (z0 z2 z3 z5 z6 z7 z8 z9 z10 z11 z12 z14 z17 : Sl) :
    P3 (env2 z0 (Gr p q g) z2 z3 (I g) z5 z6 z7 z8 z9 z10 z11 z12 (.val (.tup (ks.map D.int))) z14 (.val (.tup ((PP p q g A ks ds).map pD))) (.val (pD (A, T))) z17 .un .un .un .un .un .un) ta =
      some (.nx, env2 z0 (Gr p q g) z2 z3 (I g) z5 z6 z7 z8 z9 z10 z11 z12 (.val (.tup (ks.map D.int))) z14 (.val (.tup ((PP p q g A ks ds).map pD))) (.val (pD (A, T))) z17 .un .un .un .un .un .un, ta) := by
  have rc := fun env h1 h4 h16 hn => right_comp G ta hA T ks ds env hl h1 h4 h16 hn
  have aw := any_own (ks.map fun _ => false)
  rw [any_false] at aw
  obtain ⟨bs, hbs⟩ : ∃ bs, (ks.map fun _ => false).map D.bl = bs := ⟨_, rfl⟩
  rw [hbs] at aw
  simp only [hbs] at rc
  have LM : LIM = 16777216 := rfl
  have pl := PP_len (p := p) (q := q) (g := g) (A := A) hl
  have zl : (zipD (ks.map D.int) ((PP p q g A ks ds).map pD)).length < LIM := by unfold zipD; simp [pl]; omega
  generalize (PP p q g A ks ds).map pD = R at *
  unfold P3
  simp only [I, env2, pD] at *
  simp [zip_tup, zl, rc, aw]
theorem P4_ok (G : Gp p q g) {Os : List Int} (O : Orc q Os) {m : Int} (hm : 0 ≤ m) (hm2 : m < 100000) {x dr : Int} (kx : Ky q x) (kdr : Ky q dr) (ks ds : List Int) (hk : ∀ k ∈ ks, Ky q k) (hd : ∀ d ∈ ds, Ky q d) (h1 : 1 ≤ ks.length) (h4 : ks.length ≤ 4) (hl : ks.length = ds.length) (z0 z2 z3 z4 z9 z15 z17 : Sl) :
    P4 (env2 z0 (Gr p q g) z2 z3 z4 (oT Os) (I m) (I x) (I dr) z9 (I (X p q g dr)) (.val (pD (ask Os (X p q g dr) m, (dr + ask Os (X p q g dr) m * x) % q))) (I (ks.length : Nat)) (.val (.tup (ks.map D.int))) (.val (.tup (ds.map D.int))) z15 (.val (pD (ask Os (X p q g ds.sum) m, (ds.sum + ask Os (X p q g ds.sum) m * ks.sum) % q))) z17 .un .un .un .un .un .un) ta =
      some (.nx, env2 z0 (Gr p q g) z2 z3 z4 (oT Os) (I m) (I x) (I dr) z9 (I (X p q g dr)) (.val (pD (ask Os (X p q g dr) m, (dr + ask Os (X p q g dr) m * x) % q))) (I (ks.length : Nat)) (.val (.tup (ks.map D.int))) (.val (.tup (ds.map D.int))) z15 (.val (pD (ask Os (X p q g ds.sum) m, (ds.sum + ask Os (X p q g ds.sum) m * ks.sum) % q))) z17 .un .un .un .un .un .un, ta) := by
  have k0 : Ky q 0 := ⟨by omega, G.q0⟩
  have t1 := X_together G O hm hm2 (ks ++ [0]) (ds ++ [0]) (fun k h => by
    rcases List.mem_append.mp h with h | h
    · exact hk k h
    · rw [List.mem_singleton] at h; rw [h]; exact k0) (fun k h => by
    rcases List.mem_append.mp h with h | h
    · exact hd k h
    · rw [List.mem_singleton] at h; rw [h]; exact k0) (by simp) (by simp; omega) (by simp [hl]) (ta := ta)
  have s1 : (ks ++ [0]).sum = ks.sum := by simp
  have s2 : (ds ++ [0]).sum = ds.sum := by simp
  rw [s1, s2] at t1
  have t2 := X_together G O hm hm2 [x] [dr] (fun k h => by rw [List.mem_singleton] at h; rw [h]; exact kx) (fun k h => by rw [List.mem_singleton] at h; rw [h]; exact kdr) (by simp) (by simp) rfl (ta := ta)
  have s3 : [x].sum = x := by simp
  have s4 : [dr].sum = dr := by simp
  rw [s3, s4] at t2
  have n1 := ne_pD (ask Os (X p q g ds.sum) m, (ds.sum + ask Os (X p q g ds.sum) m * ks.sum) % q)
  have n2 := ne_PP [(X p q g dr, (dr + ask Os (X p q g dr) m * x) % q)] (ask Os (X p q g dr) m, (dr + ask Os (X p q g dr) m * x) % q)
  have LM : LIM = 16777216 := rfl
  have a1 := add_tup (ks.map D.int) [.int 0] (by simp; omega)
  have a2 := add_tup (ds.map D.int) [.int 0] (by simp; omega)
  rw [show ks.map D.int ++ [D.int 0] = (ks ++ [0]).map D.int by simp] at a1
  rw [show ds.map D.int ++ [D.int 0] = (ds ++ [0]).map D.int by simp] at a2
  rw [show PP p q g (ask Os (X p q g dr) m) [x] [dr] = [(X p q g dr, (dr + ask Os (X p q g dr) m * x) % q)] from rfl] at t2
  have l6 : ((ks.length : Nat) : Int) < 6 := by omega
  generalize (PP p q g (ask Os (X p q g ds.sum) m) (ks ++ [0]) (ds ++ [0])).map pD = R1 at *
  generalize ask Os (X p q g ds.sum) m = A at *
  generalize ask Os (X p q g dr) m = A0 at *
  generalize (ks ++ [0]).map D.int = K0 at *
  generalize (ds ++ [0]).map D.int = D0 at *
  generalize (ds.sum + A * ks.sum) % q = TT at *
  generalize (dr + A0 * x) % q = T0 at *
  unfold P4
  simp only [I, oT, env2, pD, List.map_cons, List.map_nil] at *
  simp [lt_int, l6, a1, a2, t1, n1, t2, n2]
end
end MP.K57

namespace MP.K57
open PySem
section
variable {p q g : Int} {ta : TapeO}
/-! places -/
theorem pl_mem {ord : List Int} {n : Nat} (h : ord.Perm ((List.range' 0 n).map fun i => (i : Nat))) (k : Nat) : ∀ x ∈ (ord.take k).map (· + 1), 1 ≤ x ∧ x < (n : Int) + 1 := fun x hx => by
  obtain ⟨i, hi, rfl⟩ := List.mem_map.mp hx
  have := ord_mem h i (List.mem_of_mem_take hi)
  omega
theorem pl_nodup {ord : List Int} {n : Nat} (h : ord.Perm ((List.range' 0 n).map fun i => (i : Nat))) (k : Nat) : ((ord.take k).map (· + 1)).Nodup := by
  have h1 : ((List.range' 0 n).map fun i => ((i : Nat) : Int)).Nodup := by
    unfold List.Nodup
    rw [List.pairwise_map]
    exact (List.nodup_range' (step := 1)).imp fun h => by omega
  have h2 : ord.Nodup := h.nodup_iff.mpr h1
  have h3 : (ord.take k).Nodup := h2.sublist (List.take_sublist k ord)
  unfold List.Nodup at h3 ⊢
  rw [List.pairwise_map]
  exact h3.imp fun h => by omega
theorem pl_pair {pl : List Int} (hm : ∀ x ∈ pl, 1 ≤ x ∧ x < q) (nd : pl.Nodup) : pl.Pairwise (fun x y => (x - y) % q ≠ 0 ∧ (y - x) % q ≠ 0) := by
  unfold List.Nodup at nd
  refine List.Pairwise.imp_of_mem (fun {x y} hx hy hne => ?_) nd
  have hx := hm x hx
  have hy := hm y hy
  have key : ∀ a b : Int, 1 ≤ a → a < q → 1 ≤ b → b < q → (a - b) % q = 0 → a = b := fun a b h1 h2 h3 h4 h => by
    obtain ⟨k, hk⟩ := Int.dvd_of_emod_eq_zero h
    have hq : 0 < q := by omega
    have : k = 0 := by
      rcases Int.lt_trichotomy k 0 with z | z | z
      · have : q * k ≤ q * (-1) := Int.mul_le_mul_of_nonneg_left (by omega) (by omega)
        omega
      · exact z
      · have : q * 1 ≤ q * k := Int.mul_le_mul_of_nonneg_left (by omega) (by omega)
        omega
    subst this
    omega
  exact ⟨fun h => hne (key x y hx.1 hx.2 hy.1 hy.2 h), fun h => hne (key y x hy.1 hy.2 hx.1 hx.2 h).symm⟩
theorem ix_head (l : List Int) (h : 1 ≤ l.length) : ixS (.val (.tup (l.map D.int))) (.val (.int 0)) = some (.val (.int (l.headD 0))) := by
  cases l with
  | nil => simp at h
  | cons a l => exact ix_at rfl (by decide) rfl
theorem sg_arith (G : Gp p q g) (D A S y : Int) (h : S % q = y % q) : X p q g ((D + A * S) % q - y * A) = X p q g D := by
  obtain ⟨k1, h1⟩ := divm q (D + A * S)
  obtain ⟨k2, h2⟩ := divm q S
  obtain ⟨k3, h3⟩ := divm q y
  rw [h] at h2
  generalize (D + A * S) % q = r at *
  generalize y % q = s at *
  exact X_cg (A * (k2 - k3) - k1) (by grind)
theorem sg_same (D A S S' : Int) (h : S' % q = S % q) : (D + A * S') % q = (D + A * S) % q := by
  rw [Int.add_emod, Int.mul_emod, h, ← Int.mul_emod, ← Int.add_emod]
theorem two_lt : 2 < LIM := by have : LIM = 16777216 := rfl; omega
theorem qB_ok (G : Gp p q g) (P : Pr q) {Os : List Int} (O : Orc q Os) {m : Int} (hm : 0 ≤ m) (hm2 : m < 100000) (ks ds : List Int) (hd : ∀ d ∈ ds, Ky q d) (h1 : 1 ≤ ks.length) (h4 : ks.length ≤ 4) (hl : ks.length = ds.length) (hq : (ks.length : Int) < q) (z2 z7 z8 z9 z10 z11 z15 z16 z17 : Sl) {t : Tape} (T : TOk t) :
    ∃ w18 w19 w20 w21 w22 w23 t', TOk t' ∧ qB (env2 .tape (Gr p q g) z2 (I q) (I g) (oT Os) (I m) z7 z8 z9 z10 z11 (I (ks.length : Nat)) (.val (.tup (ks.map D.int))) (.val (.tup (ds.map D.int))) z15 z16 z17 .un .un .un .un .un .un) (some t) =
      some (.nx, env2 .tape (Gr p q g) z2 (I q) (I g) (oT Os) (I m) z7 z8 z9 z10 z11 (I (ks.length : Nat)) (.val (.tup (ks.map D.int))) (.val (.tup (ds.map D.int))) z15 z16 z17 w18 w19 w20 w21 w22 w23, some t') := by
  have q1 := G.q1
  have q2 := G.q2
  have q0 := G.q0
  have LM : LIM = 16777216 := rfl
  generalize hN : ks.length = N at *
  have dl : ds.length = N := hl.symm
  obtain ⟨od, t1, op, T1, e1⟩ := order_ok (n := q - 1) (by omega) (by omega) T
  obtain ⟨one, t2, l1, k1, T2, e2⟩ := some_ok (n := q) (by omega) (by omega) (m := ((N : Nat) : Int)) (by omega) (by omega) T1
  obtain ⟨two, t3, l2, k2, T3, e3⟩ := some_ok (n := q) (by omega) (by omega) (m := ((N : Nat) : Int)) (by omega) (by omega) T2
  obtain ⟨ord, t4, pp, T4, e4⟩ := order_ok (n := ((N : Nat) : Int)) (by omega) (by omega) T3
  rw [Int.toNat_natCast] at pp
  have ol : od.length = (q - 1).toNat := by have := op.length_eq; simpa using this
  have ll : ord.length = N := by have := pp.length_eq; simpa using this
  have oL : N ≤ od.length := by omega
  have ct := cut_to (od.map D.int) (c := (N : Int)) (by omega) (by simp; omega)
  rw [Int.toNat_natCast, ← List.map_take] at ct
  obtain ⟨pl, hpl⟩ : ∃ pl, (od.take N).map (· + 1) = pl := ⟨_, rfl⟩
  have pm : ∀ x ∈ pl, 1 ≤ x ∧ x < q := fun x hx => by
    have := pl_mem op N x (by rw [hpl]; exact hx)
    omega
  have pk : ∀ x ∈ pl, Ky q x := fun x hx => ⟨by have := (pm x hx).1; omega, (pm x hx).2⟩
  have pn : pl.Nodup := by rw [← hpl]; exact pl_nodup op N
  have pN : pl.length = N := by rw [← hpl]; simp; omega
  have plc := fun ta env hn => plus_comp ta (od.take N) env hn
  rw [hpl] at plc
  have tkl : (od.take N).length = N := by simp; omega
  have om : ∀ i ∈ ord, 0 ≤ i ∧ i < (N : Int) := ord_mem pp
  have om1 : ∀ i ∈ ord, 0 ≤ i ∧ i < (pl.length : Int) := fun i hi => by rw [pN]; exact om i hi
  have om2 : ∀ i ∈ ord, 0 ≤ i ∧ i < (ds.length : Int) := fun i hi => by rw [dl]; exact om i hi
  have p1 : (mvl 0 pl ord).Perm pl := ord_perm 0 pl (by rw [pN]; exact pp)
  have p2 : (mvl 0 ds ord).Perm ds := ord_perm 0 ds (by rw [dl]; exact pp)
  have pc1 := fun ta env h3 h34 hn => place_comp (by omega) (by omega) one k1 (by omega) ta pl env pk h3 h34 hn
  have pc2 := fun ta env h3 h34 hn => place_comp (by omega) (by omega) two k2 (by omega) ta pl env pk h3 h34 hn
  have bc := fun ta env h3 hn => both_comp (vl q one) (vl q two) ta q0 pl env h3 hn
  simp only [show (fun x => (vl q one x + vl q two x) % q) = hh q one two from rfl] at bc
  obtain ⟨h, hh⟩ : ∃ h, hh q one two = h := ⟨_, rfl⟩
  have hk : ∀ x, Ky q (h x) := fun x => by rw [← hh]; exact hh_ky q0 one two x
  have o1 : (1 : Int) % q ≠ 0 := by rw [Int.emod_eq_of_lt (by decide) (by omega)]; decide
  have lg1 := lagr P o1 pl one two (by omega) (by omega) (by omega) (by omega) (pl_pair pm pn)
  have pm' : ∀ x ∈ mvl 0 pl ord, 1 ≤ x ∧ x < q := fun x hx => pm x (p1.mem_iff.mp hx)
  have pn' : (mvl 0 pl ord).Nodup := p1.nodup_iff.mpr pn
  have pN' : (mvl 0 pl ord).length = N := by rw [p1.length_eq]; exact pN
  have dN' : (mvl 0 ds ord).length = N := by rw [p2.length_eq]; exact dl
  have lg2 := lagr P o1 (mvl 0 pl ord) one two (by omega) (by omega) (by omega) (by omega) (pl_pair pm' pn')
  rw [hh] at lg1 lg2
  simp only [hh] at bc
  have bs1 := fun ta => X_by_shares G O hm hm2 (pl.map h) pl ds (fun s hs => by obtain ⟨x, _, rfl⟩ := List.mem_map.mp hs; exact hk x) pm pn hd (by omega) (by omega) (by simp) (by omega) (ta := ta)
  have bs2 := fun ta => X_by_shares G O hm hm2 ((mvl 0 pl ord).map h) (mvl 0 pl ord) (mvl 0 ds ord) (fun s hs => by obtain ⟨x, _, rfl⟩ := List.mem_map.mp hs; exact hk x) pm' pn' (fun d hd' => hd d (p2.mem_iff.mp hd')) (by omega) (by omega) (by simp) (by omega) (ta := ta)
  simp only [perm_sum p2, sg_same _ _ _ _ (lg2.trans lg1.symm)] at bs2
  have A0 := O.ask_ky (X p q g ds.sum) m
  have is := fun ta => X_is_signed G O (one.headD 0 + two.headD 0) hm hm2 A0 (mod_ky G (ds.sum + ask Os (X p q g ds.sum) m * (kl q pl pl (pl.map h)).sum)) (ta := ta)
  simp only [sg_arith G ds.sum (ask Os (X p q g ds.sum) m) _ _ lg1] at is
  have pw := fun ta => X_powerg G (one.headD 0 + two.headD 0) (ta := ta)
  have x1 := ix_head one (by omega)
  have x2 := ix_head two (by omega)
  have m1 := fun ta => moved_ok ((pl.map h).map D.int) ord ta (by simpa using om1) (by omega)
  simp only [mvl_map 0 D.int (pl.map h) ord (by simpa using om1), mvl_h h pl ord om1] at m1
  have m2 := fun ta => moved_ok (pl.map D.int) ord ta (by simpa using om1) (by omega)
  simp only [mvl_map 0 D.int pl ord om1] at m2
  have m3 := fun ta => moved_ok (ds.map D.int) ord ta (by simpa using om2) (by omega)
  simp only [mvl_map 0 D.int ds ord om2] at m3
  have ne := ne_pD (ask Os (X p q g ds.sum) m, (ds.sum + ask Os (X p q g ds.sum) m * (kl q pl pl (pl.map h)).sum) % q)
  have zl : (zipD ((pl.map (vl q one)).map D.int) ((pl.map (vl q two)).map D.int)).length < LIM := by unfold zipD; simp; omega
  have pL : pl.length < LIM := by omega
  have tL : N < LIM := by omega
  generalize (ds.sum + ask Os (X p q g ds.sum) m * (kl q pl pl (pl.map h)).sum) % q = TT at *
  generalize ask Os (X p q g ds.sum) m = A at *
  generalize one.headD 0 = y1 at *
  generalize two.headD 0 = y2 at *
  generalize ((mvl 0 pl ord).map h).map D.int = M1 at *
  generalize (mvl 0 pl ord).map D.int = M2 at *
  generalize (mvl 0 ds ord).map D.int = M3 at *
  generalize hH : (pl.map h).map D.int = H at *
  generalize (pl.map (vl q one)).map D.int = V1 at *
  generalize (pl.map (vl q two)).map D.int = V2 at *
  obtain ⟨SL, hSL⟩ : ∃ SL, (od.take N).map D.int = SL := ⟨_, rfl⟩
  have SLl : SL.length = N := by rw [← hSL]; simp; omega
  simp only [hSL] at ct plc
  have PLl : (pl.map D.int).length = N := by simp [pN]
  generalize pl.map D.int = PL at *
  clear hpl tkl hH hh lg1 lg2
  simp only [I, oT, env2, pD] at *
  unfold qB
  refine ⟨.val (.tup PL), .val (.tup (one.map D.int)), .val (.tup (two.map D.int)), .own [.tup V1, .tup V2], .val (.tup H), .val (.tup (ord.map D.int)), t4, T4, ?_⟩
  simp [compL_cons, two_lt, pc1, pc2, PLl, zip_tup, zl, bc, x1, x2, pw, add_int, bs1, is, e4, m1, m2, m3, bs2, ne, order_is, some_is, moved_is, sub_int, e1, ct, SLl, tL, plc, tupleS, e2, e3]
end
end MP.K57

namespace MP.K57
open PySem
section
variable {p q g : Int} {ta : TapeO}
theorem part2_is : F__law_part2 = defF 39 C__law_part2 := rfl
theorem ends_kR {r : Option (Fl × SE × TapeO)} {t0 : Tape} (h : endsT r) : ∃ t, kR (some t0) r = some (.ok (.val (.bl true)), some t) := by
  obtain ⟨env, t, rfl⟩ := h
  exact ⟨t, rfl⟩
theorem part2_ok (G : Gp p q g) (P : Pr q) {Os : List Int} (O : Orc q Os) {m : Int} (hm : 0 ≤ m) (hm2 : m < 100000) {x dr : Int} (kx : Ky q x) (kdr : Ky q dr) (ks ds : List Int) (hk : ∀ k ∈ ks, Ky q k) (hd : ∀ d ∈ ds, Ky q d) (h1 : 1 ≤ ks.length) (h4 : ks.length ≤ 4) (hl : ks.length = ds.length) (ord : List Int) (ho : ord.Perm ((List.range' 0 ks.length).map fun i => (i : Nat))) {t : Tape} (T : TOk t) :
    ∃ t', F__law_part2 [.tape, Gr p q g, I p, I q, I g, oT Os, I m, I x, I dr, I (X p q g x), I (X p q g dr), .val (pD (ask Os (X p q g dr) m, (dr + ask Os (X p q g dr) m * x) % q)), I (ks.length : Nat), .val (.tup (ks.map D.int)), .val (.tup (ds.map D.int)), .val (.tup ((PP p q g (ask Os (X p q g ds.sum) m) ks ds).map pD)), .val (pD (ask Os (X p q g ds.sum) m, (ds.sum + ask Os (X p q g ds.sum) m * ks.sum) % q)), .val (.tup (ord.map D.int))] (some t) = some (.ok (.val (.bl true)), some t') := by
  rw [part2_is, defF_ap, part2_eq]
  refine ends_kR ?_
  show endsT (seqC P1 (seqC P2 (seqC P3 (seqC P4 (seqC qC tailC)))) (env2 .tape (Gr p q g) (I p) (I q) (I g) (oT Os) (I m) (I x) (I dr) (I (X p q g x)) (I (X p q g dr)) (.val (pD (ask Os (X p q g dr) m, (dr + ask Os (X p q g dr) m * x) % q))) (I (ks.length : Nat)) (.val (.tup (ks.map D.int))) (.val (.tup (ds.map D.int))) (.val (.tup ((PP p q g (ask Os (X p q g ds.sum) m) ks ds).map pD))) (.val (pD (ask Os (X p q g ds.sum) m, (ds.sum + ask Os (X p q g ds.sum) m * ks.sum) % q))) (.val (.tup (ord.map D.int))) .un .un .un .un .un .un) (some t))
  rw [seqC_ap, P1_ok G O hm hm2 ks ds hk hd h1 h4 hl ord ho, kQ_nx, seqC_ap, P2_ok G O hm hm2 ks ds, kQ_nx, seqC_ap, P3_ok G (O.ask_ky (X p q g ds.sum) m) ks ds hl (by omega), kQ_nx, seqC_ap, P4_ok G O hm hm2 kx kdr ks ds hk hd h1 h4 hl, kQ_nx, seqC_ap, qC_eq, ifC_ap]
  by_cases hq : (ks.length : Int) < q
  · obtain ⟨w18, w19, w20, w21, w22, w23, t', T', e⟩ := qB_ok G P O hm hm2 ks ds hd h1 h4 hl hq (I p) (I x) (I dr) (I (X p q g x)) (I (X p q g dr)) (.val (pD (ask Os (X p q g dr) m, (dr + ask Os (X p q g dr) m * x) % q))) (.val (.tup ((PP p q g (ask Os (X p q g ds.sum) m) ks ds).map pD))) (.val (pD (ask Os (X p q g ds.sum) m, (ds.sum + ask Os (X p q g ds.sum) m * ks.sum) % q))) (.val (.tup (ord.map D.int))) T
    have tl := tail_ok G O hm hm2 kx kdr ks ds hk h1 h4 (.val (.tup (ds.map D.int))) (.val (.tup ((PP p q g (ask Os (X p q g ds.sum) m) ks ds).map pD))) (.val (pD (ask Os (X p q g ds.sum) m, (ds.sum + ask Os (X p q g ds.sum) m * ks.sum) % q))) (.val (.tup (ord.map D.int))) w18 w19 w20 w21 w22 w23 T'
    simp [gt_int, hq]
    rw [e, kQ_nx]
    exact tl
  · have tl := tail_ok G O hm hm2 kx kdr ks ds hk h1 h4 (.val (.tup (ds.map D.int))) (.val (.tup ((PP p q g (ask Os (X p q g ds.sum) m) ks ds).map pD))) (.val (pD (ask Os (X p q g ds.sum) m, (ds.sum + ask Os (X p q g ds.sum) m * ks.sum) % q))) (.val (.tup (ord.map D.int))) .un .un .un .un .un .un T
    have hn : ¬ ((ks.length : Int) < q) := hq
    simp [gt_int, hn]
    exact tl
end
end MP.K57

namespace MP.K57
open PySem
section
variable {p q g : Int} {ta : TapeO}
theorem ask_len (Os : List Int) (f m k : Int) : ask Os f (m + k * Os.length) = ask Os f m := by
  unfold ask
  congr 2
  rw [show f * 13 + (m + k * Os.length) * 29 = f * 13 + m * 29 + Os.length * (k * 29) by generalize (Os.length : Int) = l; grind, Int.add_mul_emod_self_left]
theorem add_bo (a b : List D) (h : a.length + b.length ≤ LIM) : addS (.bor a) (.own b) = some (.own (a ++ b)) := by
  unfold addS catMS
  simp [Sl.tr?, h]
theorem rows_comp (ta : TapeO) : ∀ (l : List (Int × Int)) (env : SE), env.length = 27 → compL (.tup [16, 26]) yesT (tupE [(varE 16), (varE 26)]) (l.map pD) env ta = some (l.map pD, ta)
  | [], _, _ => rfl
  | (a, b) :: l, env, hn => by
    have ih := rows_comp ta l env hn
    have g16 : ((env.set 16 (.val (.int a))).set 26 (.val (.int b)))[16]? = some (.val (.int a)) := by rw [List.getElem?_set_ne (by decide), List.getElem?_set_self (by omega)]
    have g26 : ((env.set 16 (.val (.int a))).set 26 (.val (.int b)))[26]? = some (.val (.int b)) := List.getElem?_set_self (by simp; omega)
    rw [List.map_cons, compL_cons]
    simp only [pD] at ih ⊢
    simp [g16, g26, ih]
theorem due_in (G : Gp p q g) {Os : List Int} (O : Orc q Os) (y : Int) {m : Int} (hm : 0 ≤ m) (hm2 : m < 100000) {a : Int} (ha : Ky q a) (env : SE) (ta : TapeO) (e2 : env[2]? = some (Gr p q g)) (e6 : env[6]? = some (oT Os)) (e7 : env[7]? = some (I m)) (e10 : env[10]? = some (I (X p q g y))) (e16 : env[16]? = some (I a)) (hn : env.length = 27) : ∀ (k j : Nat), (j + k : Nat) ≤ q.toNat →
    compL (.one 26) (ofE (binE eqS (callF F_asked_of [(varE 2), (varE 6), (binE ixS (callF F_made_row [(varE 2), (varE 10), (varE 16), (varE 26)]) (cstE (.int 0))), (varE 7)]) (varE 16))) (tupE [(varE 16), (varE 26)]) ((List.range' j k).map fun i => D.int (i : Nat)) env ta = some ((frow p q g y m Os a (List.range' j k)).map pD, ta)
  | 0, j, _ => by simp [frow, compL]
  | k + 1, j, h => by
    have ih := due_in G O y hm hm2 ha env ta e2 e6 e7 e10 e16 hn k (j + 1) (by omega)
    have hj : Ky q (j : Nat) := ⟨by omega, by have := G.q0; omega⟩
    have F : ∀ i, i ≠ 26 → (env.set 26 (I (j : Nat)))[i]? = env[i]? := fun i h => by rw [List.getElem?_set_ne (Ne.symm h)]
    have g2 := F 2 (by decide)
    have g6 := F 6 (by decide)
    have g7 := F 7 (by decide)
    have g10 := F 10 (by decide)
    have g16 := F 16 (by decide)
    rw [e2] at g2
    rw [e6] at g6
    rw [e7] at g7
    rw [e10] at g10
    rw [e16] at g16
    have g26 : (env.set 26 (I (j : Nat)))[26]? = some (I (j : Nat)) := List.getElem?_set_self (by omega)
    have mr := X_made G y ha hj (ta := ta)
    have as := X_asked G O ((j : Nat) - y * a) hm hm2 (ta := ta)
    rw [List.range'_succ, List.map_cons, compL_cons, frow_cons]
    simp only [I, oT] at g2 g6 g7 g10 g16 g26 mr as
    by_cases c : cnd p q g y m Os a (j : Nat) = true
    · rw [if_pos c]
      unfold cnd at c
      rw [decide_eq_true_eq] at c
      rw [c] at as
      simp [g2, g6, g7, g10, g16, g26, mr, as, eq_int, ih, pD]
    · rw [if_neg c]
      unfold cnd at c
      rw [decide_eq_true_eq] at c
      generalize ask Os (X p q g ((j : Nat) - y * a)) m = v at c as
      simp [g2, g6, g7, g10, g16, g26, mr, as, eq_int, c, ih]
theorem due_out (G : Gp p q g) {Os : List Int} (O : Orc q Os) (y : Int) {m : Int} (hm : 0 ≤ m) (hm2 : m < 100000) (ta : TapeO) : ∀ (k j : Nat) (env : SE) (L : List (Int × Int)), (j + k : Nat) ≤ q.toNat → 1 ≤ k → L.length + k * 100 < 90000 → env[2]? = some (Gr p q g) → env[4]? = some (I q) → env[6]? = some (oT Os) → env[7]? = some (I m) → env[10]? = some (I (X p q g y)) → env[15]? = some (.own (L.map pD)) → env[26]? = some .un → env.length = 27 → 
    forL (.one 16) (asgC 15 (binE addS (varE 15) (compE (argI rg1S [(varE 4)]) [26] (.one 26) (ofE (binE eqS (callF F_asked_of [(varE 2), (varE 6), (binE ixS (callF F_made_row [(varE 2), (varE 10), (varE 16), (varE 26)]) (cstE (.int 0))), (varE 7)]) (varE 16))) (tupE [(varE 16), (varE 26)])))) ((List.range' j k).map fun i => D.int (i : Nat)) env ta =
      some (.nx, (env.set 16 (I ((j + k - 1 : Nat) : Int))).set 15 (.own ((L ++ frows p q g y m Os (List.range' 0 q.toNat) (List.range' j k)).map pD)), ta)
  | 0, j, env, L, _, h, _, _, _, _, _, _, _, _, _ => by omega
  | k + 1, j, env, L, h, hk, hL, e2, e4, e6, e7, e10, e15, e26, hn => by
    have hj : Ky q (j : Nat) := ⟨by omega, by have := G.q0; omega⟩
    have q1 := G.q1
    have q2 := G.q2
    have LM : LIM = 16777216 := rfl
    have F : ∀ i, i ≠ 16 → (env.set 16 (I (j : Nat)))[i]? = env[i]? := fun i h => by rw [List.getElem?_set_ne (Ne.symm h)]
    have W : ∀ i, i ≠ 16 → i ≠ 26 → ((env.set 16 (I (j : Nat))).set 26 .un)[i]? = env[i]? := fun i h h2 => by rw [List.getElem?_set_ne (Ne.symm h2), List.getElem?_set_ne (Ne.symm h)]
    have di := due_in G O y hm hm2 hj ((env.set 16 (I (j : Nat))).set 26 .un) ta (by rw [W 2 (by decide) (by decide)]; exact e2) (by rw [W 6 (by decide) (by decide)]; exact e6) (by rw [W 7 (by decide) (by decide)]; exact e7) (by rw [W 10 (by decide) (by decide)]; exact e10) (by rw [List.getElem?_set_ne (by decide), List.getElem?_set_self (by omega)]) (by simpa using hn) q.toNat 0 (by omega)
    have fl := frow_len (p := p) (q := q) (g := g) (y := y) (m := m) (a := ((j : Nat) : Int)) (Os := Os) (List.range' 0 q.toNat)
    rw [List.length_range'] at fl
    have ad := add_bo (L.map pD) ((frow p q g y m Os ((j : Nat) : Int) (List.range' 0 q.toNat)).map pD) (by simp; omega)
    rw [← List.map_append] at ad
    have rg := rg1_ok (show 0 ≤ q by omega) (show q < 1000000 by omega)
    have qL : q.toNat < LIM := by omega
    have fc : frows p q g y m Os (List.range' 0 q.toNat) (j :: List.range' (j + 1) k) = frow p q g y m Os ((j : Nat) : Int) (List.range' 0 q.toNat) ++ frows p q g y m Os (List.range' 0 q.toNat) (List.range' (j + 1) k) := by simp [frows]
    have g15 := F 15 (by decide)
    have g4 := F 4 (by decide)
    rw [e15] at g15
    rw [e4] at g4
    have hnext : k = 0 ∨ forL (.one 16) (asgC 15 (binE addS (varE 15) (compE (argI rg1S [(varE 4)]) [26] (.one 26) (ofE (binE eqS (callF F_asked_of [(varE 2), (varE 6), (binE ixS (callF F_made_row [(varE 2), (varE 10), (varE 16), (varE 26)]) (cstE (.int 0))), (varE 7)]) (varE 16))) (tupE [(varE 16), (varE 26)])))) ((List.range' (j + 1) k).map fun i => D.int (i : Nat)) ((env.set 16 (I (j : Nat))).set 15 (.own ((L ++ frow p q g y m Os ((j : Nat) : Int) (List.range' 0 q.toNat)).map pD))) ta =
      some (.nx, (env.set 16 (I ((j + (k + 1) - 1 : Nat) : Int))).set 15 (.own ((L ++ frows p q g y m Os (List.range' 0 q.toNat) (List.range' j (k + 1))).map pD)), ta) := by
      by_cases hk0 : k = 0
      · exact .inl hk0
      · right
        have V : ∀ i, i ≠ 16 → i ≠ 15 → ((env.set 16 (I (j : Nat))).set 15 (.own ((L ++ frow p q g y m Os ((j : Nat) : Int) (List.range' 0 q.toNat)).map pD)))[i]? = env[i]? := fun i h h2 => by rw [List.getElem?_set_ne (Ne.symm h2), List.getElem?_set_ne (Ne.symm h)]
        have ih := due_out G O y hm hm2 ta k (j + 1) ((env.set 16 (I (j : Nat))).set 15 (.own ((L ++ frow p q g y m Os ((j : Nat) : Int) (List.range' 0 q.toNat)).map pD))) (L ++ frow p q g y m Os ((j : Nat) : Int) (List.range' 0 q.toNat)) (by omega) (by omega) (by rw [List.length_append]; omega)
          (by rw [V 2 (by decide) (by decide)]; exact e2) (by rw [V 4 (by decide) (by decide)]; exact e4) (by rw [V 6 (by decide) (by decide)]; exact e6) (by rw [V 7 (by decide) (by decide)]; exact e7) (by rw [V 10 (by decide) (by decide)]; exact e10) (List.getElem?_set_self (by simp; omega)) (by rw [V 26 (by decide) (by decide)]; exact e26) (by simpa using hn)
        rw [ih, List.append_assoc, List.range'_succ, fc, List.set_comm (i := 15) (j := 16) _ _ (by decide), List.set_set, List.set_set, show j + 1 + k - 1 = j + (k + 1) - 1 by omega]
    generalize hf : (frow p q g y m Os ((j : Nat) : Int) (List.range' 0 q.toNat)).map pD = fr at di ad
    generalize hLf : (L ++ frow p q g y m Os ((j : Nat) : Int) (List.range' 0 q.toNat)).map pD = Lf at ad hnext
    rw [List.range'_succ, List.map_cons, forL_cons]
    rcases hnext with hk0 | hnext
    · subst hk0
      have e0 : frows p q g y m Os (List.range' 0 q.toNat) (j :: List.range' (j + 1) 0) = frow p q g y m Os ((j : Nat) : Int) (List.range' 0 q.toNat) := by simp [frows]
      rw [e0, hLf]
      generalize L.map pD = LL at *
      simp only [I] at *
      simp [g15, g4, rg, qL, di, ad]
    · rw [List.range'_succ] at hnext
      generalize (L ++ frows p q g y m Os (List.range' 0 q.toNat) (j :: List.range' (j + 1) k)).map pD = RR at *
      generalize L.map pD = LL at *
      simp only [I] at *
      simp [g15, g4, rg, qL, di, ad]
      simpa using hnext
end
end MP.K57

namespace MP.K57
open PySem
theorem ky0 (p q g : Int) (G : Gp p q g) (x dr A : Int) : X p q g ((dr + A * x) % q) = X p q g (dr + x * A) := by rw [X_mod, Int.mul_comm]
theorem law_true (ns : List Int) (hl : ns.length ≤ 63) : ∃ env t, C_law ([.val (.lst (ns.map D.int))] ++ List.replicate (27 - 1) .un) none = some (.rt (.val (.bl true)), env, t) := by
  show endsTrue (C_law ([.val (.lst (ns.map D.int))] ++ List.replicate (27 - 1) .un) none)
  obtain ⟨seed, s0, s1', eb⟩ := begin_ok ns
  obtain ⟨t0, ht0⟩ : ∃ t0 : Tape, t0 = ⟨ns, 0, 0, seed⟩ := ⟨_, rfl⟩
  have T0 : TOk t0 := by subst ht0; exact ⟨Int.le_refl _, s0, s1'⟩
  obtain ⟨p, Q, g, K, eg⟩ := group_ok T0
  have G := K.G
  have P := pr_of K
  clear K
  obtain ⟨q, hq⟩ : ∃ q : Int, (Q : Int) = q := ⟨_, rfl⟩
  rw [hq] at eg G P
  clear hq
  obtain ⟨t1, ht1⟩ : ∃ t1 : Tape, t1 = takeT t0 10 := ⟨_, rfl⟩
  have T1 : TOk t1 := by rw [ht1]; exact take_tok T0 (by decide) (by decide)
  rw [← ht1] at eg
  clear ht1
  have q1 := G.q1
  have q2 := G.q2
  have q0 := G.q0
  have p1 := G.p1
  have LM : LIM = 16777216 := rfl
  -- the oracle, what is said
  obtain ⟨c, t2, c0, c1, T2, e1⟩ := take_next (n := 7) (by decide) (by decide) T1
  obtain ⟨Os, t3, hOl, hOk, T3, e2⟩ := some_ok (n := q) (by omega) (by omega) (m := 1 + c) (by omega) (by omega) T2
  have O : Orc q Os := ⟨by omega, by omega, hOk⟩
  obtain ⟨m, t4, hm, m1, T4, e3⟩ := take_next (n := 40) (by decide) (by decide) T3
  have hm2 : m < 100000 := by omega
  obtain ⟨x, t5, kx, T5, e4⟩ := nxt G T4
  obtain ⟨dr, t6, kdr, T6, e5⟩ := nxt G T5
  have pw1 := fun ta => X_powerg G x (ta := ta)
  have pw2 := fun ta => X_powerg G dr (ta := ta)
  have sg := fun ta => X_sign G O hm hm2 kx kdr (ta := ta)
  have as := fun ta => X_asked G O dr hm hm2 (ta := ta)
  have A0 := O.ask_ky (X p q g dr) m
  have T0k := mod_ky G (dr + ask Os (X p q g dr) m * x)
  have sa := sg_arith G dr (ask Os (X p q g dr) m) x x rfl
  have is := fun ta => X_is_signed G O x hm hm2 A0 T0k (ta := ta)
  rw [sa] at is
  have ri := fun ta => X_right G x dr A0 T0k (ta := ta)
  have pa := fun ta => X_part G x dr A0 T0k (ta := ta)
  rw [ky0 p q g G x dr] at ri pa
  have Ol : (Os.length : Int) = 1 + c := hOl
  have is2 := fun ta => X_is_signed G O x (m := m + Os.length) (by omega) (by omega) A0 T0k (ta := ta)
  have al1 := ask_len Os (X p q g dr) m 1
  rw [Int.one_mul] at al1
  rw [sa, al1] at is2
  have as3 := fun ta => X_asked G O dr (m := m + 3 * Os.length) (by omega) (by omega) (ta := ta)
  rw [ask_len] at as3
  obtain ⟨ot, t7, ot0, ot1, T7, e6⟩ := take_next (n := 40) (by decide) (by decide) T6
  have is4 := fun ta => X_is_signed G O x ot0 (by omega) A0 T0k (ta := ta)
  rw [sa] at is4
  have as4 := fun ta => X_asked G O dr ot0 (by omega) (ta := ta)
  -- forgeries
  have fo := fun (h : q ≤ 11) (ta : TapeO) => X_forg G O x hm hm2 (show q ≤ 31 by omega) (ta := ta)
  have fr := frows_len (p := p) (q := q) (g := g) (y := x) (m := m) (Os := Os) (List.range' 0 q.toNat) (List.range' 0 q.toNat)
  rw [List.length_range'] at fr
  have fr2 : q.toNat * q.toNat ≤ 64 * 64 := Nat.mul_le_mul (by omega) (by omega)
  have rc := fun ta env hn => rows_comp ta (frows p q g x m Os (List.range' 0 q.toNat) (List.range' 0 q.toNat)) env hn
  have du := fun ta env => due_out G O x hm hm2 ta q.toNat 0 env [] (by omega) (by omega) (by simp; omega)
  have mf := mem_frows (p := p) (g := g) (y := x) (m := m) (Os := Os) A0 T0k (by rw [sa])
  have np := nin_pairs (ask Os (X p q g dr) m, (dr + ask Os (X p q g dr) m * x) % q) (frows p q g x m Os (List.range' 0 q.toNat) (List.range' 0 q.toNat))
  rw [decide_eq_true mf] at np
  have neb := ne_selfB ((frows p q g x m Os (List.range' 0 q.toNat) (List.range' 0 q.toNat)).map pD) (nss_of fun d hd => by
    obtain ⟨f, _, rfl⟩ := List.mem_map.mp hd
    rfl) (Nat.le_trans (depth_lst (n := 1) fun d hd => by
    obtain ⟨f, _, rfl⟩ := List.mem_map.mp hd
    exact depth_pD f) (by decide))
  have fl : (frows p q g x m Os (List.range' 0 q.toNat) (List.range' 0 q.toNat)).length < LIM := by omega
  -- keys from two
  obtain ⟨fm, t8, fm0, fm1, T8, e7⟩ := take_next (n := 40) (by decide) (by decide) T7
  have sg2 := fun ta => X_sign G O fm0 (show fm < 100000 by omega) kx kdr (ta := ta)
  have B0 := O.ask_ky (X p q g dr) fm
  have kf1 := fun ta => X_key_from G P O (d := dr) A0 B0 kx (ta := ta)
  have kf2 := fun ta => X_key_from G P O (d := dr) B0 A0 kx (ta := ta)
  -- hands
  obtain ⟨n', t9, n0, n1, T9, e8⟩ := take_next (n := 4) (by decide) (by decide) T8
  obtain ⟨ks, t10, hkl, hkk, T10, e9⟩ := some_ok (n := q) (by omega) (by omega) (m := 1 + n') (by omega) (by omega) T9
  obtain ⟨ds, t11, hdl, hdk, T11, e10⟩ := some_ok (n := q) (by omega) (by omega) (m := 1 + n') (by omega) (by omega) T10
  have k1 : 1 ≤ ks.length := by omega
  have k4 : ks.length ≤ 4 := by omega
  have kd : ks.length = ds.length := by omega
  have tg := fun ta => X_together G O hm hm2 ks ds hkk hdk k1 (by omega) kd (ta := ta)
  have su := sum_ints ks
  have pw3 := fun ta => X_powerg G ks.sum (ta := ta)
  obtain ⟨ord, t12, hord, T12, e11⟩ := order_ok (n := 1 + n') (by omega) (by omega) T11
  have hn' : (1 + n') = ((ks.length : Nat) : Int) := hkl.symm
  rw [hn', Int.toNat_natCast] at hord
  have sa2 := sg_arith G ds.sum (ask Os (X p q g ds.sum) m) ks.sum ks.sum rfl
  have is5 := fun ta => X_is_signed G O ks.sum hm hm2 (O.ask_ky (X p q g ds.sum) m) (mod_ky G (ds.sum + ask Os (X p q g ds.sum) m * ks.sum)) (ta := ta)
  rw [sa2] at is5
  obtain ⟨t13, p2⟩ := part2_ok G P O hm hm2 kx kdr ks ds hkk hdk k1 k4 kd ord hord T12
  rw [hn'] at e9 e10 e11
  have rg := rg1_ok (show 0 ≤ q by omega) (show q < 1000000 by omega)
  have sOs : Sm (Os.length : Int) := ⟨by omega, by omega⟩
  have mu3 : mulS (.val (.int 3)) (.val (.int Os.length)) = some (.val (.int (3 * Os.length))) := mul_sm (smI (by decide) (by decide)) sOs
  generalize ask Os (X p q g ds.sum) m = A2 at *
  generalize (ds.sum + A2 * ks.sum) % q = T2' at *
  generalize hB : ask Os (X p q g dr) fm = B at *
  generalize (dr + B * x) % q = TB at *
  generalize hA : ask Os (X p q g dr) m = A at *
  generalize (dr + A * x) % q = TA at *
  generalize ask Os (X p q g dr) ot = A4 at *
  simp only [List.nil_append] at du
  generalize (PP p q g A2 ks ds).map pD = PPP at *
  obtain ⟨FR, hFR⟩ : ∃ FR, (frows p q g x m Os (List.range' 0 q.toNat) (List.range' 0 q.toNat)).map pD = FR := ⟨_, rfl⟩
  have FRl : FR.length < LIM := by rw [← hFR]; simpa using fl
  simp only [hFR] at fo rc du np neb
  generalize X p q g ks.sum = XK at *
  generalize ks.sum = SK at *
  generalize X p q g x = XX at *
  generalize X p q g dr = XD at *
  unfold C_law
  simp only [I, oT, pD] at *
  simp [begin_is, take_is, some_is, order_is, moved_is, eb, ← ht0, eg, e1, add_int, e2, tupleS, e3, e4, e5, pw1, pw2, sg, as, ne_int, is, ri, pa, isnt_true, lenS, is2, mu3, as3, e6, is4, as4, eq_int, ne_bl, le_int]
  have nx : neS (.val (.int x)) (.val (.int x)) = some (.val (.bl false)) := by rw [ne_int]; simp
  have nA : neS (.val (.tup [.int A2, .int T2'])) (.val (.tup [.int A2, .int T2'])) = some (.val (.bl false)) := ne_pD (A2, T2')
  by_cases h11 : q ≤ 11
  · have fo := fo h11
    simp [h11, fo, FRl, rc, rg, du, hFR, neb, np, e7, sg2]
    by_cases hAB : A = B
    · subst hAB
      simp [kf1, kf2, ne_non, ne_int, take_is, e8, add_int, hn', e9, e10, tupleS, tg, su, pw3, e11, is5, p2]
    · have hBA : ¬ B = A := fun z => hAB z.symm
      simp [hAB, hBA, kf1, kf2, nx, ne_int, take_is, e8, add_int, hn', e9, e10, tupleS, tg, su, pw3, e11, is5, p2]
  · simp [h11, e7, sg2]
    by_cases hAB : A = B
    · subst hAB
      simp [kf1, kf2, ne_non, ne_int, take_is, e8, add_int, hn', e9, e10, tupleS, tg, su, pw3, e11, is5, p2]
    · have hBA : ¬ B = A := fun z => hAB z.symm
      simp [hAB, hBA, kf1, kf2, nx, ne_int, take_is, e8, add_int, hn', e9, e10, tupleS, tg, su, pw3, e11, is5, p2]
end MP.K57

open PySem PySem.W PyProof.Rows
set_option maxRecDepth 100000 in
set_option maxHeartbeats 0 in
theorem PySem.Challenge.cw_secrethall_k57_whole_rings_and_hands_tha_holds : PySem.Challenge.rw_secrethall_k57_whole_rings_and_hands_tha.Holds := by
  w_on; o_law; k_head; (case hw => w_witness2)
  k_fill
  refine L2.walk_of (l := PySem.Challenge.rw_secrethall_k57_whole_rings_and_hands_tha) (n := 63) (k := 8) (x := "script") (CX := fun w => L2.CX (PySem.Challenge.rw_secrethall_k57_whole_rings_and_hands_tha).prog w) (sp := fun w => MP.LSp _ ⟨[], 0⟩ 27 MP.K57.C_law) rfl (by decide) rfl ⟨rfl, by decide, by decide⟩ (fun w h Y => PySem.W.kIn_of Y) ?F (fun w H a ns hl hO hS => MP.lsp_law hO hS (MP.K57.law_true ns hl)) fun w H s e s' z => ?X
  case X => exact MP.cx_false z
  case F =>
    intro w mg fa h KX G hmg
    obtain ⟨fd, hb, hF⟩ : ∃ fd : FuncData, (∀ (s : Shared) (v : Value), BindsTo s fd ⟨[v], []⟩ [("script", v)]) ∧ ∀ (P : Program) (w' : World) (base : Heap), L2.FnOk P w' _ mg base (L2.CX P w') 8 fa fd ["script"] (MP.LSp _ ⟨[], 0⟩ 27 MP.K57.C_law) := by
      refine' MP.K57.all_mk KX G hmg ?a0 ?l0 ?c0 ?k0 ?a1 ?l1 ?c1 ?k1 ?a2 ?l2 ?c2 ?k2 ?a3 ?l3 ?c3 ?k3 ?a4 ?l4 ?c4 ?k4 ?a5 ?l5 ?c5 ?k5 ?a6 ?l6 ?c6 ?k6 ?a7 ?l7 ?c7 ?k7 ?a8 ?l8 ?c8 ?k8 ?a9 ?l9 ?c9 ?k9 ?a10 ?l10 ?c10 ?k10 ?a11 ?l11 ?c11 ?k11 ?a12 ?l12 ?c12 ?k12 ?a13 ?l13 ?c13 ?k13 ?a14 ?l14 ?c14 ?k14 ?a15 ?l15 ?c15 ?k15 ?a16 ?l16 ?c16 ?k16 ?a17 ?l17 ?c17 ?k17 ?a18 ?l18 ?c18 ?k18 ?a19 ?l19 ?c19 ?k19 ?a20 ?l20 ?c20 ?k20 ?a21 ?l21 ?c21 ?k21 ?a22 ?l22 ?c22 ?k22 ?a23 ?l23 ?c23 ?k23 ?a24 ?l24 ?c24 ?k24 ?a25 ?l25 ?c25 ?k25 ?a26 ?l26 ?c26 ?k26 ?a27 ?l27 ?c27 ?k27 ?a28 ?l28 ?c28 ?k28 ?a29 ?l29 ?c29 ?k29 ?a30 ?l30 ?c30 ?k30 ?a31 ?l31 ?c31 ?k31 ?z_abs ?z_all ?z_any ?z_enumerate ?z_int ?z_len ?z_list ?z_range ?z_sorted ?z_sum ?z_tuple ?z_zip ?g_MOST ?g_MOST_HANDS
      (case a0 => k_is)
      (case l0 => k_is)
      (case c0 => k_is)
      (case k0 => k_is)
      (case a1 => k_is)
      (case l1 => k_is)
      (case c1 => k_is)
      (case k1 => k_is)
      (case a2 => k_is)
      (case l2 => k_is)
      (case c2 => k_is)
      (case k2 => k_is)
      (case a3 => k_is)
      (case l3 => k_is)
      (case c3 => k_is)
      (case k3 => k_is)
      (case a4 => k_is)
      (case l4 => k_is)
      (case c4 => k_is)
      (case k4 => k_is)
      (case a5 => k_is)
      (case l5 => k_is)
      (case c5 => k_is)
      (case k5 => k_is)
      (case a6 => k_is)
      (case l6 => k_is)
      (case c6 => k_is)
      (case k6 => k_is)
      (case a7 => k_is)
      (case l7 => k_is)
      (case c7 => k_is)
      (case k7 => k_is)
      (case a8 => k_is)
      (case l8 => k_is)
      (case c8 => k_is)
      (case k8 => k_is)
      (case a9 => k_is)
      (case l9 => k_is)
      (case c9 => k_is)
      (case k9 => k_is)
      (case a10 => k_is)
      (case l10 => k_is)
      (case c10 => k_is)
      (case k10 => k_is)
      (case a11 => k_is)
      (case l11 => k_is)
      (case c11 => k_is)
      (case k11 => k_is)
      (case a12 => k_is)
      (case l12 => k_is)
      (case c12 => k_is)
      (case k12 => k_is)
      (case a13 => k_is)
      (case l13 => k_is)
      (case c13 => k_is)
      (case k13 => k_is)
      (case a14 => k_is)
      (case l14 => k_is)
      (case c14 => k_is)
      (case k14 => k_is)
      (case a15 => k_is)
      (case l15 => k_is)
      (case c15 => k_is)
      (case k15 => k_is)
      (case a16 => k_is)
      (case l16 => k_is)
      (case c16 => k_is)
      (case k16 => k_is)
      (case a17 => k_is)
      (case l17 => k_is)
      (case c17 => k_is)
      (case k17 => k_is)
      (case a18 => k_is)
      (case l18 => k_is)
      (case c18 => k_is)
      (case k18 => k_is)
      (case a19 => k_is)
      (case l19 => k_is)
      (case c19 => k_is)
      (case k19 => k_is)
      (case a20 => k_is)
      (case l20 => k_is)
      (case c20 => k_is)
      (case k20 => k_is)
      (case a21 => k_is)
      (case l21 => k_is)
      (case c21 => k_is)
      (case k21 => k_is)
      (case a22 => k_is)
      (case l22 => k_is)
      (case c22 => k_is)
      (case k22 => k_is)
      (case a23 => k_is)
      (case l23 => k_is)
      (case c23 => k_is)
      (case k23 => k_is)
      (case a24 => k_is)
      (case l24 => k_is)
      (case c24 => k_is)
      (case k24 => k_is)
      (case a25 => k_is)
      (case l25 => k_is)
      (case c25 => k_is)
      (case k25 => k_is)
      (case a26 => k_is)
      (case l26 => k_is)
      (case c26 => k_is)
      (case k26 => k_is)
      (case a27 => k_is)
      (case l27 => k_is)
      (case c27 => k_is)
      (case k27 => k_is)
      (case a28 => k_is)
      (case l28 => k_is)
      (case c28 => k_is)
      (case k28 => k_is)
      (case a29 => k_is)
      (case l29 => k_is)
      (case c29 => k_is)
      (case k29 => k_is)
      (case a30 => k_is)
      (case l30 => k_is)
      (case c30 => k_is)
      (case k30 => k_is)
      (case a31 => k_is)
      (case l31 => k_is)
      (case c31 => k_is)
      (case k31 => k_is)
      (case z_abs => k_is)
      (case z_all => k_is)
      (case z_any => k_is)
      (case z_enumerate => k_is)
      (case z_int => k_is)
      (case z_len => k_is)
      (case z_list => k_is)
      (case z_range => k_is)
      (case z_sorted => k_is)
      (case z_sum => k_is)
      (case z_tuple => k_is)
      (case z_zip => k_is)
      (case g_MOST => k_is)
      (case g_MOST_HANDS => k_is)
    exact ⟨fd, hb, fun base _ _ => hF _ w base⟩
