import PyProof.Rows.All
import Wide.All
import OpenK.AllK
import Wide.FinOn
import HandS.Base
import HandS.Call
import HandS.List
import HandS.Comp
import HandS.Ends
import HandS.Dict
import HandS.Iter
import HandS.Text
import HandS.Words
import HandS.ForMost
import HandS.More
import HandS.IsInst
import HandS.Style
import HandS.Flow
import HandS.Walk
import PySem.Challenge.RW_newnames_k01_names
set_option Elab.async false
set_option linter.all false
set_option maxRecDepth 100000
set_option maxHeartbeats 4000000
namespace NN
open PySem L2
/-! ### what stays -/
/-- all that is tracked stays, but what stands at S -/
def Kp (S : List Addr) (H H' : Hp) : Prop := ∀ a o, H a = some o → a ∉ S → H' a = some o
theorem Kp.refl (S : List Addr) (H : Hp) : Kp S H H := fun _ _ h _ => h
theorem Kp.trans {S : List Addr} {H H1 H2 : Hp} (a : Kp S H H1) (b : Kp S H1 H2) : Kp S H H2 := fun c o h n => b c o (a c o h n) n
theorem Kp.sub {S S' : List Addr} {H H' : Hp} (k : Kp S H H') (s : ∀ a ∈ S, a ∈ S') : Kp S' H H' := fun a o h n => k a o h fun z => n (s a z)
theorem Kp.new {S : List Addr} {H : Hp} {p : Addr} {o : HO} (h : H p = none) : Kp S H (upd H p o) := fun a u e _ => by
  rw [upd_ne (ne_of_none e h)]
  exact e
theorem Kp.mut {S : List Addr} {H : Hp} {p : Addr} {o : HO} (h : p ∈ S) : Kp S H (upd H p o) := fun a u e n => by
  by_cases z : a = p
  · subst z; exact absurd h n
  · rw [upd_ne z]; exact e
theorem Kp.at {S : List Addr} {H H' : Hp} {a : Addr} {o : HO} (k : Kp S H H') (h : H a = some o) (n : a ∉ S) : H' a = some o := k a o h n
theorem Kp.free {S : List Addr} {H H' : Hp} {a : Addr} (k : Kp S H H') (h : H' a = none) (n : a ∉ S) : H a = none := by
  cases e : H a with
  | none => rfl
  | some o => rw [k a o e n] at h; cases h
theorem Kp.nil_free {H H' : Hp} {a : Addr} (k : Kp [] H H') (h : H' a = none) : H a = none := k.free h (by simp)
theorem Kp.same {H H' : Hp} (k : Kp [] H H') : Same H H' := fun b o h => k b o h (by simp)
/-! ### data -/
inductive D where
  | v (x : V)
  | l (xs : List D)
  | t (xs : List D)
  | d (ks : List Str) (xs : List D)
  | o (C : Addr) (fs : List Str) (xs : List D)
def zipK (ks : List Str) (vs : List V) : List (Key × V) := (ks.zip vs).map fun p => (Sum.inr p.1, p.2)
mutual
/-- the data d stand at x, all of it apart from S -/
inductive At (S : List Addr) (H : Hp) : V → D → Prop
  | v (x : V) : At S H x (.v x)
  | l {a : Addr} {vs : List V} {ds : List D} : a ∉ S → H a = some (.lst vs) → AtL S H vs ds → At S H (.ref a) (.l ds)
  | t {a : Addr} {vs : List V} {ds : List D} : a ∉ S → H a = some (.tup vs) → AtL S H vs ds → At S H (.ref a) (.t ds)
  | d {a : Addr} {ks : List Str} {vs : List V} {ds : List D} : a ∉ S → H a = some (.dK (zipK ks vs)) → ks.length = ds.length → AtL S H vs ds → At S H (.ref a) (.d ks ds)
  | o {a C dx : Addr} {fs : List Str} {vs : List V} {ds : List D} : a ∉ S → H a = some (.ins C dx (fs.zip vs)) → fs.length = ds.length → AtL S H vs ds → At S H (.ref a) (.o C fs ds)
inductive AtL (S : List Addr) (H : Hp) : List V → List D → Prop
  | nil : AtL S H [] []
  | cons {x : V} {d : D} {xs : List V} {ds : List D} : At S H x d → AtL S H xs ds → AtL S H (x :: xs) (d :: ds)
end
theorem AtL.length {S : List Addr} {H : Hp} : ∀ {vs : List V} {ds : List D}, AtL S H vs ds → vs.length = ds.length
  | _, _, .nil => rfl
  | _, _, .cons _ r => congrArg (· + 1) (AtL.length r)
mutual
theorem At.kp {S S' : List Addr} {H H' : Hp} (k : Kp S' H H') (s : ∀ a ∈ S', a ∈ S) : ∀ {d : D} {x : V}, At S H x d → At S H' x d
  | .v _, _, h => by cases h; exact .v _
  | .l ds, _, h => by
    cases h with
    | l n e r => exact .l n (k _ _ e fun z => n (s _ z)) (AtL.kp k s r)
  | .t ds, _, h => by
    cases h with
    | t n e r => exact .t n (k _ _ e fun z => n (s _ z)) (AtL.kp k s r)
  | .d ks ds, _, h => by
    cases h with
    | d n e hl r => exact .d n (k _ _ e fun z => n (s _ z)) hl (AtL.kp k s r)
  | .o C fs ds, _, h => by
    cases h with
    | o n e hl r => exact .o n (k _ _ e fun z => n (s _ z)) hl (AtL.kp k s r)
theorem AtL.kp {S S' : List Addr} {H H' : Hp} (k : Kp S' H H') (s : ∀ a ∈ S', a ∈ S) : ∀ {ds : List D} {vs : List V}, AtL S H vs ds → AtL S H' vs ds
  | [], _, h => by cases h; exact .nil
  | d :: ds, _, h => by
    cases h with
    | cons h1 h2 => exact .cons (At.kp k s h1) (AtL.kp k s h2)
end
mutual
theorem At.sub {S S' : List Addr} {H : Hp} (s : ∀ a ∈ S', a ∈ S) : ∀ {d : D} {x : V}, At S H x d → At S' H x d
  | .v _, _, h => by cases h; exact .v _
  | .l ds, _, h => by
    cases h with
    | l n e r => exact .l (fun z => n (s _ z)) e (AtL.sub s r)
  | .t ds, _, h => by
    cases h with
    | t n e r => exact .t (fun z => n (s _ z)) e (AtL.sub s r)
  | .d ks ds, _, h => by
    cases h with
    | d n e hl r => exact .d (fun z => n (s _ z)) e hl (AtL.sub s r)
  | .o C fs ds, _, h => by
    cases h with
    | o n e hl r => exact .o (fun z => n (s _ z)) e hl (AtL.sub s r)
theorem AtL.sub {S S' : List Addr} {H : Hp} (s : ∀ a ∈ S', a ∈ S) : ∀ {ds : List D} {vs : List V}, AtL S H vs ds → AtL S' H vs ds
  | [], _, h => by cases h; exact .nil
  | d :: ds, _, h => by
    cases h with
    | cons h1 h2 => exact .cons (At.sub s h1) (AtL.sub s h2)
end
mutual
/-- a place that is not tracked is no place of the data -/
theorem At.ext {S : List Addr} {H : Hp} {f : Addr} (hf : H f = none) : ∀ {d : D} {x : V}, At S H x d → At (f :: S) H x d
  | .v _, _, h => by cases h; exact .v _
  | .l ds, _, h => by
    cases h with
    | l n e r => exact .l (fun z => (List.mem_cons.mp z).elim (fun q => ne_of_none e hf q) n) e (AtL.ext hf r)
  | .t ds, _, h => by
    cases h with
    | t n e r => exact .t (fun z => (List.mem_cons.mp z).elim (fun q => ne_of_none e hf q) n) e (AtL.ext hf r)
  | .d ks ds, _, h => by
    cases h with
    | d n e hl r => exact .d (fun z => (List.mem_cons.mp z).elim (fun q => ne_of_none e hf q) n) e hl (AtL.ext hf r)
  | .o C fs ds, _, h => by
    cases h with
    | o n e hl r => exact .o (fun z => (List.mem_cons.mp z).elim (fun q => ne_of_none e hf q) n) e hl (AtL.ext hf r)
theorem AtL.ext {S : List Addr} {H : Hp} {f : Addr} (hf : H f = none) : ∀ {ds : List D} {vs : List V}, AtL S H vs ds → AtL (f :: S) H vs ds
  | [], _, h => by cases h; exact .nil
  | d :: ds, _, h => by
    cases h with
    | cons h1 h2 => exact .cons (At.ext hf h1) (AtL.ext hf h2)
end
section
variable {S : List Addr} {H : Hp} {K : PySem.W.Frag}
theorem AtL.append : ∀ {vs ws : List V} {ds es : List D}, AtL S H vs ds → AtL S H ws es → AtL S H (vs ++ ws) (ds ++ es)
  | _, _, _, _, .nil, r => r
  | _, _, _, _, .cons h t, r => .cons h (AtL.append t r)
theorem AtL.get : ∀ {vs : List V} {ds : List D} {i : Nat} {d : D}, AtL S H vs ds → ds[i]? = some d → ∃ x, vs[i]? = some x ∧ At S H x d
  | _, _, _, _, .nil, e => by simp at e
  | _, _, 0, _, .cons h _, e => by simp at e; subst e; exact ⟨_, rfl, h⟩
  | _, _, i + 1, d, .cons _ t, e => by
    obtain ⟨x, h1, h2⟩ := AtL.get (i := i) (d := d) t (by simpa using e)
    exact ⟨x, by simpa using h1, h2⟩
theorem AtL.get' : ∀ {vs : List V} {ds : List D} {i : Nat} {x : V}, AtL S H vs ds → vs[i]? = some x → ∃ d, ds[i]? = some d ∧ At S H x d
  | _, _, _, _, .nil, e => by simp at e
  | _, _, 0, _, .cons h _, e => by simp at e; subst e; exact ⟨_, rfl, h⟩
  | _, _, i + 1, x, .cons _ t, e => by
    obtain ⟨d, h1, h2⟩ := AtL.get' (i := i) (x := x) t (by simpa using e)
    exact ⟨d, by simpa using h1, h2⟩
theorem AtL.take : ∀ {vs : List V} {ds : List D} (n : Nat), AtL S H vs ds → AtL S H (vs.take n) (ds.take n)
  | _, _, 0, _ => .nil
  | _, _, _ + 1, .nil => .nil
  | _, _, n + 1, .cons h t => .cons h (AtL.take n t)
theorem AtL.drop : ∀ {vs : List V} {ds : List D} (n : Nat), AtL S H vs ds → AtL S H (vs.drop n) (ds.drop n)
  | _, _, 0, r => r
  | _, _, _ + 1, .nil => .nil
  | _, _, n + 1, .cons _ t => AtL.drop n t
theorem AtL.eraseIdx : ∀ {vs : List V} {ds : List D} (n : Nat), AtL S H vs ds → AtL S H (vs.eraseIdx n) (ds.eraseIdx n)
  | _, _, _, .nil => .nil
  | _, _, 0, .cons _ t => t
  | _, _, n + 1, .cons h t => .cons h (AtL.eraseIdx n t)
/-- values that are no objects -/
theorem AtL.vals : ∀ (vs : List V), AtL S H vs (vs.map D.v)
  | [] => .nil
  | x :: xs => .cons (.v x) (AtL.vals xs)
theorem AtL.vals_eq : ∀ {vs ws : List V}, AtL S H vs (ws.map D.v) → vs = ws
  | [], [], _ => rfl
  | [], _ :: _, h => by cases h
  | _ :: _, [], h => by cases h
  | x :: xs, y :: ys, h => by
    cases h with
    | cons h1 h2 => cases h1; rw [AtL.vals_eq h2]
theorem At.list {a : Addr} {ds : List D} (h : At S H (.ref a) (.l ds)) : ∃ vs, a ∉ S ∧ H a = some (.lst vs) ∧ AtL S H vs ds := by
  cases h with
  | l n e r => exact ⟨_, n, e, r⟩
theorem At.isL {x : V} {ds : List D} (h : At S H x (.l ds)) : ∃ a vs, x = .ref a ∧ a ∉ S ∧ H a = some (.lst vs) ∧ AtL S H vs ds := by
  cases h with
  | l n e r => exact ⟨_, _, rfl, n, e, r⟩
theorem At.isT {x : V} {ds : List D} (h : At S H x (.t ds)) : ∃ a vs, x = .ref a ∧ a ∉ S ∧ H a = some (.tup vs) ∧ AtL S H vs ds := by
  cases h with
  | t n e r => exact ⟨_, _, rfl, n, e, r⟩
theorem At.isD {x : V} {ks : List Str} {ds : List D} (h : At S H x (.d ks ds)) : ∃ a vs, x = .ref a ∧ a ∉ S ∧ H a = some (.dK (zipK ks vs)) ∧ ks.length = ds.length ∧ AtL S H vs ds := by
  cases h with
  | d n e hl r => exact ⟨_, _, rfl, n, e, hl, r⟩
theorem At.isO {x : V} {C : Addr} {fs : List Str} {ds : List D} (h : At S H x (.o C fs ds)) : ∃ a dx vs, x = .ref a ∧ a ∉ S ∧ H a = some (.ins C dx (fs.zip vs)) ∧ fs.length = ds.length ∧ AtL S H vs ds := by
  cases h with
  | o n e hl r => exact ⟨_, _, _, rfl, n, e, hl, r⟩
theorem At.isV {x y : V} (h : At S H x (.v y)) : x = y := by cases h; rfl
end
/-! ### data without dicts and objects, for == -/
mutual
def D.py : D → Option PyData
  | .v .non => some .none
  | .v (.bl b) => some (.bool b)
  | .v (.int i) => some (.int i)
  | .v (.str x) => some (.str x)
  | .v _ => none
  | .l ds => (D.pys ds).map .list
  | .t ds => (D.pys ds).map .tuple
  | .d _ _ => none
  | .o _ _ _ => none
def D.pys : List D → Option (List PyData)
  | [] => some []
  | c :: cs => (D.py c).bind fun p => (D.pys cs).map (p :: ·)
end
mutual
theorem At.dp {K : PySem.W.Frag} {S : List Addr} {H : Hp} : ∀ {d : D} {x : V} {p : PyData}, At S H x d → d.py = some p → Dp K H x p
  | .v .non, _, _, h, e => by cases h; cases e; exact .non
  | .v (.bl b), _, _, h, e => by cases h; cases e; exact .bl b
  | .v (.int i), _, _, h, e => by cases h; cases e; exact .int i
  | .v (.str x), _, _, h, e => by cases h; cases e; exact .str x
  | .v (.byt _), _, _, h, e => by cases e
  | .v (.flt _), _, _, h, e => by cases e
  | .v (.ref _), _, _, h, e => by cases e
  | .v (.ty _), _, _, h, e => by cases e
  | .l ds, _, _, h, e => by
    cases h with
    | l n g r =>
      have e : (D.pys ds).map PyData.list = some _ := e
      obtain ⟨ps, e1, e2⟩ := Option.map_eq_some_iff.mp e
      subst e2
      exact .lst (.inl (.inl g)) (AtL.dp r e1)
  | .t ds, _, _, h, e => by
    cases h with
    | t n g r =>
      have e : (D.pys ds).map PyData.tuple = some _ := e
      obtain ⟨ps, e1, e2⟩ := Option.map_eq_some_iff.mp e
      subst e2
      exact .tup (.inl (.inl g)) (AtL.dp r e1)
  | .d _ _, _, _, h, e => by cases e
  | .o _ _ _, _, _, h, e => by cases e
theorem AtL.dp {K : PySem.W.Frag} {S : List Addr} {H : Hp} : ∀ {ds : List D} {vs : List V} {ps : List PyData}, AtL S H vs ds → D.pys ds = some ps → DpAll K H vs ps
  | [], _, _, h, e => by cases h; cases e; exact .nil
  | c :: ds, _, _, h, e => by
    cases h with
    | cons h1 h2 =>
      have e : (D.py c).bind (fun p => (D.pys ds).map (p :: ·)) = some _ := e
      obtain ⟨p, e1, e2⟩ := Option.bind_eq_some_iff.mp e
      obtain ⟨ps, e3, e4⟩ := Option.map_eq_some_iff.mp e2
      subst e4
      exact .cons (At.dp h1 e1) (AtL.dp h2 e3)
end
end NN
namespace NN
open PySem PySem.Spec PyProof.Rows L2
/-! ### operations over several kinds -/
section
variable {X : Cx}
theorem OpR.or {f : Value → Value → Sem Value} {r r' : R2} (h : OpR X f r) (h' : OpR X f r') : OpR X f (fun x y H Q => r x y H Q ∨ r' x y H Q) := by
  intro pins s σ H x y v u Q I rx ry q
  rcases q with q | q
  · exact h pins s σ H x y v u Q I rx ry q
  · exact h' pins s σ H x y v u Q I rx ry q
theorem CallR.or {f : Value} {r r' : List V → Hp → VK → Prop} (h : CallR X f r) (h' : CallR X f r') : CallR X f (fun x H Q => r x H Q ∨ r' x H Q) := by
  intro pins s σ H x u Q I rx q
  rcases q with q | q
  · exact h pins s σ H x u Q I rx q
  · exact h' pins s σ H x u Q I rx q
theorem SlR.or {r r' : V → Option Int → Option Int → Hp → VK → Prop} (h : SlR X r) (h' : SlR X r') : SlR X (fun x a b H Q => r x a b H Q ∨ r' x a b H Q) := by
  intro pins s σ H x v vl vu lo hi sl Q I rx h1 h2 h3 q
  rcases q with q | q
  · exact h pins s σ H x v vl vu lo hi sl Q I rx h1 h2 h3 q
  · exact h' pins s σ H x v vl vu lo hi sl Q I rx h1 h2 h3 q
theorem PSet.or {t t' : TSet} (h : PSet X t) (h' : PSet X t') : PSet X (fun o i v H Q => t o i v H Q ∨ t' o i v H Q) := by
  intro pins s σ H o i v ov iv u Q I ro ri rv q
  rcases q with q | q
  · exact h pins s σ H o i v ov iv u Q I ro ri rv q
  · exact h' pins s σ H o i v ov iv u Q I ro ri rv q
def rStr (f : Str → Str → Bool) : R2 := fun x y H Q => ∃ i j, x = .str i ∧ y = .str j ∧ Q (.bl (f i j)) H
def rAddS : R2 := fun x y H Q => ∃ i j, x = .str i ∧ y = .str j ∧ i.length + j.length ≤ sizeLine ∧ Q (.str (i ++ j)) H
def rAddU : R2 := fun x y H Q => rI0 (fun i j => .int (i + j)) x y H Q ∨ rAddS x y H Q ∨ rCat x y H Q
theorem op_addU : OpR X (binaryOp .Add) rAddU := OpR.or op_add (OpR.or op_add_str op_cat)
def rEqU (K : PySem.W.Frag) : R2 := fun x y H Q => rEq x y H Q ∨ rEqD K x y H Q
theorem op_eqU (hu : X.A.units + 64 < cLine) : OpR X (compareOp .Eq) (rEqU X.K) := OpR.or op_eq (op_eqD hu)
def rNeU (K : PySem.W.Frag) : R2 := fun x y H Q => rNe x y H Q ∨ rNeD K x y H Q
theorem op_neU (hu : X.A.units + 64 < cLine) : OpR X (compareOp .NotEq) (rNeU X.K) := OpR.or op_ne (op_neD hu)
def rCmpU (f : Int → Int → Bool) (g : Str → Str → Bool) : R2 := fun x y H Q => rI0 (fun i j => .bl (f i j)) x y H Q ∨ rStr g x y H Q
def rLtU : R2 := rCmpU (fun i j => decide (i < j)) (fun i j => decide (i.cps.toList < j.cps.toList))
def rLeU : R2 := rCmpU (fun i j => decide (i ≤ j)) (fun i j => !decide (j.cps.toList < i.cps.toList))
theorem op_ltU : OpR X (compareOp .Lt) rLtU := OpR.or op_lt op_lt_str
theorem op_leU : OpR X (compareOp .LtE) rLeU := OpR.or op_le op_le_str
def rGtU : R2 := rI0 (fun i j => .bl (decide (j < i)))
def rGeU : R2 := rI0 (fun i j => .bl (decide (j ≤ i)))
theorem op_gtU : OpR X (compareOp .Gt) rGtU := op_gt
theorem op_geU : OpR X (compareOp .GtE) rGeU := op_ge
def rInDict (neg : Bool) : R2 := fun y x H Q => ∃ a o, x = .ref a ∧ DGet H a y o ∧ Q (.bl (if neg then !o.isSome else o.isSome)) H
theorem op_in_dict (hu : X.A.units + 1 < cLine) : OpR X (compareOp .In) (rInDict false) := by
  intro pins s σ H y x v u Q I ry rx h
  obtain ⟨a, o, rfl, g, q⟩ := h
  obtain rfl : u = Value.ref a := rx
  exact d_in hu I g ry fun s3 I3 => ⟨.bl o.isSome, H, I3, rfl, q⟩
theorem op_notin_dict (hu : X.A.units + 1 < cLine) : OpR X (compareOp .NotIn) (rInDict true) := by
  intro pins s σ H y x v u Q I ry rx h
  obtain ⟨a, o, rfl, g, q⟩ := h
  obtain rfl : u = Value.ref a := rx
  exact d_notIn hu I g ry fun s3 I3 => ⟨.bl (!o.isSome), H, I3, rfl, q⟩
def rInSign (neg : Bool) : R2 := fun x y H Q => ∃ (c : Nat) (z : Str), x = .str ⟨#[c]⟩ ∧ y = .str z ∧ Q (.bl (if neg then !decide (c ∈ z.cps.toList) else decide (c ∈ z.cps.toList))) H
def rInU (K : PySem.W.Frag) (neg : Bool) : R2 := fun x y H Q => rIn K neg x y H Q ∨ rInDict neg x y H Q ∨ rInSign neg x y H Q
theorem op_inU (hu : X.A.units + 1 < cLine) : OpR X (compareOp .In) (rInU X.K false) := OpR.or op_in_seq (OpR.or (op_in_dict hu) op_in_sign)
theorem op_notInU (hu : X.A.units + 1 < cLine) : OpR X (compareOp .NotIn) (rInU X.K true) := OpR.or op_notIn_seq (OpR.or (op_notin_dict hu) op_notIn_sign)
def rIsNone (neg : Bool) : R2 := fun x y H Q => y = .non ∧ Q (.bl (if neg then !decide (x = .non) else decide (x = .non))) H
def rIsBool (neg : Bool) : R2 := fun x y H Q => ∃ a b : Bool, x = .bl a ∧ y = .bl b ∧ Q (.bl (if neg then !decide (a = b) else decide (a = b))) H
def rIsU (neg : Bool) : R2 := fun x y H Q => rIsNone neg x y H Q ∨ rIsBool neg x y H Q
theorem op_isU : OpR X (compareOp .Is) (rIsU false) := OpR.or op_isN op_isBl
theorem op_isNotU : OpR X (compareOp .IsNot) (rIsU true) := OpR.or op_notN op_notBl
/-! ### subscripts -/
def rIxD : R2 := fun x y H Q => ∃ a v, x = .ref a ∧ DGet H a y (some v) ∧ Q v H
theorem ix_dict (hu : X.A.units + 1 < cLine) : IxR X rIxD := by
  intro value slice pins s σ H x y v u Q I rx ry h hs
  obtain ⟨a, w, rfl, g, q⟩ := h
  obtain rfl : v = Value.ref a := rx
  have hT := dict_typeIs I g
  unfold subscriptTail
  refine wpAny_bind ?_
  rw [getitemInPython_of_ne hT.not_modules]
  refine wpAny_bind (wpAny_specialOf hT PySem.F.slot_dict_getitem.lookup ?_)
  have fin : wpAny (model X.prog X.w) X.A (subscripted slice false (Value.ref a) u) (fun r s₃ => wpAny (model X.prog X.w) X.A (letTemporaryGo value (Value.ref a) r >>= fun _ => pure r) (EP X pins σ Q) X.xe s₃) X.xe s := by
    rw [hs]
    refine wpAny_operating (d_getItem hu I g ry fun w' s3 I3 rw' => ?_)
    exact wpAny_bind (wpAny_letTemporaryGo (wpAny_pure ⟨w, H, I3, rw', q⟩))
  first
    | exact wpAny_pure (wpAny_bind fin)
    | exact wpAny_bind (wpAny_pure (wpAny_bind fin))
    | exact wpAny_bind fin
def rIxU (K : PySem.W.Frag) : R2 := fun x y H Q => rIx K x y H Q ∨ rIxD x y H Q
theorem ix_U (hu : X.A.units + 1 < cLine) : IxR X (rIxU X.K) := IxR.or ix_seq (ix_dict hu)
def rSetD : TSet := fun o i v H Q => ∃ a H', o = .ref a ∧ DPut H a i v H' ∧ Q H'
theorem set_dict (hu : X.A.units + 1 < cLine) : PSet X rSetD := by
  intro pins s σ H o i v ov iv u Q I ro ri rv h
  obtain ⟨a, H', rfl, g, q⟩ := h
  obtain rfl : ov = Value.ref a := ro
  exact d_setItem hu I g ri rv fun s4 I4 => ⟨H', I4, q⟩
def rSetU : TSet := fun o i v H Q => rSetL o i v H Q ∨ rSetD o i v H Q
theorem set_U (hu : X.A.units + 1 < cLine) : PSet X rSetU := PSet.or set_list (set_dict hu)
def rSlU (K : PySem.W.Frag) : V → Option Int → Option Int → Hp → VK → Prop := fun x lo hi H Q => rSlL K x lo hi H Q ∨ rSlS x lo hi H Q
theorem sl_U : SlR X (rSlU X.K) := SlR.or sl_list sl_str
/-! ### calls -/
def rLenU (K : PySem.W.Frag) : List V → Hp → VK → Prop := fun xs H Q => (∃ x n, xs = [x] ∧ LenV K x H n ∧ Q (.int n) H) ∨ ∃ a kvs, xs = [V.ref a] ∧ H a = some (.dK kvs) ∧ Q (.int kvs.length) H
theorem call_lenU : CallR X (.builtin "len") (rLenU X.K) := CallR.or call_len call_lenD
def rIsiU (K : PySem.W.Frag) : List V → Hp → VK → Prop := fun xs H Q => rIsi K xs H Q ∨ rIsiT K xs H Q
theorem call_isiU : CallR X (.builtin "isinstance") (rIsiU X.K) := CallR.or call_isi call_isiT
def rSortedD : List V → Hp → VK → Prop := fun xs H Q => ∃ (a : Addr) (kvs : List (Key × V)) (ks : List Str), xs = [.ref a] ∧ Rd H a (.dK kvs) ∧ kvs.map (·.1) = ks.map Sum.inr ∧ ks.length < 64 ∧
    ∀ ys p, ys.Perm ks → sortedS ys = true → H p = none → Q (.ref p) (upd H p (.lst (ys.map V.str)))
def rSortedU (K : PySem.W.Frag) : List V → Hp → VK → Prop := fun xs H Q => rSortedS K xs H Q ∨ rSortedD xs H Q
theorem call_sortedU (hc : X.calm = true) : CallR X (.builtin "sorted") (rSortedU X.K) := CallR.or cr_sortedS (call_sortedD hc)
def rTupleU (K : PySem.W.Frag) : List V → Hp → VK → Prop := fun xs H Q => ∃ p ys, xs = [.ref p] ∧ ((SqL K H p ys ∧ ∀ l, H l = none → Q (.ref l) (upd H l (.tup ys))) ∨ (SqT K H p ys ∧ Q (.ref p) H))
theorem call_tupleU : CallR X (.type "tuple") (rTupleU X.K) := call_tuple_of
def rListS (K : PySem.W.Frag) : List V → Hp → VK → Prop := fun xs H Q => ∃ p ys, xs = [.ref p] ∧ (SqL K H p ys ∨ SqT K H p ys) ∧ ∀ l, H l = none → Q (.ref l) (upd H l (.lst ys))
def rListD : List V → Hp → VK → Prop := fun xs H Q => ∃ (a : Addr) (kvs : List (Key × V)), xs = [.ref a] ∧ Rd H a (.dK kvs) ∧ ∀ p, H p = none → Q (.ref p) (upd H p (.lst (kvs.map fun kv => kV kv.1)))
def rListU (K : PySem.W.Frag) : List V → Hp → VK → Prop := fun xs H Q => rListS K xs H Q ∨ rListD xs H Q
theorem call_listU (hc : X.calm = true) : CallR X (.type "list") (rListU X.K) := CallR.or call_list_of (call_listD hc)
def rDictP (K : PySem.W.Frag) : List V → Hp → VK → Prop := fun xs H Q => ∃ (a : Addr) (ps : List Addr) (kvs : List (Key × V)), xs = [.ref a] ∧ SqL K H a (ps.map V.ref) ∧ Paired (fun p kv => SqT K H p [kV kv.1, kv.2]) ps kvs ∧
    ∀ p, H p = none → Q (.ref p) (upd H p (.dK (mergeK [] kvs)))
def rDictD : List V → Hp → VK → Prop := fun xs H Q => ∃ (a : Addr) (kvs : List (Key × V)), xs = [.ref a] ∧ Rd H a (.dK kvs) ∧ ∀ p, H p = none → Q (.ref p) (upd H p (.dK kvs))
def rDictU (K : PySem.W.Frag) : List V → Hp → VK → Prop := fun xs H Q => rDictP K xs H Q ∨ rDictD xs H Q
theorem call_dictU (hc : X.calm = true) : CallR X (.type "dict") (rDictU X.K) := CallR.or (call_dictP hc) call_dictD
theorem mt_indexU : MtR X "list.index" (rIndex X.K) := mt_index
/-! the same with the written part by its name -/
variable {K : PySem.W.Frag}
theorem op_eqK (h : X.K = K) (hu : X.A.units + 64 < cLine) : OpR X (compareOp .Eq) (rEqU K) := by subst h; exact op_eqU hu
theorem op_neK (h : X.K = K) (hu : X.A.units + 64 < cLine) : OpR X (compareOp .NotEq) (rNeU K) := by subst h; exact op_neU hu
theorem op_inK (h : X.K = K) (hu : X.A.units + 1 < cLine) : OpR X (compareOp .In) (rInU K false) := by subst h; exact op_inU hu
theorem op_notInK (h : X.K = K) (hu : X.A.units + 1 < cLine) : OpR X (compareOp .NotIn) (rInU K true) := by subst h; exact op_notInU hu
theorem ix_K (h : X.K = K) (hu : X.A.units + 1 < cLine) : IxR X (rIxU K) := by subst h; exact ix_U hu
theorem sl_K (h : X.K = K) : SlR X (rSlU K) := by subst h; exact sl_U
theorem call_lenK (h : X.K = K) : CallR X (.builtin "len") (rLenU K) := by subst h; exact call_lenU
theorem call_isiK' (h : X.K = K) : CallR X (.builtin "isinstance") (rIsiU K) := by subst h; exact call_isiU
theorem call_sortedK (h : X.K = K) (hc : X.calm = true) : CallR X (.builtin "sorted") (rSortedU K) := by subst h; exact call_sortedU hc
theorem call_tupleK (h : X.K = K) : CallR X (.type "tuple") (rTupleU K) := by subst h; exact call_tupleU
theorem call_listK (h : X.K = K) (hc : X.calm = true) : CallR X (.type "list") (rListU K) := by subst h; exact call_listU hc
theorem call_dictK (h : X.K = K) (hc : X.calm = true) : CallR X (.type "dict") (rDictU K) := by subst h; exact call_dictU hc
theorem cr_allK (h : X.K = K) (hc : X.calm = true) : CallR X (.builtin "all") (rAll K) := by subst h; exact cr_all hc
theorem mt_indexK (h : X.K = K) : MtR X "list.index" (rIndex K) := by subst h; exact mt_indexU
end
section
variable {X : Cx} {K : PySem.W.Frag}
theorem pe_fldK {e : Expr} {f : Str} {pos : Pos} {ta : TE} (h : X.K = K) (he : PE X e ta) (hb : attributeBase e f X.env (eval e X.env) = eval e X.env := by rfl) : PE X (.Attribute e f pos) (tFld K ta f) := by subst h; exact pe_fld he hb
theorem pg_tupK {es : List Expr} {k : Nat} {t : TGs} {n : Nat} {pos : Pos} (h : X.K = K) (hc : X.calm = true) (hp : PGs X es t)
    (hn : (assignEach es X.env).length = n := by rfl) (hst : (assignEach es X.env).findIdx? (·.1) = none := by rfl) : PG X (.Tuple es k pos) (gTup K n t) := by subst h; exact pg_tup hc hp hn hst
theorem pi_listK {tg l : Expr} {tl : TE} (h : X.K = K) (hl : PE X l tl) : PI X tg l (iList K tl) := by subst h; exact pi_list hl
theorem pe_orTK {a b : Expr} {rest : List Expr} {pos : Pos} {ta tb : TE} (h : X.K = K) (ha : PE X a ta) (hb : PE X (.BoolOp .Or (b :: rest) pos) tb) : PE X (.BoolOp .Or (a :: b :: rest) pos) (tOrT K ta tb) := by subst h; exact pe_orT ha hb
def tTruK (K : PySem.W.Frag) (ta : TE) : TT := fun σ H Q => ta σ H fun x H' => ∃ k, TruV K x H' k ∧ Q k H'
theorem pt_truthK {a : Expr} {ta : TE} (h : X.K = K) (ha : PE X a ta) (he : ∀ whole, isTrue a X.env whole = (do let v ← whole; standAt a.pos; holding [v] (truthy v)) := by intro _; rfl) : PT X a (tTruK K ta) := by subst h; exact pt_truth ha he
theorem pe_bmK {T id : String} {name : Str} {o e : Expr} {es : List Expr} {apos cpos : Pos} {to : TE} {t : TA} {r : V → List V → Hp → VK → Prop} (h : X.K = K) (pa : PlainAttrs T) (slot : Slot T name id) (hty : typeOf (.builtin id) = pure (.type "method_descriptor")) (hm : MtR X id r) (ho : PE X o to) (ha : PA X (e :: es) t)
    (hbase : attributeBase o name X.env (eval o X.env) = eval o X.env := by rfl)
    (hfew : ((backTo cpos (starEach (e :: es) X.env)).all (fun x => !x.1) && (backToKw cpos (keywordEach [] X.env)).all (fun x => x.1.isSome)
      && decide ((e :: es).length + ([] : List Keyword).length + (if ([] : List Keyword).isEmpty then 0 else 1) < 30)) = true := by rfl)
    (hline : (apos.endLine == cpos.line) = true := by rfl) (hs : starEach (e :: es) X.env = (false, eval e X.env) :: starEach es X.env := by rfl) (hplain : (backTo cpos (starEach es X.env)).any (·.1) = false := by rfl) :
    PE X (.Call (.Attribute o name apos) (e :: es) [] cpos) (tBM K T r to t) := by subst h; exact pe_bm pa slot hty hm ho ha hbase hfew hline hs hplain
theorem pe_bm0K {T id : String} {name : Str} {o : Expr} {apos cpos : Pos} {to : TE} {r : V → List V → Hp → VK → Prop} (h : X.K = K) (pa : PlainAttrs T) (slot : Slot T name id) (hty : typeOf (.builtin id) = pure (.type "method_descriptor")) (hm : MtR X id r) (ho : PE X o to)
    (hbase : attributeBase o name X.env (eval o X.env) = eval o X.env := by rfl) (hline : (apos.endLine == cpos.line) = true := by rfl) : PE X (.Call (.Attribute o name apos) [] [] cpos) (tBM0 K T r to) := by subst h; exact pe_bm0 pa slot hty hm ho hbase hline
def rJoin (K : PySem.W.Frag) : V → List V → Hp → VK → Prop := fun x xs H Q => ∃ a p, ∃ ys : List Str, x = .str a ∧ xs = [.ref p] ∧ (SqL K H p (ys.map V.str) ∨ SqT K H p (ys.map V.str)) ∧
      (ys.map (·.length)).sum + ys.length * a.length ≤ 16777216 ∧ Q (.str (Txt.join a ys)) H
theorem pe_joinK {o e : Expr} {to te : TE} {apos pos : Pos} (h : X.K = K) (ho : PE X o to) (he : PE X e te) (hs : starEach [e] X.env = [(false, eval e X.env)] := by rfl) (hbase : attributeBase o "join" X.env (eval o X.env) = eval o X.env := by rfl) (hline : (apos.endLine == pos.line) = true := by rfl) :
    PE X (.Call (.Attribute o "join" apos) [e] [] pos) (tM1 (rJoin K) to te) := by subst h; exact pe_join ho he hs hbase hline
theorem pi_enumK {e : Expr} {ta : TA} {p pos tpos : Pos} {elts : List Expr} {kk : Nat} (h : X.K = K) (hg : Gl X "enumerate") (hm : X.mg "enumerate" = none) (ha : PA X [e] ta) (hs : starEach [e] X.env = [(false, eval e X.env)] := by rfl) :
    PI X (.Tuple elts kk tpos) (.Call (.Name "enumerate" p) [e] [] pos) (iEnum K ta) := by subst h; exact pi_enum hg hm ha hs
theorem pi_zipK {e e2 : Expr} {ta : TA} {p pos tpos : Pos} {elts : List Expr} {kk : Nat} (h : X.K = K) (hg : Gl X "zip") (hm : X.mg "zip" = none) (ha : PA X [e, e2] ta)
    (hs : starEach [e, e2] X.env = (false, eval e X.env) :: starEach [e2] X.env := by rfl) (hpl : (backTo pos (starEach [e2] X.env)).any (·.1) = false := by rfl) :
    PI X (.Tuple elts kk tpos) (.Call (.Name "zip" p) [e, e2] [] pos) (iZip K ta) := by subst h; exact pi_zip hg hm ha hs hpl
theorem pi_reversedK {tg e : Expr} {ta : TA} {p pos : Pos} (h : X.K = K) (hg : Gl X "reversed") (hm : X.mg "reversed" = none) (ha : PA X [e] ta) (hs : starEach [e] X.env = [(false, eval e X.env)] := by rfl) : PI X tg (.Call (.Name "reversed" p) [e] [] pos) (iRev K ta) := by subst h; exact pi_reversed hg hm ha hs
end
/-! ### names of the top -/
section
variable {X : Cx} {x : Str} {pos : Pos}
theorem pe_globS {z : Str} (hg : Gl X x) (h : ∃ t, X.mg x = some (.str z t)) (hd : (x == ("__debug__" : Str)) = false := by decide) : PE X (.Name x pos) (tC (.str z)) := let ⟨t, e⟩ := h; pe_glob hg e ⟨t, rfl⟩ hd
theorem pe_globI {z : Int} (hg : Gl X x) (h : ∃ t, X.mg x = some (.int z t)) (hd : (x == ("__debug__" : Str)) = false := by decide) : PE X (.Name x pos) (tC (.int z)) := let ⟨t, e⟩ := h; pe_glob hg e ⟨t, rfl⟩ hd
theorem pe_globC {C : Addr} (hg : Gl X x) (h : X.mg x = some (.ref C)) (hd : (x == ("__debug__" : Str)) = false := by decide) : PE X (.Name x pos) (tC (.ref C)) := pe_glob hg h rfl hd
theorem pe_bty {n : String} (hg : Gl X x) (hm : X.mg x = none) (hv : bootBuiltins x = some (.type n)) (hn : x ≠ "__name__" := by decide) (hd : (x == ("__debug__" : Str)) = false := by decide) : PE X (.Name x pos) (tC (.ty n)) := pe_bltn hg hm hv rfl hn hd
end
/-! ### defs and classes by name -/
section
variable (P : Program) (w : World) (K : PySem.W.Frag) (mg : Str → Option Value) (base : Heap) (CX : CXT) (k : Nat)
def FnAt (x : Str) (ps : List Str) (sp : Sp) : Prop := ∃ f fd, mg x = some (.ref f) ∧ PySem.W.keepIn K (.ref f) = true ∧ Binds K fd ps [] ∧ FnOk P w K mg base CX k f fd ps sp
def MtAt (C : Addr) (m : Str) (ps : List Str) (sp : Sp) : Prop := ∃ f fd, Cls K C ∧ Meth K C m f ∧ Binds K fd ps [] ∧ FnOk P w K mg base CX k f fd ps sp
def MkAt (x : Str) (C : Addr) (ps : List Str) (sp : Sp) : Prop := ∃ f fd, mg x = some (.ref C) ∧ Mk K C f ∧ Binds K fd ps [] ∧ FnOk P w K mg base CX k f fd ps sp
end
section
variable {X : Cx} {CX : CXT} {k : Nat} {x m : Str} {C : Addr} {ps : List Str} {sp : Sp} {e o : Expr} {es : List Expr} {t : TA} {ta : TE} {p pos apos : Pos}
theorem pe_fn (F : FnAt X.prog X.w X.K X.mg X.base CX0 k x ps sp) (hr : Room k X.A) (ha : PA X (e :: es) t) (hg : Gl X x := by rfl) (hdb : (x == ("__debug__" : Str)) = false := by decide)
    (he : starEach (e :: es) X.env = (false, eval e X.env) :: starEach es X.env := by rfl) (hpl : (backTo pos (starEach es X.env)).any (·.1) = false := by rfl) : PE X (.Call (.Name x p) (e :: es) [] pos) (tCall sp [] E0 t) :=
  let ⟨_, _, h1, h2, h3, h4⟩ := F
  pe_call h4 hr hg h1 h2 h3 .nil pass0 ha hdb he hpl
theorem pe_mk (F : MkAt X.prog X.w X.K X.mg X.base CX0 k x C ps sp) (hr : Room (k + 1) X.A) (ha : PA X (e :: es) t) (hg : Gl X x := by rfl) (hdb : (x == ("__debug__" : Str)) = false := by decide)
    (he : starEach (e :: es) X.env = (false, eval e X.env) :: starEach es X.env := by rfl) (hpl : (backTo pos (starEach es X.env)).any (·.1) = false := by rfl) : PE X (.Call (.Name x p) (e :: es) [] pos) (tMake C sp [] E0 t) :=
  let ⟨_, _, h1, h2, h3, h4⟩ := F
  pe_make h2 h4 hr hg h1 h3 .nil pass0 ha hdb he hpl
theorem pe_mt {pl : Sem Bool} (F : MtAt X.prog X.w X.K X.mg X.base CX0 k C m ps sp) (ho : PE X o ta) (hr : Room k X.A) (ha : PA X (e :: es) t)
    (hst : starEach (e :: es) X.env = (false, eval e X.env) :: starEach es X.env := by rfl) (hpl : (backTo pos (starEach es X.env)).any (·.1) = false := by rfl)
    (ht : eval (.Call (.Attribute o m apos) (e :: es) [] pos) X.env = (do
      let ov ← eval o X.env
      standAt apos.atName
      let (f, first) ← holding [ov] (getMethod ov m pl)
      callWith pos f first (backTo pos (starEach (e :: es) X.env)) (backToKw pos (keywordEach [] X.env))) := by rfl) : PE X (.Call (.Attribute o m apos) (e :: es) [] pos) (tMeth C m sp [] E0 ta t) :=
  let ⟨_, _, h1, h2, h3, h4⟩ := F
  pe_meth (pl := pl) ho h1 h2 h4 hr h3 .nil pass0 ha hst hpl ht
theorem pe_mt0 {pl : Sem Bool} (F : MtAt X.prog X.w X.K X.mg X.base CX0 k C m ps sp) (ho : PE X o ta) (hr : Room k X.A)
    (ht : eval (.Call (.Attribute o m apos) [] [] pos) X.env = (do
      let ov ← eval o X.env
      standAt apos.atName
      let (f, first) ← holding [ov] (getMethod ov m pl)
      callWith pos f first (backTo pos (starEach [] X.env)) (backToKw pos (keywordEach [] X.env))) := by rfl) : PE X (.Call (.Attribute o m apos) [] [] pos) (tMeth C m sp [] E0 ta tNil) :=
  let ⟨_, _, h1, h2, h3, h4⟩ := F
  pe_meth0 (pl := pl) ho h1 h2 h4 hr h3 .nil pass0 ht
end
end NN
namespace NN
open PySem L2
/-! ### readings, one step each -/
section
variable {K : PySem.W.Frag} {σ : St} {H : Hp} {Q : VK} {QB : Bool → Hp → Prop} {D : Ends} {ta tb tc te : TE} {r r' : R2} {v x y : V}
theorem g_var {i : Nat} (h : σ[i]? = some (some v)) (q : Q v H) : tVar i σ H Q := ⟨v, h, q⟩
theorem g_c (q : Q v H) : tC v σ H Q := q
theorem g_op (q : ta σ H fun x H1 => tb σ H1 fun y H2 => r x y H2 Q) : tOp r ta tb σ H Q := q
theorem g_un {r : V → Hp → VK → Prop} (q : ta σ H fun x H1 => r x H1 Q) : tUn r ta σ H Q := q
theorem g_test (q : te σ H fun x H1 => ∃ c, x = .bl c ∧ QB c H1) : tTest te σ H QB := q
theorem g_B (q : te σ H fun x H1 => ∃ c, x = .bl c ∧ QB c H1) : tB te σ H QB := q
theorem g_isbl {b : Bool} {P : Bool → Prop} (q : P b) : ∃ c, V.bl b = .bl c ∧ P c := ⟨b, rfl, q⟩
theorem g_and {t u : TT} (q : t σ H fun c H1 => if c = true then u σ H1 QB else QB false H1) : tAnd t u σ H QB := q
theorem g_or {t u : TT} (q : t σ H fun c H1 => if c = true then QB true H1 else u σ H1 QB) : tOr t u σ H QB := q
theorem g_not {t : TT} (q : t σ H fun c H1 => QB (!c) H1) : tNot t σ H QB := q
theorem g_andV (q : ta σ H fun x H1 => ∃ c, x = .bl c ∧ if c = true then tb σ H1 Q else Q (.bl false) H1) : tAndV ta tb σ H Q := q
theorem g_orV (q : ta σ H fun x H1 => ∃ c, x = .bl c ∧ if c = true then Q (.bl true) H1 else tb σ H1 Q) : tOrV ta tb σ H Q := q
theorem g_notV (q : ta σ H fun x H1 => ∃ c, x = .bl c ∧ Q (.bl (!c)) H1) : tNotV ta σ H Q := q
theorem g_if {t : TT} (q : t σ H fun c H1 => if c = true then ta σ H1 Q else tb σ H1 Q) : tIf t ta tb σ H Q := q
theorem g_chain (q : ta σ H fun x H1 => tb σ H1 fun y H2 => r x y H2 fun z H3 => ∃ k, z = .bl k ∧ (if k = true then tc σ H3 fun w' H4 => r' y w' H4 Q else Q (.bl false) H3)) : tChain r r' ta tb tc σ H Q := q
theorem g_nil {QA : List V → Hp → Prop} (q : QA [] H) : tNil σ H QA := q
theorem g_cons {tr : TA} {QA : List V → Hp → Prop} (q : ta σ H fun x H1 => tr σ H1 fun xs H2 => QA (x :: xs) H2) : tCons ta tr σ H QA := q
theorem g_tup {t : TA} (q : t σ H fun xs H1 => xs.length ≤ sizeLine ∧ ∀ p, H1 p = none → Q (.ref p) (upd H1 p (.tup xs))) : tTup t σ H Q := q
theorem g_lst {t : TA} (q : t σ H fun xs H1 => xs.length ≤ sizeLine ∧ ∀ p, H1 p = none → Q (.ref p) (upd H1 p (.lst xs))) : tLst t σ H Q := q
theorem g_cb {r : List V → Hp → VK → Prop} {t : TA} (q : t σ H fun vs H1 => r vs H1 Q) : tCB r t σ H Q := q
theorem g_call {sp : Sp} {E : XK} {t : TA} (q : t σ H fun vs H1 => sp (vs ++ []) H1 Q E) : tCall sp [] E t σ H Q := q
theorem g_sl {rs : V → Option Int → Option Int → Hp → VK → Prop} {tl th : TO} (q : te σ H fun x H1 => tl σ H1 fun l H2 => th σ H2 fun u H3 => rs x l u H3 Q) : tSl rs te tl th σ H Q := q
theorem g_part {QO : Option Int → Hp → Prop} (q : te σ H fun x H1 => ∃ i, x = .int i ∧ QO (some i) H1) : tPart te σ H QO := q
theorem g_isint {i : Int} {P : Int → Prop} (q : P i) : ∃ c, V.int i = .int c ∧ P c := ⟨i, rfl, q⟩
theorem g_nopart {QO : Option Int → Hp → Prop} (q : QO none H) : tNoPart σ H QO := q
theorem g_bm {T : String} {r : V → List V → Hp → VK → Prop} {t : TA} (q : te σ H fun x H1 => tyV K T x H1 ∧ t σ H1 fun xs H2 => r x xs H2 Q) : tBM K T r te t σ H Q := q
theorem g_bm0 {T : String} {r : V → List V → Hp → VK → Prop} (q : te σ H fun x H1 => tyV K T x H1 ∧ r x [] H1 Q) : tBM0 K T r te σ H Q := q
theorem g_m1 {r : V → List V → Hp → VK → Prop} (q : ta σ H fun x H1 => (∃ a, x = .str a) ∧ te σ H1 fun y H2 => r x [y] H2 Q) : tM1 r ta te σ H Q := q
theorem g_isstr {z : Str} {P : Prop} (q : P) : (∃ a, V.str z = .str a) ∧ P := ⟨⟨z, rfl⟩, q⟩
theorem g_fld {f : Str} (q : ta σ H fun x H1 => ∃ a C dx fs v, x = .ref a ∧ H1 a = some (.ins C dx fs) ∧ Cls K C ∧ NoAttr K C f ∧ fs.lookup f = some v ∧ Q v H1) : tFld K ta f σ H Q := q
theorem g_meth {C : Addr} {m : Str} {sp : Sp} {E : XK} {t : TA} (q : ta σ H fun x H1 => ∃ a dx fs, x = .ref a ∧ H1 a = some (.ins C dx fs) ∧ fs.lookup m = none ∧ t σ H1 fun vs H2 => sp (x :: (vs ++ [])) H2 Q E) : tMeth C m sp [] E ta t σ H Q := q
theorem g_make {C : Addr} {sp : Sp} {E : XK} {t : TA} (q : t σ H fun vs H1 => ∀ x dx, H1 x = none → H1 dx = none → dx ≠ x → sp (.ref x :: (vs ++ [])) (upd (upd H1 dx (.own x)) x (.ins C dx [])) (fun v H2 => v = .non ∧ Q (.ref x) H2) E) : tMake C sp [] E t σ H Q := q
theorem g_get2 {td ty tx : TE} (q : td σ H fun x H1 => ∃ a, x = .ref a ∧ IsD H1 a ∧ ty σ H1 fun y H2 => tx σ H2 fun z H3 => ∃ o, DGet H3 a y o ∧ Q (o.getD z) H3) : tDGet2 td ty tx σ H Q := q
theorem g_disp {trs : List (TE × TE)} (q : ∀ p, H p = none → tPairs trs σ (upd H p (.dK [])) fun ps H2 => H2 p = some (.dK []) ∧ ∃ kvs : List (Key × V), ps = kvs.map (fun kv => (kV kv.1, kv.2)) ∧ kvs.length ≤ 15 ∧ Q (.ref p) (upd H2 p (.dK (mergeK [] kvs)))) : tDisp trs σ H Q := q
theorem g_pnil {QP : List (V × V) → Hp → Prop} (q : QP [] H) : tPairs [] σ H QP := q
theorem g_pcons {tk tv : TE} {r : List (TE × TE)} {QP : List (V × V) → Hp → Prop} (q : tk σ H fun x H1 => tv σ H1 fun y H2 => tPairs r σ H2 fun ps H3 => QP ((x, y) :: ps) H3) : tPairs ((tk, tv) :: r) σ H QP := q
theorem g_new (q : ∀ p, H p = none → Q (.ref p) (upd H p (.dK []))) : tDNewK σ H Q := q
/-! statements -/
theorem g_seq {t u : TS} (q : t { D with nx := u D } σ H) : tSeq t u D σ H := q
theorem g_next (q : D.nx σ H) : tNext D σ H := q
theorem g_asg {g : TG} (q : te σ H fun x H1 => g x σ H1 D.nx) : tAsg te g D σ H := q
theorem g_drop (q : te σ H fun _ H1 => D.nx σ H1) : tDrop te D σ H := q
theorem g_ret (q : te σ H D.rt) : tRet te D σ H := q
theorem g_retN (q : D.rt .non H) : tRetN D σ H := q
theorem g_ifS {c : TT} {t u : TS} (q : c σ H fun b H1 => if b = true then t D σ H1 else u D σ H1) : tIfS c t u D σ H := q
theorem g_sfld {f : Str} (q : tb σ H fun y H1 => ta σ H1 fun x H2 => ∃ a C dx fs, x = .ref a ∧ H2 a = some (.ins C dx fs) ∧ Cls K C ∧ NoAttr K C f ∧ fs.length < 1000 ∧ D.nx σ (upd H2 a (.ins C dx (putF f y fs)))) : sFld K ta tb f D σ H := q
theorem g_aug {i : Nat} {ti : TIp} (h : σ[i]? = some (some x)) (q : te σ H fun y H1 => ti x y H1 fun z H2 => D.nx (σ.set i (some z)) H2) : tAug i te ti D σ H := ⟨x, h, q⟩
theorem g_ipI {f : Int → Int → Int} {i j : Int} (q : Q (.int (f i j)) H) : ipI f (.int i) (.int j) H Q := ⟨i, j, rfl, rfl, q⟩
theorem g_st {N : List Str} {vs : List V} (σ' : St) {t : TS} (h : start N vs = σ') (q : t D σ' H) : t D (start N vs) H := by rw [h]; exact q
/-! targets -/
theorem g_name {i : Nat} {QS : St → Hp → Prop} (q : QS (σ.set i (some v)) H) : gName i v σ H QS := q
theorem g_tgt {n : Nat} {t : TGs} {a : Addr} {xs : List V} {QS : St → Hp → Prop} (h : SqT K H a xs) (hn : xs.length = n) (q : t xs σ H QS) : gTup K n t (.ref a) σ H QS := ⟨a, xs, rfl, h, hn, q⟩
theorem g_gcons {t : TG} {u : TGs} {vs : List V} {QS : St → Hp → Prop} (q : t v σ H fun σ' H' => u vs σ' H' QS) : gCons t u (v :: vs) σ H QS := ⟨v, vs, rfl, q⟩
theorem g_gnil {QS : St → Hp → Prop} (q : QS σ H) : gNil [] σ H QS := ⟨rfl, q⟩
theorem g_gsub {to ti : TE} {t : TSet} {QS : St → Hp → Prop} (q : to σ H fun o H1 => ti σ H1 fun i H2 => t o i v H2 fun H3 => QS σ H3) : gSub to ti t v σ H QS := q
/-! by values -/
theorem g_rI {C : Int → Int → Prop} {g : Int → Int → V} {i j : Int} (c : C i j) (q : Q (g i j) H) : rI C g (.int i) (.int j) H Q := ⟨i, j, rfl, rfl, c, q⟩
theorem g_rI0 {g : Int → Int → V} {i j : Int} (q : Q (g i j) H) : rI0 g (.int i) (.int j) H Q := ⟨i, j, rfl, rfl, q⟩
theorem g_rU {g : Int → V} {i : Int} (q : Q (g i) H) : rU g (.int i) H Q := ⟨i, rfl, q⟩
theorem g_addI {i j : Int} (q : Q (.int (i + j)) H) : rAddU (.int i) (.int j) H Q := .inl ⟨i, j, rfl, rfl, q⟩
theorem g_addS {i j : Str} (c : i.length + j.length ≤ sizeLine) (q : Q (.str (i ++ j)) H) : rAddU (.str i) (.str j) H Q := .inr (.inl ⟨i, j, rfl, rfl, c, q⟩)
theorem g_addL {a b : Addr} {xs ys : List V} (ha : H a = some (.lst xs)) (hb : H b = some (.lst ys)) (c : xs.length + ys.length ≤ sizeLine) (q : ∀ p, H p = none → Q (.ref p) (upd H p (.lst (xs ++ ys)))) : rAddU (.ref a) (.ref b) H Q :=
  .inr (.inr ⟨a, b, xs, ys, rfl, rfl, ha, hb, c, q⟩)
theorem g_eqS (c : scal x y = true) (q : Q (.bl (decide (x = y))) H) : rEqU K x y H Q := .inl ⟨c, q⟩
theorem g_neS (c : scal x y = true) (q : Q (.bl (!decide (x = y))) H) : rNeU K x y H Q := .inl ⟨c, q⟩
theorem g_eqD {d e : PyData} (h1 : Dp K H x d) (h2 : Dp K H y e) (s1 : SeqAt.shaped d = true) (s2 : SeqAt.shaped e = true) (q : Q (.bl (PyData.eqv d e)) H) : rEqU K x y H Q := .inr ⟨d, e, h1, h2, s1, s2, q⟩
theorem g_neD {d e : PyData} (h1 : Dp K H x d) (h2 : Dp K H y e) (s1 : SeqAt.shaped d = true) (s2 : SeqAt.shaped e = true) (q : Q (.bl (!PyData.eqv d e)) H) : rNeU K x y H Q := .inr ⟨d, e, h1, h2, s1, s2, q⟩
theorem g_ltI {i j : Int} (q : Q (.bl (decide (i < j))) H) : rLtU (.int i) (.int j) H Q := .inl ⟨i, j, rfl, rfl, q⟩
theorem g_leI {i j : Int} (q : Q (.bl (decide (i ≤ j))) H) : rLeU (.int i) (.int j) H Q := .inl ⟨i, j, rfl, rfl, q⟩
theorem g_gtI {i j : Int} (q : Q (.bl (decide (j < i))) H) : rGtU (.int i) (.int j) H Q := ⟨i, j, rfl, rfl, q⟩
theorem g_geI {i j : Int} (q : Q (.bl (decide (j ≤ i))) H) : rGeU (.int i) (.int j) H Q := ⟨i, j, rfl, rfl, q⟩
theorem g_ltS {i j : Str} (q : Q (.bl (decide (i.cps.toList < j.cps.toList))) H) : rLtU (.str i) (.str j) H Q := .inr ⟨i, j, rfl, rfl, q⟩
theorem g_leS {i j : Str} (q : Q (.bl (!decide (j.cps.toList < i.cps.toList))) H) : rLeU (.str i) (.str j) H Q := .inr ⟨i, j, rfl, rfl, q⟩
theorem g_inSign {neg : Bool} {c : Nat} {z : Str} (q : Q (.bl (if neg then !decide (c ∈ z.cps.toList) else decide (c ∈ z.cps.toList))) H) : rInU K neg (.str ⟨#[c]⟩) (.str z) H Q := .inr (.inr ⟨c, z, rfl, rfl, q⟩)
theorem g_inD {neg : Bool} {a : Addr} {o : Option V} (h : DGet H a y o) (q : Q (.bl (if neg then !o.isSome else o.isSome)) H) : rInU K neg y (.ref a) H Q := .inr (.inl ⟨a, o, rfl, h, q⟩)
theorem g_inL {neg : Bool} {a : Addr} {xs : List V} (h : H a = some (.lst xs)) (c1 : flatV x = true) (c2 : xs.all flatV = true) (q : Q (.bl (if neg then !inV x xs else inV x xs)) H) : rInU K neg x (.ref a) H Q := .inl ⟨a, xs, rfl, .inl (SqL.of h), c1, c2, q⟩
theorem g_inT {neg : Bool} {a : Addr} {xs : List V} (h : H a = some (.tup xs)) (c1 : flatV x = true) (c2 : xs.all flatV = true) (q : Q (.bl (if neg then !inV x xs else inV x xs)) H) : rInU K neg x (.ref a) H Q := .inl ⟨a, xs, rfl, .inr (SqT.of h), c1, c2, q⟩
theorem g_isN {neg : Bool} (q : Q (.bl (if neg then !decide (x = .non) else decide (x = .non))) H) : rIsU neg x .non H Q := .inl ⟨rfl, q⟩
theorem g_isB {neg : Bool} {a b : Bool} (q : Q (.bl (if neg then !decide (a = b) else decide (a = b))) H) : rIsU neg (.bl a) (.bl b) H Q := .inr ⟨a, b, rfl, rfl, q⟩
theorem g_ixL {a : Addr} {xs : List V} {i : Int} (h : H a = some (.lst xs)) (c : atI xs i = some v) (q : Q v H) : rIxU K (.ref a) (.int i) H Q := .inl (.inl ⟨a, xs, i, v, rfl, rfl, SqL.of h, c, q⟩)
theorem g_ixT {a : Addr} {xs : List V} {i : Int} (h : H a = some (.tup xs)) (c : atI xs i = some v) (q : Q v H) : rIxU K (.ref a) (.int i) H Q := .inl (.inr (.inl ⟨a, xs, i, v, rfl, rfl, SqT.of h, c, q⟩))
theorem g_ixS {z : Str} {i : Int} {c : Nat} (h : z.length ≤ sizeLine) (e : atI z.cps.toList i = some c) (q : Q (.str ⟨#[c]⟩) H) : rIxU K (.str z) (.int i) H Q := .inl (.inr (.inr ⟨z, i, c, rfl, rfl, h, e, q⟩))
theorem g_ixD {a : Addr} (h : DGet H a y (some v)) (q : Q v H) : rIxU K (.ref a) y H Q := .inr ⟨a, v, rfl, h, q⟩
theorem g_setL {p : Addr} {xs : List V} {k : Int} {j : Nat} {QH : Hp → Prop} (h : H p = some (.lst xs)) (c : ixN xs.length k = some j) (q : QH (upd H p (.lst (xs.set j v)))) : rSetU (.ref p) (.int k) v H QH := .inl ⟨p, xs, k, j, rfl, rfl, h, c, q⟩
theorem g_setD {p : Addr} {kvs : List (Key × V)} {k : Str} {QH : Hp → Prop} (h : H p = some (.dK kvs)) (c : kvs.length < sizeLine) (q : QH (upd H p (.dK (putK kvs (.inr k) v)))) : rSetU (.ref p) (.str k) v H QH := .inr ⟨p, _, rfl, DPut.k (k := .inr k) h c, q⟩
theorem g_slL {a : Addr} {xs : List V} {lo hi : Option Int} (h : H a = some (.lst xs)) (q : ∀ p, H p = none → Q (.ref p) (upd H p (.lst (cutV xs lo hi)))) : rSlU K (.ref a) lo hi H Q := .inl ⟨a, xs, rfl, SqL.of h, q⟩
theorem g_slS {z : Str} {lo hi : Option Int} (c : z.length ≤ sizeLine) (q : Q (.str (cutS z lo hi)) H) : rSlU K (.str z) lo hi H Q := .inr ⟨z, rfl, c, q⟩
theorem g_lenL {a : Addr} {xs : List V} (h : H a = some (.lst xs)) (q : Q (.int xs.length) H) : rLenU K [.ref a] H Q := .inl ⟨_, _, rfl, .inl ⟨xs, SqL.of h, rfl⟩, q⟩
theorem g_lenT {a : Addr} {xs : List V} (h : H a = some (.tup xs)) (q : Q (.int xs.length) H) : rLenU K [.ref a] H Q := .inl ⟨_, _, rfl, .inr ⟨xs, SqT.of h, rfl⟩, q⟩
theorem g_lenS {z : Str} (c : z.length ≤ sizeLine) (q : Q (.int z.length) H) : rLenU K [.str z] H Q := .inl ⟨_, _, rfl, ⟨c, rfl⟩, q⟩
theorem g_lenD {a : Addr} {kvs : List (Key × V)} (h : H a = some (.dK kvs)) (q : Q (.int kvs.length) H) : rLenU K [.ref a] H Q := .inr ⟨a, kvs, rfl, h, q⟩
theorem g_isi {n : String} {t : Value} {b : Bool} (h : TyX K H x t) (c : PySem.W.kitOne K t (.type n) = some b) (q : Q (.bl b) H) : rIsiU K [x, .ty n] H Q := .inl ⟨x, .ty n, t, _, b, rfl, .ty n, h, c, q⟩
theorem g_isiS {n : String} {z : Str} (b : Bool) (c : kitB "str" n = some b) (q : Q (.bl b) H) : rIsiU K [.str z, .ty n] H Q := g_isi (.base (.str _)) (kit_ty c) q
theorem g_isiI {n : String} {z : Int} (b : Bool) (c : kitB "int" n = some b) (q : Q (.bl b) H) : rIsiU K [.int z, .ty n] H Q := g_isi (.base (.int _)) (kit_ty c) q
theorem g_isiB {n : String} {z : Bool} (b : Bool) (c : kitB "bool" n = some b) (q : Q (.bl b) H) : rIsiU K [.bl z, .ty n] H Q := g_isi (.base (.bl _)) (kit_ty c) q
theorem g_isiN {n : String} (b : Bool) (c : kitB "NoneType" n = some b) (q : Q (.bl b) H) : rIsiU K [.non, .ty n] H Q := g_isi (.base .non) (kit_ty c) q
theorem g_isiL {n : String} {a : Addr} {xs : List V} (b : Bool) (h : H a = some (.lst xs)) (c : kitB "list" n = some b) (q : Q (.bl b) H) : rIsiU K [.ref a, .ty n] H Q := g_isi (.base (.lst h)) (kit_ty c) q
theorem g_isiT {n : String} {a : Addr} {xs : List V} (b : Bool) (h : H a = some (.tup xs)) (c : kitB "tuple" n = some b) (q : Q (.bl b) H) : rIsiU K [.ref a, .ty n] H Q := g_isi (.base (.tup h)) (kit_ty c) q
theorem g_isiD {n : String} {a : Addr} {kvs : List (Key × V)} (b : Bool) (h : H a = some (.dK kvs)) (c : kitB "dict" n = some b) (q : Q (.bl b) H) : rIsiU K [.ref a, .ty n] H Q := g_isi (.base (.dK h)) (kit_ty c) q
theorem g_all {a : Addr} {bs : List Bool} (h : H a = some (.lst (bs.map V.bl))) (q : Q (.bl (bs.all id)) H) : rAll K [.ref a] H Q := ⟨a, bs, rfl, SqL.of h, q⟩
theorem g_tupL {a : Addr} {xs : List V} (h : H a = some (.lst xs)) (q : ∀ l, H l = none → Q (.ref l) (upd H l (.tup xs))) : rTupleU K [.ref a] H Q := ⟨a, xs, rfl, .inl ⟨SqL.of h, q⟩⟩
theorem g_listL {a : Addr} {xs : List V} (h : H a = some (.lst xs)) (q : ∀ l, H l = none → Q (.ref l) (upd H l (.lst xs))) : rListU K [.ref a] H Q := .inl ⟨a, xs, rfl, .inl (SqL.of h), q⟩
theorem g_listT {a : Addr} {xs : List V} (h : H a = some (.tup xs)) (q : ∀ l, H l = none → Q (.ref l) (upd H l (.lst xs))) : rListU K [.ref a] H Q := .inl ⟨a, xs, rfl, .inr (SqT.of h), q⟩
theorem g_listD {a : Addr} {kvs : List (Key × V)} (h : H a = some (.dK kvs)) (q : ∀ l, H l = none → Q (.ref l) (upd H l (.lst (kvs.map fun kv => kV kv.1)))) : rListU K [.ref a] H Q := .inr ⟨a, kvs, rfl, .inl h, q⟩
theorem g_dictD {a : Addr} {kvs : List (Key × V)} (h : H a = some (.dK kvs)) (q : ∀ l, H l = none → Q (.ref l) (upd H l (.dK kvs))) : rDictU K [.ref a] H Q := .inr ⟨a, kvs, rfl, .inl h, q⟩
theorem g_append {a : Addr} {xs : List V} (h : H a = some (.lst xs)) (c : xs.length < sizeLine) (q : Q .non (upd H a (.lst (xs ++ [y])))) : rAppend (.ref a) [y] H Q := ⟨a, xs, y, rfl, rfl, h, c, q⟩
theorem g_extend {a b : Addr} {xs ys : List V} (h : H a = some (.lst xs)) (hb : H b = some (.lst ys)) (c : xs.length + ys.length ≤ sizeLine) (q : Q .non (upd H a (.lst (xs ++ ys)))) : rExtend (.ref a) [.ref b] H Q := ⟨a, b, xs, ys, rfl, rfl, h, hb, c, q⟩
theorem tyL {a : Addr} {xs : List V} (h : H a = some (.lst xs)) : tyV K "list" (.ref a) H := .inl ⟨rfl, _, SqL.of h⟩
theorem g_ty {T : String} {P : Prop} (h : tyV K T x H) (q : P) : tyV K T x H ∧ P := ⟨h, q⟩
/-! ifs -/
theorem g_ifB {b : Bool} {A B : Prop} (h1 : b = true → A) (h2 : b = false → B) : if b = true then A else B := by
  cases b with
  | true => rw [if_pos rfl]; exact h1 rfl
  | false => rw [if_neg Bool.false_ne_true]; exact h2 rfl
theorem g_ifT {b : Bool} {A B : Prop} (h : b = true) (q : A) : if b = true then A else B := by rw [if_pos h]; exact q
theorem g_ifF {b : Bool} {A B : Prop} (h : b = false) (q : B) : if b = true then A else B := by rw [h, if_neg Bool.false_ne_true]; exact q
end
theorem sz1 {n : Nat} (h : n ≤ 100000) : n ≤ sizeLine := Nat.le_trans h (by decide)
theorem sz2 {n : Nat} (h : n < 100000) : n < sizeLine := Nat.lt_of_lt_of_le h (by decide)
end NN
namespace NN
open PySem L2
theorem Kp.drop {S : List Addr} {H H' : Hp} {f : Addr} (hf : H f = none) (k : Kp (f :: S) H H') : Kp S H H' := fun a o e n => k a o e fun z => (List.mem_cons.mp z).elim (ne_of_none e hf) n
theorem Kp.add {S : List Addr} {H H' : Hp} {f : Addr} (k : Kp S H H') : Kp (f :: S) H H' := k.sub fun _ h => List.mem_cons_of_mem _ h
theorem Kp.upd {S : List Addr} {H H' : Hp} {f : Addr} {o : HO} (k : Kp S H H') (h : f ∈ S) : Kp S H (upd H' f o) := k.trans (Kp.mut h)
theorem Kp.upn {S : List Addr} {H H' : Hp} {f : Addr} {o : HO} (k : Kp S H H') (h : H' f = none) : Kp S H (L2.upd H' f o) := k.trans (Kp.new h)
section
variable {K : PySem.W.Frag} {J : It} {n : Nat} {G : Hp → Prop} {Y : Nat → Hp → V → Hp → Prop} {σ : St} {H : Hp} {g : TG} {Q : VK}
/-- what a comprehension asks once its iterator is there -/
def LcG (J : It) (g : TG) (tt : TT) (te : TE) (vs : List Nat) (σ : St) (H1 : Hp) (D : Addr) (Q : VK) : Prop := ∃ W : Nat → Nat → Hp → Prop, (∃ m, W 0 m (upd H1 D (.lst []))) ∧ ∀ i m H, W i m H →
      (J.stop i H ∧ Q (.ref D) H) ∨ (J.go i H ∧ ∃ Nx : Hp → Prop, (∀ H', Nx H' → ∃ m', m' < m ∧ W (i + 1) m' H') ∧ ∀ x H', J.yld i H x H' → g x (wipe σ vs) H' fun σ2 H2 => wipe σ2 vs = wipe σ vs ∧ tt σ2 H2 fun b H3 =>
        if b = true then te σ2 H3 fun y H4 => ∃ acc, H4 D = some (.lst acc) ∧ acc.length < sizeLine ∧ Nx (upd H4 D (.lst (acc ++ [y]))) else Nx H3)
theorem g_lc {wi : TI} {tt : TT} {te : TE} {vs : List Nat} (q : wi σ H fun J H1 => ∀ D, H1 D = none → LcG J g tt te vs σ H1 D Q) : tLc wi g tt te vs σ H Q := q
def ForG (J : It) (g : TG) (tb : TS) (D : Ends) (σ : St) (H1 : Hp) : Prop := ∃ W : Nat → Nat → St → Hp → Prop, (∃ m, W 0 m σ H1) ∧ ∀ i m σ H, W i m σ H →
      (J.stop i H ∧ D.nx σ H) ∨ (J.go i H ∧ ∃ N : St → Hp → Prop, (∀ σ' H', N σ' H' → ∃ m', m' < m ∧ W (i + 1) m' σ' H') ∧ ∀ x H', J.yld i H x H' → g x σ H' fun σ2 H2 => tb { D with nx := N, ct := N, bk := D.nx } σ2 H2)
theorem g_for {wi : TI} {tb : TS} {D : Ends} (q : wi σ H fun J H1 => ForG J g tb D σ H1) : tFor wi g tb D σ H := q
theorem g_iList {tl : TE} {R : It → Hp → Prop} (q : tl σ H fun x H1 => ∃ a, x = .ref a ∧ (∃ xs, SqL K H1 a xs) ∧ R (Itl K a) H1) : iList K tl σ H R := q
theorem g_iL {a : Addr} {xs : List V} {R : Addr → Prop} (h : H a = some (.lst xs)) (q : R a) : ∃ b, V.ref a = .ref b ∧ (∃ xs, SqL K H b xs) ∧ R b := ⟨a, rfl, ⟨xs, SqL.of h⟩, q⟩
theorem g_iStr {tl : TE} {R : It → Hp → Prop} (q : tl σ H fun v H1 => ∃ x, v = .str x ∧ R (Its x) H1) : iStr tl σ H R := q
theorem g_iS {z : Str} {P : Str → Prop} (q : P z) : ∃ x, V.str z = .str x ∧ P x := ⟨z, rfl, q⟩
theorem g_iRng1 {ta : TA} {R : It → Hp → Prop} (q : ta σ H fun vs H1 => ∃ j : Int, vs = [.int j] ∧ -(2 ^ 62) ≤ j ∧ j < 2 ^ 62 ∧ R (Itr 0 j.toNat) H1) : iRng1 ta σ H R := q
theorem g_iR {j : Int} {R : Int → Prop} (c : -(2 ^ 62) ≤ j ∧ j < 2 ^ 62) (q : R j) : ∃ i : Int, [V.int j] = [.int i] ∧ -(2 ^ 62) ≤ i ∧ i < 2 ^ 62 ∧ R i := ⟨j, rfl, c.1, c.2, q⟩
theorem g_iEnum {ta : TA} {R : It → Hp → Prop} (q : ta σ H fun vs H1 => ∃ a xs, vs = [.ref a] ∧ SqL K H1 a xs ∧ R (Ite K a) H1) : iEnum K ta σ H R := q
theorem g_iE {a : Addr} {xs : List V} {R : Addr → Prop} (h : SqL K H a xs) (q : R a) : ∃ b xs, [V.ref a] = [.ref b] ∧ SqL K H b xs ∧ R b := ⟨a, xs, rfl, h, q⟩
theorem g_iRev {ta : TA} {R : It → Hp → Prop} (q : ta σ H fun vs H1 => ∃ (a : Addr) (xs : List V), vs = [.ref a] ∧ SqL K H1 a xs ∧ R (Itv K a xs.length) H1) : iRev K ta σ H R := q
theorem g_iV {a : Addr} {xs : List V} {R : Addr → List V → Prop} (h : H a = some (.lst xs)) (q : R a xs) : ∃ (b : Addr) (xs : List V), [V.ref a] = [.ref b] ∧ SqL K H b xs ∧ R b xs := ⟨a, xs, rfl, SqL.of h, q⟩
theorem g_iZip {ta : TA} {R : It → Hp → Prop} (q : ta σ H fun vs H1 => ∃ a b xs ys, vs = [.ref a, .ref b] ∧ SqL K H1 a xs ∧ SqL K H1 b ys ∧ R (Itz K a b) H1) : iZip K ta σ H R := q
theorem g_iZ {a b : Addr} {xs ys : List V} {R : Addr → Addr → Prop} (h : H a = some (.lst xs)) (h' : H b = some (.lst ys)) (q : R a b) : ∃ a' b' xs ys, [V.ref a, V.ref b] = [.ref a', .ref b'] ∧ SqL K H a' xs ∧ SqL K H b' ys ∧ R a' b' := ⟨a, b, xs, ys, rfl, SqL.of h, SqL.of h', q⟩
theorem g_iKeys {td : TE} {R : It → Hp → Prop} (q : td σ H fun x H1 => ∃ d o, x = .ref d ∧ ((∃ kvs, H1 d = some (.frz o (.dK kvs)) ∧ R (Itk d o kvs) H1) ∨ ∃ kvs, H1 d = some (.frz o (.dT kvs)) ∧ R (Itkt d o kvs) H1)) : iKeys td σ H R := q
theorem g_iK {d : Addr} {o : Obj} {kvs : List (Key × V)} {R : Addr → Obj → List (Key × V) → Prop} {R' : Addr → Obj → List (List Key × V) → Prop} (h : H d = some (.frz o (.dK kvs))) (q : R d o kvs) : ∃ d' o, V.ref d = .ref d' ∧ ((∃ kvs, H d' = some (.frz o (.dK kvs)) ∧ R d' o kvs) ∨ ∃ kvs, H d' = some (.frz o (.dT kvs)) ∧ R' d' o kvs) :=
  ⟨d, o, rfl, .inl ⟨kvs, h, q⟩⟩
/-- behind i turns: the list so far, what stays, and what J says of them -/
def LI (S : List Addr) (H1 : Hp) (D : Addr) (Pv : Nat → List V → Hp → Prop) (i : Nat) (H : Hp) : Prop := ∃ acc, H D = some (.lst acc) ∧ acc.length ≤ i ∧ Kp (D :: S) H1 H ∧ Pv i acc H
/-- a comprehension -/
theorem lc_kp (w : Walk J n G Y) (S : List Addr) (Pv : Nat → List V → Hp → Prop) {tt : TT} {te : TE} {vs : List Nat} {H1 : Hp} {D : Addr} (hD : H1 D = none) (h0 : Pv 0 [] (upd H1 D (.lst [])))
    (hG : ∀ i acc H, i ≤ n → Kp (D :: S) H1 H → Pv i acc H → G H)
    (hs : ∀ i x H H' acc, i < n → H D = some (.lst acc) → acc.length ≤ i → Kp (D :: S) H1 H → Pv i acc H → Y i H x H' → g x (wipe σ vs) H' fun σ2 H2 => wipe σ2 vs = wipe σ vs ∧ tt σ2 H2 fun b H3 =>
      if b = true then te σ2 H3 fun y H4 => ∃ acc, H4 D = some (.lst acc) ∧ acc.length < sizeLine ∧ LI S H1 D Pv (i + 1) (upd H4 D (.lst (acc ++ [y]))) else LI S H1 D Pv (i + 1) H3)
    (hd : ∀ H acc, H D = some (.lst acc) → Kp S H1 H → Pv n acc H → Q (.ref D) H) :
    LcG J g tt te vs σ H1 D Q :=
  lc_it w (Qd := fun H => Q (.ref D) H) (LI S H1 D Pv) ⟨[], upd_same, Nat.le_refl _, Kp.new hD, h0⟩ (fun i H hi ⟨acc, _, _, k, p⟩ => hG i acc H hi k p)
    (fun i x H H' hi ⟨acc, hacc, hl, k, p⟩ y => hs i x H H' acc hi hacc hl k p y) (fun H ⟨acc, h, _, k, p⟩ => hd H acc h (k.drop hD) p)
theorem lc_add {S : List Addr} {H1 H4 : Hp} {D : Addr} {Pv : Nat → List V → Hp → Prop} {i : Nat} {acc : List V} {y : V} (h : H4 D = some (.lst acc)) (hl : acc.length ≤ i) (hi : i < 100000) (k : Kp (D :: S) H1 H4) (p : Pv (i + 1) (acc ++ [y]) (upd H4 D (.lst (acc ++ [y])))) :
    ∃ acc, H4 D = some (.lst acc) ∧ acc.length < sizeLine ∧ LI S H1 D Pv (i + 1) (upd H4 D (.lst (acc ++ [y]))) :=
  ⟨acc, h, sz2 (by omega), acc ++ [y], upd_same, by simp; omega, k.upd (by simp), p⟩
theorem lc_skip {S : List Addr} {H1 H4 : Hp} {D : Addr} {Pv : Nat → List V → Hp → Prop} {i : Nat} {acc : List V} (h : H4 D = some (.lst acc)) (hl : acc.length ≤ i) (k : Kp (D :: S) H1 H4) (p : Pv (i + 1) acc H4) :
    LI S H1 D Pv (i + 1) H4 := ⟨acc, h, by omega, k, p⟩
theorem g_iEL {a : Addr} {xs : List V} {R : Addr → Prop} (h : H a = some (.lst xs)) (q : R a) : ∃ b xs, [V.ref a] = [.ref b] ∧ SqL K H b xs ∧ R b := ⟨a, xs, rfl, SqL.of h, q⟩
theorem g_yes {QB : Bool → Hp → Prop} (q : QB true H) : tYes σ H QB := q
end
end NN
namespace NN
open PySem L2
/-- a text by its codes -/
def tx (l : List Nat) : Str := ⟨l.toArray⟩
theorem tx_cps (l : List Nat) : (tx l).cps.toList = l := rfl
theorem tx_len (l : List Nat) : (tx l).length = l.length := by show l.toArray.size = _; simp
theorem len_T (z : Str) : z.length = z.cps.toList.length := by show z.cps.size = _; simp
theorem tx_of (z : Str) : tx z.cps.toList = z := by cases z; simp [tx]
theorem str_ext {a b : Str} (h : a.cps.toList = b.cps.toList) : a = b := by rw [← tx_of a, ← tx_of b, h]
theorem cps_app (a b : Str) : (a ++ b).cps.toList = a.cps.toList ++ b.cps.toList := by
  show (a.cps ++ b.cps).toList = _
  simp
theorem len_app (a b : Str) : (a ++ b).length = a.length + b.length := by rw [len_T, cps_app, List.length_append, ← len_T, ← len_T]
theorem tx_app (a b : List Nat) : tx a ++ tx b = tx (a ++ b) := str_ext (by rw [cps_app, tx_cps, tx_cps, tx_cps])
theorem empty_eq : (("" : Str) : Str) = tx [] := by decide +kernel
theorem join_nil : ∀ ys : List Str, (Txt.join (tx []) ys).cps.toList = ys.flatMap (·.cps.toList) := by
  intro ys
  rw [TL.join_eq]
  induction ys with
  | nil => rfl
  | cons x r ih =>
    cases r with
    | nil => show x.cps.toList = _; simp
    | cons y r =>
      show (x ++ tx [] ++ Str.join (tx []) (y :: r)).cps.toList = _
      rw [cps_app, cps_app, ih, tx_cps]
      simp
theorem join_empty (ys : List Str) : Txt.join "" ys = tx (ys.flatMap (·.cps.toList)) := by
  rw [empty_eq]
  exact str_ext (by rw [join_nil, tx_cps])
/-- one sign -/
abbrev sg (c : Nat) : Str := ⟨#[c]⟩
theorem flat_sg (cs : List Nat) : (cs.map sg).flatMap (·.cps.toList) = cs := by
  induction cs with
  | nil => rfl
  | cons c r ih => rw [List.map_cons, List.flatMap_cons, ih]; rfl
theorem join_sg (cs : List Nat) : Txt.join "" (cs.map sg) = tx cs := by rw [join_empty, flat_sg]
theorem sum_len_sg (cs : List Nat) : ((cs.map sg).map (·.length)).sum = cs.length := by
  induction cs with
  | nil => rfl
  | cons c r ih => rw [List.map_cons, List.map_cons, List.sum_cons, ih]; show 1 + r.length = r.length + 1; omega
theorem g_join {K : PySem.W.Frag} {H : Hp} {Q : VK} {z : Str} {a : Addr} {ys : List Str} (h : H a = some (.lst (ys.map V.str))) (c : (ys.map (·.length)).sum + ys.length * z.length ≤ 16777216) (q : Q (.str (Txt.join z ys)) H) :
    rJoin K (.str z) [.ref a] H Q := ⟨z, a, ys, rfl, rfl, .inl (SqL.of h), c, q⟩
/-- behind an if: what follows, proved once -/
theorem g_then {t u : TS} {D : Ends} {σ : St} {H : Hp} (P : St → Hp → Prop) (h2 : ∀ σ H, P σ H → u D σ H) (h1 : (∀ σ H, P σ H → u D σ H) → t { D with nx := u D } σ H) : tSeq t u D σ H := h1 h2
/-- a place of a text or a list -/
theorem at_lt {α : Type} {xs : List α} {i : Int} (h0 : 0 ≤ i) (h1 : i < xs.length) : ∃ v, atI xs i = some v ∧ v ∈ xs ∧ xs[i.toNat]? = some v := by
  obtain ⟨j, rfl⟩ := Int.eq_ofNat_of_zero_le h0
  have hj : j < xs.length := by omega
  exact ⟨xs[j], atI_nat (by simp [hj]), by simp, by simp [hj]⟩
end NN
namespace NN
open PySem L2
/-! ### == and != of lists of texts -/
def fineS (z : Str) : Prop := PyData.strOk z = true
theorem dp_strs {K : PySem.W.Frag} {H : Hp} : ∀ (ys : List Str), DpAll K H (ys.map V.str) (ys.map PyData.str)
  | [] => .nil
  | y :: r => .cons (.str y) (dp_strs r)
theorem lay_strs : ∀ {ys : List Str}, (∀ y ∈ ys, fineS y) → PyData.canLayAll0 (ys.map PyData.str) = true
  | [], _ => rfl
  | y :: r, h => by
    show (PyData.strOk y && PyData.canLayAll0 (r.map PyData.str)) = true
    rw [lay_strs fun z hz => h z (List.mem_cons_of_mem _ hz), show PyData.strOk y = true from h y (List.mem_cons_self ..)]
    rfl
theorem depth_strs : ∀ (ys : List Str), PyData.depthAll (ys.map PyData.str) = 0
  | [] => rfl
  | y :: r => by
    show max (PyData.depth (.str y)) (PyData.depthAll (r.map PyData.str)) = 0
    rw [depth_strs r]; rfl
theorem shaped_strs {ys : List Str} (h : ∀ y ∈ ys, fineS y) : SeqAt.shaped (.list (ys.map PyData.str)) = true := by
  unfold SeqAt.shaped
  have e1 : PyData.canLay0 (.list (ys.map PyData.str)) = true := lay_strs h
  have e2 : PyData.depth (.list (ys.map PyData.str)) = 1 := by
    show PyData.depthAll (ys.map PyData.str) + 1 = 1
    rw [depth_strs]
  rw [e1, e2]; rfl
theorem eqv_strs : ∀ (xs ys : List Str), PyData.eqvAll (xs.map PyData.str) (ys.map PyData.str) = decide (xs = ys)
  | [], [] => rfl
  | [], _ :: _ => rfl
  | _ :: _, [] => rfl
  | x :: xs, y :: ys => by
    show (PyData.eqv (.str x) (.str y) && PyData.eqvAll (xs.map PyData.str) (ys.map PyData.str)) = _
    rw [eqv_strs xs ys, show PyData.eqv (.str x) (.str y) = (x == y) from rfl]
    by_cases e : x = y
    · subst e; by_cases e2 : xs = ys
      · subst e2; simp
      · simp [e2]
    · simp [e]
section
variable {K : PySem.W.Frag} {H : Hp} {Q : VK} {a b : Addr} {xs ys : List Str}
theorem g_eqStrs (ha : H a = some (.lst (xs.map V.str))) (hb : H b = some (.lst (ys.map V.str))) (fx : ∀ y ∈ xs, fineS y) (fy : ∀ y ∈ ys, fineS y) (q : Q (.bl (decide (xs = ys))) H) : rEqU K (.ref a) (.ref b) H Q :=
  g_eqD (.lst (SqL.of ha) (dp_strs xs)) (.lst (SqL.of hb) (dp_strs ys)) (shaped_strs fx) (shaped_strs fy) (by rw [show PyData.eqv (.list (xs.map PyData.str)) (.list (ys.map PyData.str)) = PyData.eqvAll (xs.map PyData.str) (ys.map PyData.str) by rw [PyData.eqv], eqv_strs]; exact q)
theorem g_neStrs (ha : H a = some (.lst (xs.map V.str))) (hb : H b = some (.lst (ys.map V.str))) (fx : ∀ y ∈ xs, fineS y) (fy : ∀ y ∈ ys, fineS y) (q : Q (.bl (!decide (xs = ys))) H) : rNeU K (.ref a) (.ref b) H Q :=
  g_neD (.lst (SqL.of ha) (dp_strs xs)) (.lst (SqL.of hb) (dp_strs ys)) (shaped_strs fx) (shaped_strs fy) (by rw [show PyData.eqv (.list (xs.map PyData.str)) (.list (ys.map PyData.str)) = PyData.eqvAll (xs.map PyData.str) (ys.map PyData.str) by rw [PyData.eqv], eqv_strs]; exact q)
theorem g_neNil (ha : H a = some (.lst (xs.map V.str))) (hb : H b = some (.lst [])) (fx : ∀ y ∈ xs, fineS y) (q : Q (.bl (!xs.isEmpty)) H) : rNeU K (.ref a) (.ref b) H Q :=
  g_neStrs (ys := []) ha hb fx (by simp) (by cases xs <;> exact q)
end
end NN
local macro_rules | `(tactic| walk_at "ar") => `(tactic| first | omega | (dsimp only; omega) | (unfold L2.CMul; omega) | (unfold L2.CDiv; omega) | (unfold L2.CPow; omega) | decide | (simp only [List.length_cons, List.length_nil, List.length_append, List.length_map]; omega))
local macro_rules | `(tactic| walk_at "hp") => `(tactic| first | assumption | exact L2.upd_same | (rw [L2.upd_ne (by assumption)]; assumption) | (rw [L2.upd_ne (Ne.symm (by assumption))]; assumption))
local macro_rules | `(tactic| walk_at "g1") => `(tactic| first
  | with_reducible refine NN.g_seq ?_
  | with_reducible refine NN.g_next ?_
  | with_reducible refine NN.g_asg ?_
  | with_reducible refine NN.g_drop ?_
  | with_reducible refine NN.g_ret ?_
  | with_reducible refine NN.g_retN ?_
  | with_reducible refine NN.g_ifS ?_
  | with_reducible refine NN.g_sfld ?_
  | (with_reducible refine NN.g_name ?_; try dsimp only [List.set_cons_zero, List.set_cons_succ])
  | with_reducible refine NN.g_gcons ?_
  | with_reducible refine NN.g_gnil ?_
  | with_reducible refine NN.g_gsub ?_
  | (with_reducible refine NN.g_var (by with_unfolding_all exact rfl) ?_)
  | with_reducible refine NN.g_c ?_
  | with_reducible refine NN.g_op ?_
  | with_reducible refine NN.g_un ?_
  | with_reducible refine NN.g_test ?_
  | with_reducible refine NN.g_B ?_
  | with_reducible refine NN.g_and ?_
  | with_reducible refine NN.g_or ?_
  | with_reducible refine NN.g_not ?_
  | with_reducible refine NN.g_andV ?_
  | with_reducible refine NN.g_orV ?_
  | with_reducible refine NN.g_notV ?_
  | with_reducible refine NN.g_if ?_
  | with_reducible refine NN.g_chain ?_
  | with_reducible refine NN.g_nil ?_
  | with_reducible refine NN.g_cons ?_
  | (with_reducible refine NN.g_tup ?_)
  | (refine ⟨NN.sz1 (by simp), fun p hp => ?_⟩)
  | (with_reducible refine NN.g_lst ?_)
  | with_reducible refine NN.g_cb ?_
  | (with_reducible refine NN.g_call ?_)
  | with_reducible refine NN.g_sl ?_
  | with_reducible refine NN.g_part ?_
  | with_reducible refine NN.g_nopart ?_
  | with_reducible refine NN.g_bm ?_
  | with_reducible refine NN.g_bm0 ?_
  | with_reducible refine NN.g_m1 ?_
  | with_reducible refine NN.g_isbl ?_
  | with_reducible refine NN.g_isint ?_
  | with_reducible refine NN.g_isstr ?_
  | with_reducible refine NN.g_fld ?_
  | (with_reducible refine NN.g_disp ?_; intro p hp)
  | (with_reducible refine NN.g_pnil ?_)
  | (with_reducible refine NN.g_pcons ?_)
  | (with_reducible refine NN.g_new ?_; intro p hp)
  | (with_reducible refine NN.g_lc ?_)
  | (with_reducible refine NN.g_for ?_)
  | (with_reducible refine NN.g_iList ?_)
  | (with_reducible refine NN.g_iL (by walk_at "hp") ?_)
  | (with_reducible refine NN.g_iStr ?_)
  | (with_reducible refine NN.g_iS ?_)
  | (with_reducible refine NN.g_iRng1 ?_)
  | (with_reducible refine NN.g_iR ?c ?_; (case c => walk_at "ar"))
  | (with_reducible refine NN.g_iEnum ?_)
  | (with_reducible refine NN.g_iEL (by walk_at "hp") ?_)
  | (with_reducible refine NN.g_iZip ?_)
  | (with_reducible refine NN.g_iRev ?_)
  | (with_reducible refine NN.g_iV (by walk_at "hp") ?_)
  | (with_reducible refine NN.g_iKeys ?_)
  | (with_reducible refine NN.g_yes ?_)
  | (with_reducible refine NN.g_inSign ?_)
  | with_reducible refine NN.g_meth ?_
  | with_reducible refine NN.g_make ?_
  | with_reducible refine NN.g_addI ?_
  | with_reducible refine NN.g_rI0 ?_
  | (with_reducible refine NN.g_rI ?c ?_; (case c => walk_at "ar"))
  | with_reducible refine NN.g_rU ?_
  | (with_reducible refine NN.g_addS ?c ?_; (case c => walk_at "ar"))
  | with_reducible refine NN.g_ltI ?_
  | with_reducible refine NN.g_leI ?_
  | with_reducible refine NN.g_gtI ?_
  | with_reducible refine NN.g_geI ?_
  | with_reducible refine NN.g_ltS ?_
  | with_reducible refine NN.g_leS ?_
  | with_reducible refine NN.g_eqS rfl ?_
  | with_reducible refine NN.g_neS rfl ?_
  | with_reducible refine NN.g_isN ?_
  | with_reducible refine NN.g_isB ?_
  | (with_reducible refine NN.g_lenS ?c ?_; (case c => walk_at "ar"))
  | (with_reducible refine NN.g_lenL (by walk_at "hp") ?_)
  | (with_reducible refine NN.g_slS ?c ?_; (case c => walk_at "ar"))
  | (with_reducible refine NN.g_slL (by walk_at "hp") ?_)
  | (with_reducible refine NN.g_isiS true ?c ?_; (case c => decide +kernel))
  | (with_reducible refine NN.g_isiS false ?c ?_; (case c => decide +kernel))
  | (with_reducible refine NN.g_isiI true ?c ?_; (case c => decide +kernel))
  | (with_reducible refine NN.g_isiI false ?c ?_; (case c => decide +kernel))
  | (with_reducible refine NN.g_isiB true ?c ?_; (case c => decide +kernel))
  | (with_reducible refine NN.g_isiB false ?c ?_; (case c => decide +kernel))
  | (with_reducible refine NN.g_isiN true ?c ?_; (case c => decide +kernel))
  | (with_reducible refine NN.g_isiN false ?c ?_; (case c => decide +kernel))
  | (with_reducible refine NN.g_ifT rfl ?_)
  | (with_reducible refine NN.g_ifF rfl ?_))
local macro_rules | `(tactic| walk_at "go") => `(tactic| ((repeat (walk_at "g1")); try dsimp only))
local macro_rules | `(tactic| walk_at "gs") => `(tactic| ((repeat ((fail_if_success (with_reducible refine NN.g_seq ?_)); walk_at "g1")); try dsimp only))

namespace Nw
open PySem L2 NN
def top (i : Nat) : Stmt := PySem.Challenge.pw_newnames_k01_names.main.body.getD i (.Pass ⟨0, 0, 0, 0⟩)
abbrev slaw_next : Stmt := top 6
theorem sclaw_next : FnScope ["_law_state_here", "_law_size"] ["_law_state_here", "_law_size"] (defScope slaw_next) := ⟨rfl, rfl, rfl, by decide +kernel, rfl, by decide +kernel, by decide +kernel⟩
abbrev slaw_state : Stmt := top 5
theorem sclaw_state : FnScope ["_law_cell", "_law_k"] ["_law_cell", "_law_k"] (defScope slaw_state) := ⟨rfl, rfl, rfl, by decide +kernel, rfl, by decide +kernel, by decide +kernel⟩
abbrev sis_name : Stmt := top 3
theorem scis_name : FnScope ["thing", "sign"] ["thing"] (defScope sis_name) := ⟨rfl, rfl, rfl, by decide +kernel, rfl, by decide +kernel, by decide +kernel⟩
abbrev slaw : Stmt := top 7
theorem sclaw : FnScope ["_law_script", "_law_letters", "_law_odd", "_law_k", "_law_cell", "_law_state_here", "_law_signs", "_law_good", "_law_found", "_law_thing", "_law_j"] ["_law_script"] (defScope slaw) := ⟨rfl, rfl, rfl, by decide +kernel, rfl, by decide +kernel, by decide +kernel⟩
structure Txt (K : PySem.W.Frag) (mg : Str → Option Value) : Prop where
  g_LETTERS : ∃ t, mg "LETTERS" = some (.str "abcdefghijklmnopqrstuvwxyz" t)
  g_LONGEST : ∃ t, mg "LONGEST" = some (.int 8 t)
  b_len : mg "len" = none
  b_isinstance : mg "isinstance" = none
  b_all : mg "all" = none
  b_str : mg "str" = none
  b_bool : mg "bool" = none
  b_range : mg "range" = none
  b_enumerate : mg "enumerate" = none
  b_tuple : mg "tuple" = none
section
variable {P : Program} {w : World} {K : PySem.W.Frag} {mg : Str → Option Value} {base : Heap}
def spState : Sp := fun vs H Q _ => ∃ c k : Int, vs = [.int c, .int k] ∧ ∀ p z, H p = none → 0 ≤ z → z < 2147483647 → Q (.ref p) (upd H p (.lst [.int z]))
theorem ok_state {f} {fd} (F : Fun K "_law_state" "_law_state" slaw_state f fd) : FnOk P w K mg base CX0 1 f fd ["_law_cell", "_law_k"] spState := by
  refine F.ok sclaw_state (fun vs H Q E h => ?_) (fun cdv A outer s H vs Q E hr h => ?_)
  · obtain ⟨c, k, rfl, _⟩ := h
    rfl
  · obtain ⟨c, k, rfl, q⟩ := h
    refine ⟨_, (pss_one (ps_ret (pe_lst (pa_cons (pe_op NN.op_addU pe_int (pe_op op_mod (pe_op NN.op_addU (pv 0) (pe_op op_mul pe_int (pv 1))) pe_int)) pa_nil)))), ?_⟩
    refine NN.g_st [some (.int c), some (.int k)] rfl ?_
    walk_at "go"
    exact q _ _ (by assumption) (by omega) (by omega)
def spNext : Sp := fun vs H Q _ => ∃ (st : Addr) (z n : Int), vs = [.ref st, .int n] ∧ H st = some (.lst [.int z]) ∧ 0 < n ∧ ∀ r z' H', 0 ≤ r → r < n → Kp [st] H H' → H' st = some (.lst [.int z']) → Q (.int r) H'
theorem ok_next {f} {fd} (F : Fun K "_law_next" "_law_next" slaw_next f fd) : FnOk P w K mg base CX0 1 f fd ["_law_state_here", "_law_size"] spNext := by
  refine F.ok sclaw_next (fun vs H Q E h => ?_) (fun cdv A outer s H vs Q E hr h => ?_)
  · obtain ⟨st, z, n, rfl, _⟩ := h
    rfl
  · obtain ⟨st, z, n, rfl, hst, hn, q⟩ := h
    have hu := hu_of hr
    refine ⟨_, (pss_cons (ps_asg (pe_op op_mod (pe_op op_mul (pe_ix (NN.ix_K (K := K) rfl hu) (pv 0) pe_int (fun _ _ => rfl)) pe_int) pe_int) (pg_sub (pv 0) pe_int (NN.set_U hu)))
      (pss_one (ps_ret (pe_op op_mod (pe_op op_fdiv (pe_op op_mod (pe_op NN.op_addU (pe_op op_mul (pe_ix (NN.ix_K (K := K) rfl hu) (pv 0) pe_int (fun _ _ => rfl)) (pe_ix (NN.ix_K (K := K) rfl hu) (pv 0) pe_int (fun _ _ => rfl))) (pe_op op_mul pe_int (pe_ix (NN.ix_K (K := K) rfl hu) (pv 0) pe_int (fun _ _ => rfl)))) pe_int) pe_int) (pv 1))))), ?_⟩
    refine NN.g_st [some (.ref st), some (.int n)] rfl ?_
    walk_at "go"
    refine g_ixL hst rfl ?_
    walk_at "go"
    refine g_setL hst rfl ?_
    walk_at "go"
    refine g_ixL upd_same rfl ?_
    walk_at "go"
    refine g_ixL upd_same rfl ?_
    walk_at "go"
    refine g_ixL upd_same rfl ?_
    walk_at "go"
    exact q _ _ _ (Int.emod_nonneg _ (by omega)) (Int.emod_lt_of_pos _ hn) (Kp.mut (by simp)) upd_same
def letters : Str := "abcdefghijklmnopqrstuvwxyz"
def isName (z : Str) : Bool := decide (0 < z.length) && (decide (z.length ≤ 8) && z.cps.toList.all fun c => decide (c ∈ letters.cps.toList))
def NotStr (K : PySem.W.Frag) (H : Hp) (x : V) : Prop := ∃ t, TyX K H x t ∧ PySem.W.kitOne K t (.type "str") = some false
def spIsName (K : PySem.W.Frag) : Sp := fun vs H Q _ => ∃ x, vs = [x] ∧ ((NotStr K H x ∧ Q (.bl false) H) ∨ ∃ z, x = .str z ∧ z.length ≤ 100000 ∧ ∀ H', Kp [] H H' → Q (.bl (isName z)) H')
theorem ok_isname {f} {fd} (F : Fun K "is_name" "is_name" sis_name f fd) (T : Txt K mg) : FnOk P w K mg base CX0 1 f fd ["thing"] (spIsName K) := by
  refine F.ok scis_name (fun vs H Q E h => ?_) (fun cdv A outer s H vs Q E hr h => ?_)
  · obtain ⟨x, rfl, _⟩ := h
    rfl
  · obtain ⟨x, rfl, h⟩ := h
    have hu := hu_of hr
    refine ⟨_, (pss_one (ps_ret (pe_and (pe_callB (NN.call_isiK' (K := K) rfl) (by rfl) T.b_isinstance (by decide +kernel) (pa_cons (pv 0) (pa_cons (NN.pe_bty (n := "str") (by rfl) T.b_str (by decide +kernel)) pa_nil))) (pe_and (pe_chain NN.op_ltU NN.op_leU pe_int (pe_callB (NN.call_lenK (K := K) rfl) (by rfl) T.b_len (by decide +kernel) (pa_cons (pv 0) pa_nil)) (NN.pe_globI (by rfl) T.g_LONGEST)) (pe_one (pe_callB (NN.cr_allK (K := K) rfl rfl) (by rfl) T.b_all (by decide +kernel) (pa_cons (pe_lc (own := [("sign", 1)]) rfl scis_name.nd (pi_str (pv 0)) (blkOk_by (own := [("sign", 1)]) (N := ["thing", "sign"]) (sc := defScope sis_name) (by decide +kernel)) (fun _ _ _ _ _ => (pg_name (i := 1) scis_name.nd rfl (Or.inl rfl))) (fun _ _ _ _ _ => pts_nil) (fun _ _ _ _ _ => (pe_cmpR (NN.op_inK (K := K) rfl hu) (pv 1) (NN.pe_globS (by rfl) T.g_LETTERS) (by rfl)))) pa_nil))))))), ?_⟩
    refine NN.g_st [some x, none] rfl ?_
    rcases h with ⟨⟨t, h1, h2⟩, q⟩ | ⟨z, rfl, hz, q⟩
    · walk_at "go"
      refine g_isi h1 h2 ?_
      walk_at "go"
      exact q
    · have hz' := sz1 hz
      walk_at "go"
      have em : isName z = false ∨ True := .inr trivial
      refine g_ifB (fun e1 => ?_) (fun e1 => ?_)
      · walk_at "go"
        refine g_ifB (fun e2 => ?_) (fun e2 => ?_)
        · walk_at "go"
          intro D hD
          refine lc_kp walk_str [] (fun i acc H => acc = ((z.cps.toList.take i).map fun c => decide (c ∈ letters.cps.toList)).map V.bl) hD rfl (fun _ _ _ _ _ _ => trivial) ?_ ?_
          · rintro i x H1 H2 acc hi hacc hl k rfl ⟨rfl, c, hc, rfl⟩
            walk_at "go"
            refine ⟨rfl, ?_⟩
            walk_at "go"
            refine lc_add hacc hl (by have : z.length = z.cps.size := rfl; omega) k ?_
            have hc' : z.cps.toList[i]? = some c := by rw [← hc]; simp
            rw [List.take_add_one, hc']
            simp [letters]
          · rintro H1 acc hacc k rfl
            walk_at "go"
            refine g_all hacc ?_
            have e3 : ((z.cps.toList.take z.cps.size).map fun c => decide (c ∈ letters.cps.toList)).all id = isName z := by
              unfold isName
              rw [List.take_of_length_le (by simp), List.all_map]
              have e1' : decide (0 < z.length) = true := by simpa using e1
              have e2' : decide (z.length ≤ 8) = true := by rw [decide_eq_true_eq] at e2; exact decide_eq_true (by omega)
              rw [e1', e2']; rfl
            rw [e3]
            exact q _ k
        · walk_at "go"
          have e3 : isName z = false := by
            unfold isName
            have e2' : decide (z.length ≤ 8) = false := by rw [decide_eq_false_iff_not] at e2; exact decide_eq_false (by omega)
            rw [e2']; simp
          rw [← e3]; exact q _ (Kp.refl _ _)
      · walk_at "go"
        have e3 : isName z = false := by
          unfold isName
          have e1' : decide (0 < z.length) = false := by simpa using e1
          rw [e1']; rfl
        rw [← e3]; exact q _ (Kp.refl _ _)
theorem c_next {st : Addr} {z n : Int} {H : Hp} {Q : VK} {E : XK} (h : H st = some (.lst [.int z])) (hn : 0 < n) (k : ∀ r z' H', 0 ≤ r → r < n → Kp [st] H H' → H' st = some (.lst [.int z']) → Q (.int r) H') : spNext [.ref st, .int n] H Q E := ⟨st, z, n, rfl, h, hn, k⟩
theorem c_isName {z : Str} {H : Hp} {Q : VK} {E : XK} (hz : z.length ≤ 100000) (k : ∀ H', Kp [] H H' → Q (.bl (isName z)) H') : spIsName K [.str z] H Q E := ⟨_, rfl, .inr ⟨z, rfl, hz, k⟩⟩
theorem c_notName {x : V} {H : Hp} {Q : VK} {E : XK} (h : NotStr K H x) (k : Q (.bl false) H) : spIsName K [x] H Q E := ⟨_, rfl, .inl ⟨h, k⟩⟩
theorem c_state {c k : Int} {H : Hp} {Q : VK} {E : XK} (q : ∀ p z H', H p = none → Kp [] H H' → H' p = some (.lst [.int z]) → Q (.ref p) H') : spState [.int c, .int k] H Q E := ⟨c, k, rfl, fun p z h _ _ => q p z _ h (Kp.new h) upd_same⟩
/-- law's: a list of at most 63 ints is handed in, True comes out -/
def spLaw (K : PySem.W.Frag) : Sp := fun vs H Q _ => ∃ (a : Addr) (ns : List Int), vs = [.ref a] ∧ SqL K H a (ns.map V.int) ∧ ns.length ≤ 63 ∧ ∀ H', Q (.bl true) H'
theorem script_int {ns : List Int} {i : Nat} {y : V} (hy : (ns.map V.int)[i]? = some y) : ∃ c, y = V.int c := by
  rw [List.getElem?_map] at hy
  cases e : ns[i]? with
  | none => rw [e] at hy; cases hy
  | some z => rw [e] at hy; exact ⟨z, (Option.some.inj hy).symm⟩
def odd : Str := "AZ09 .-_\n\t'{@`"
theorem odd_len : odd.cps.toList.length = 14 := by decide +kernel
theorem odd_no : ∀ c ∈ odd.cps.toList, c ∉ letters.cps.toList := by decide +kernel
theorem letters_len : letters.cps.toList.length = 26 := by decide +kernel
def good (cs : List Nat) : Bool := decide (0 < cs.length) && decide (cs.length < 9)
theorem isName_good {cs : List Nat} (h : ∀ c ∈ cs, c ∈ letters.cps.toList) : isName (tx cs) = good cs := by
  unfold isName good
  rw [tx_len, tx_cps]
  have e : (cs.all fun c => decide (c ∈ letters.cps.toList)) = true := List.all_eq_true.mpr fun c hc => decide_eq_true (h c hc)
  rw [e, Bool.and_true]
  congr 1
  exact decide_eq_decide.mpr (by omega)
theorem isName_bad {cs : List Nat} {c : Nat} (h : c ∈ cs) (hc : c ∉ letters.cps.toList) : isName (tx cs) = false := by
  unfold isName
  have e : (cs.all fun c => decide (c ∈ letters.cps.toList)) = false := by
    rw [List.all_eq_false]
    exact ⟨c, h, by simpa using hc⟩
  rw [tx_cps, e]
  simp
end
end Nw
namespace Nw
open PySem L2 NN
section
variable {P : Program} {w : World} {K : PySem.W.Frag} {mg : Str → Option Value} {base : Heap}
theorem letters_lt : ∀ c ∈ letters.cps.toList, c < 1114112 := by decide +kernel
theorem odd_lt : ∀ c ∈ odd.cps.toList, c < 1114112 := by decide +kernel
theorem fine_sg {c : Nat} (h : c < 1114112) : fineS (sg c) := by
  show ((#[c] : Array Nat).all fun x => decide (x < 0x110000)) = true
  simp [h]
theorem ixN_lt {n : Nat} {i : Int} (h0 : 0 ≤ i) (h1 : i < n) : ixN n i = some i.toNat := by
  unfold ixN
  rw [if_pos h0, if_pos h1]
theorem set_sg (cs : List Nat) (j c : Nat) : ((cs.map sg).map V.str).set j (.str (sg c)) = ((cs.set j c).map sg).map V.str := by
  rw [List.map_set, List.map_set]
theorem ok_law {f} {fd} (F : Fun K "law" "law" slaw f fd) (T : Txt K mg) (F_law_state : FnAt P w K mg base CX0 1 "_law_state" ["_law_cell", "_law_k"] spState) (F_law_next : FnAt P w K mg base CX0 1 "_law_next" ["_law_state_here", "_law_size"] spNext)
    (F_is_name : FnAt P w K mg base CX0 1 "is_name" ["thing"] (spIsName K)) : FnOk P w K mg base CX0 3 f fd ["_law_script"] (spLaw K) := by
  refine F.ok sclaw (fun vs H Q E h => ?_) (fun cdv A outer s H vs Q E hr h => ?_)
  · obtain ⟨a, ns, rfl, _⟩ := h
    rfl
  · obtain ⟨a, ns, rfl, hS, hlen, q⟩ := h
    have hu := hu_of hr
    have hu64 : (A.deeper (PyProof.Rows.envOfC "law" (defScope slaw) s.heap.objs.size f cdv)).units + 64 < cLine := by have := hr.un; omega
    refine ⟨_, (pss_cons (ps_set (i := 1) sclaw.nd rfl (Or.inr rfl) pe_str)
      (pss_cons (ps_set (i := 2) sclaw.nd rfl (Or.inl rfl) pe_str)
      (pss_cons (ps_for PassesOwn.never rfl (NN.pi_enumK (K := K) rfl (by rfl) T.b_enumerate (pa_cons (pv 0) pa_nil)) (NN.pg_tupK (K := K) (n := 2) rfl rfl (pgs_cons (pg_name (i := 3) sclaw.nd rfl (Or.inl rfl)) (pgs_cons (pg_name (i := 4) sclaw.nd rfl (Or.inl rfl)) pgs_nil))) (pss_cons (ps_set (i := 5) sclaw.nd rfl (Or.inr rfl) (NN.pe_fn F_law_state (hr.mono (by decide)) (pa_cons (pv 4) (pa_cons (pv 3) pa_nil))))
      (pss_cons (ps_setLc (i := 6) (own := [("_law_j", 10)]) rfl sclaw.nd rfl rfl (sw_true rfl rfl rfl (by decide +kernel)) (pi_range1 (by rfl) T.b_range (pa_cons (NN.pe_fn F_law_next (hr.mono (by decide)) (pa_cons (pv 5) (pa_cons pe_int pa_nil))) pa_nil)) (blkOk_by (own := [("_law_j", 10)]) (N := ["_law_script", "_law_letters", "_law_odd", "_law_k", "_law_cell", "_law_state_here", "_law_signs", "_law_good", "_law_found", "_law_thing", "_law_j"]) (sc := defScope slaw) (by decide +kernel)) (fun _ _ _ _ _ => (pg_name (i := 10) sclaw.nd rfl (Or.inl rfl))) (fun _ _ _ _ _ => pts_nil) (fun _ _ _ _ _ => (pe_ix (NN.ix_K (K := K) rfl hu) (pv 1) (NN.pe_fn F_law_next (hr.mono (by decide)) (pa_cons (pv 5) (pa_cons pe_int pa_nil))) (fun _ _ => rfl))))
      (pss_cons (ps_set (i := 7) sclaw.nd rfl (Or.inl rfl) (pe_and (pe_cmpR NN.op_ltU pe_int (pe_callB (NN.call_lenK (K := K) rfl) (by rfl) T.b_len (by decide +kernel) (pa_cons (pv 6) pa_nil)) (nomark _)) (pe_one (pe_cmpR NN.op_ltU (pe_callB (NN.call_lenK (K := K) rfl) (by rfl) T.b_len (by decide +kernel) (pa_cons (pv 6) pa_nil)) pe_int (nomark _)))))
      (pss_cons (ps_if (PW.pt (pw_and (pt_cmpR (NN.op_eqK (K := K) rfl hu64) (NN.pe_fn F_law_next (hr.mono (by decide)) (pa_cons (pv 5) (pa_cons pe_int pa_nil))) pe_int (nomark _)) (pw_and1 (pt_cmpR (NN.op_neK (K := K) rfl hu64) (pv 6) (pe_lst pa_nil) (nomark _))))) (pss_cons (ps_asg (pe_ix (NN.ix_K (K := K) rfl hu) (pv 2) (NN.pe_fn F_law_next (hr.mono (by decide)) (pa_cons (pv 5) (pa_cons (pe_callB (NN.call_lenK (K := K) rfl) (by rfl) T.b_len (by decide +kernel) (pa_cons (pv 2) pa_nil)) pa_nil))) (fun _ _ => rfl)) (pg_sub (pv 6) (NN.pe_fn F_law_next (hr.mono (by decide)) (pa_cons (pv 5) (pa_cons (pe_callB (NN.call_lenK (K := K) rfl) (by rfl) T.b_len (by decide +kernel) (pa_cons (pv 6) pa_nil)) pa_nil))) (NN.set_U hu)))
      (pss_one (ps_set (i := 7) sclaw.nd rfl (Or.inl rfl) pe_bl))) pss_nil)
      (pss_cons (ps_set (i := 8) sclaw.nd rfl (Or.inl rfl) (NN.pe_fn F_is_name (hr.mono (by decide)) (pa_cons (NN.pe_joinK (K := K) rfl pe_str (pv 6)) pa_nil)))
      (pss_cons (ps_if (PW.pt (pw_or (pt_not (pt_val (pe_callB (NN.call_isiK' (K := K) rfl) (by rfl) T.b_isinstance (by decide +kernel) (pa_cons (pv 8) (pa_cons (NN.pe_bty (n := "bool") (by rfl) T.b_bool (by decide +kernel)) pa_nil))))) (pw_or1 (pt_cmpR (NN.op_neK (K := K) rfl hu64) (pv 8) (pv 7) (nomark _))))) (pss_one (ps_ret pe_bl)) pss_nil)
      (pss_cons (ps_set (i := 9) sclaw.nd rfl (Or.inl rfl) (pe_ix (NN.ix_K (K := K) rfl hu) (pe_lst (pa_cons (pe_op op_mod (pv 4) (pe_op op_pow pe_int pe_int)) (pa_cons pe_non (pa_cons pe_bl (pa_cons (pv 6) (pa_cons (pe_callTy (NN.call_tupleK (K := K) rfl) (by rfl) T.b_tuple (by decide +kernel) (pa_cons (pe_slice (NN.sl_K (K := K) rfl) (pv 6) po_none (po_some pe_int)) pa_nil)) (pa_cons (pe_disp (pps_cons pe_str pe_int pps_nil) (by rfl) (by rfl) (fun z => by cases z) (by decide)) (pa_cons pe_int (pa_cons pe_bl pa_nil))))))))) (NN.pe_fn F_law_next (hr.mono (by decide)) (pa_cons (pv 5) (pa_cons pe_int pa_nil))) (fun _ _ => rfl)))
      (pss_one (ps_if (pt_cmpR NN.op_isNotU (NN.pe_fn F_is_name (hr.mono (by decide)) (pa_cons (pv 9) pa_nil)) pe_bl (nomark _)) (pss_one (ps_ret pe_bl)) pss_nil))))))))))
      (pss_one (ps_ret pe_bl))))), ?_⟩
    refine NN.g_st [some (.ref a), none, none, none, none, none, none, none, none, none, none] rfl ?_
    walk_at "go"
    refine g_iE hS ?_
    refine for_it (walk_enum (xs := ns.map V.int)) (fun i σ H' => ∃ v3 v4 v5 v6 v7 v8 v9 v10, σ = [some (.ref a), some (.str "abcdefghijklmnopqrstuvwxyz"), some (.str "AZ09 .-_\n\t'{@`"), v3, v4, v5, v6, v7, v8, v9, v10] ∧ Kp [] H H') ?_ ?_ ?_ ?_
    · exact ⟨none, none, none, none, none, none, none, none, rfl, Kp.refl _ _⟩
    · rintro i σ H1 _ ⟨_, _, _, _, _, _, _, _, _, k⟩
      exact k.same.seq hS
    · rintro i x σ H1 H2 hi ⟨v3, v4, v5, v6, v7, v8, v9, v10, rfl, k⟩ ⟨p, x, y, rfl, hp, rfl, hx, hy⟩
      have k1 : Kp [] H (upd H1 p (.tup [x, y])) := k.upn hp
      walk_at "go"
      refine g_tgt (SqT.of upd_same) rfl ?_
      walk_at "go"
      obtain ⟨c, rfl⟩ := script_int hy
      cases hx
      generalize upd H1 p (.tup [V.int (i : Nat), V.int c]) = H2 at k1 ⊢
      walk_at "go"
      refine c_state fun st z H3 hst k2 hz => ?_
      have k3 : Kp [] H H3 := k1.trans k2
      have nst : ∀ a o, H a = some o → a ≠ st := fun a o e q => by
        have := k1 a o e (by simp)
        rw [q, hst] at this; cases this
      walk_at "go"
      refine c_next hz (by decide) fun n z1 H4 hn0 hn k4 hz1 => ?_
      walk_at "go"
      intro D hD
      refine lc_kp walk_range [st] (fun i acc H => ∃ (cs : List Nat) (z : Int), acc = (cs.map sg).map V.str ∧ cs.length = i ∧ (∀ c ∈ cs, c ∈ letters.cps.toList) ∧ H st = some (.lst [.int z])) hD ?_ (fun _ _ _ _ _ _ => trivial) ?_ ?_
      · exact ⟨[], z1, rfl, rfl, (by simp), by rw [upd_ne (ne_of_none hz1 hD)]; exact hz1⟩
      · rintro i x H5 H6 acc hi hacc hl k5 ⟨cs, z, rfl, hcs, hcl, hst5⟩ ⟨rfl, rfl⟩
        walk_at "go"
        refine ⟨rfl, ?_⟩
        walk_at "go"
        refine c_next hst5 (by decide) fun r z2 H7 hr0 hr1 k6 hz2 => ?_
        have hDst : D ≠ st := fun q => by rw [q] at hD; rw [hz1] at hD; cases hD
        obtain ⟨v, hv, hvm, _⟩ := at_lt (xs := letters.cps.toList) (i := r) hr0 (by rw [letters_len]; exact hr1)
        walk_at "go"
        refine g_ixS (sz1 (by rw [len_T]; show letters.cps.toList.length ≤ 100000; rw [letters_len]; decide)) hv ?_
        have hacc7 := k6.at hacc (by simpa using hDst)
        refine lc_add hacc7 hl (by omega) (k5.trans (k6.sub (by simp))) ?_
        refine ⟨cs ++ [v], z2, by simp, by simp [hcs], fun c hc => ?_, by rw [upd_ne hDst.symm]; exact hz2⟩
        rcases List.mem_append.mp hc with h | h
        · exact hcl c h
        · rw [List.mem_singleton.mp h]; exact hvm
      · rintro H5 acc hacc k5 ⟨cs, z2, rfl, hcs, hcl, hz2⟩
        have hDst : D ≠ st := fun q => by rw [q] at hD; rw [hz1] at hD; cases hD
        have k6 : Kp [] H H5 := fun a o e _ => k5 a o (k4 a o (k3 a o e (by simp)) (by simpa using nst a o e)) (by simpa using nst a o e)
        have nD : ∀ a o, H a = some o → a ≠ D := fun a o e q => by
          have := k4 a o (k3 a o e (by simp)) (by simpa using nst a o e)
          rw [q, hD] at this; cases this
        have hle : cs.length < 11 := by omega
        walk_at "g1"
        -- _law_good
        refine g_then (fun σ H' => σ = [some (.ref a), some (.str "abcdefghijklmnopqrstuvwxyz"), some (.str "AZ09 .-_\n\t'{@`"), some (V.int (i : Nat)), some (.int c), some (.ref st), some (.ref D), some (.bl (good cs)), v8, v9, v10] ∧ H' = H5) ?_ (fun hj => ?_)
        rotate_left
        · walk_at "gs"
          refine g_ifB (fun e1 => ?_) (fun e1 => ?_)
          · walk_at "gs"
            refine hj _ _ ⟨?_, rfl⟩
            have e : decide (((cs.map sg).map V.str).length < (9 : Int)) = good cs := by
              unfold good
              simp only [List.length_map] at e1 ⊢
              rw [decide_eq_true_eq] at e1
              have e2 : decide (0 < cs.length) = true := decide_eq_true (by omega)
              rw [e2, Bool.true_and]
              exact decide_eq_decide.mpr (by omega)
            rw [e]
          · walk_at "gs"
            refine hj _ _ ⟨?_, rfl⟩
            have e : good cs = false := by
              unfold good
              simp only [List.length_map] at e1
              rw [decide_eq_false_iff_not] at e1
              have e2 : decide (0 < cs.length) = false := decide_eq_false (by omega)
              rw [e2]; rfl
            rw [e]
        rintro σ H5 ⟨rfl, rfl⟩
        refine g_then (fun σ H' => ∃ (cs' : List Nat) (g : Bool) (v8 v9 : Option V), σ = [some (.ref a), some (.str "abcdefghijklmnopqrstuvwxyz"), some (.str "AZ09 .-_\n\t'{@`"), some (V.int (i : Nat)), some (.int c), some (.ref st), some (.ref D), some (.bl g), v8, v9, v10] ∧ isName (tx cs') = g ∧ cs'.length < 11 ∧ H' D = some (.lst ((cs'.map sg).map V.str)) ∧
          Kp [st, D] H5 H' ∧ ∃ z, H' st = some (.lst [.int z])) ?_ (fun hj => ?_)
        · rintro σ H6 ⟨cs', g, v8, v9, rfl, hg, hlc, hD6, k7, z6, hz6⟩
          have k8 : Kp [] H H6 := fun a o e _ => k7 a o (k6 a o e (by simp)) (by simpa using ⟨nst a o e, nD a o e⟩)
          walk_at "g1"
          walk_at "gs"
          refine NN.g_join (ys := cs'.map sg) hD6 (by rw [sum_len_sg, List.length_map]; have : ("" : Str).length = 0 := by decide +kernel
                                                      rw [this]; omega) ?_
          rw [join_sg]
          walk_at "gs"
          refine c_isName (by rw [tx_len]; omega) fun H7 k9 => ?_
          have hz7 := k9.at hz6 (by simp)
          have hD7 := k9.at hD6 (by simp)
          have k10 := k8.trans k9
          walk_at "gs"
          walk_at "g1"
          walk_at "gs"
          refine g_ifF (by rw [hg]; simp) ?_
          walk_at "gs"
          walk_at "g1"
          walk_at "gs"
          intro p2 hp2
          walk_at "gs"
          refine g_tupL upd_same fun p3 hp3 => ?_
          walk_at "gs"
          rename_i p4 hp4
          refine ⟨upd_same, [(.inr "a", .int 1)], rfl, by decide, ?_⟩
          walk_at "gs"
          rename_i p5 hp5
          rw [upd_upd] at hp5 ⊢
          generalize hS2 : upd (upd H7 p2 (.lst (cutV ((cs'.map sg).map V.str) none (some 1)))) p3 (.tup (cutV ((cs'.map sg).map V.str) none (some 1))) = H8 at hp4 hp5 ⊢
          have k11 : Kp [] H7 H8 := by rw [← hS2]; exact (Kp.new hp2).trans (Kp.new hp3)
          have h38 : H8 p3 = some (.tup (cutV ((cs'.map sg).map V.str) none (some 1))) := by rw [← hS2]; exact upd_same
          have k12 : Kp [] H8 (upd H8 p4 (.dK (mergeK [] [(.inr "a", .int 1)]))) := Kp.new hp4
          generalize hS3 : upd H8 p4 (.dK (mergeK [] [(.inr "a", .int 1)])) = H9 at hp5 k12 ⊢
          have h49 : H9 p4 = some (.dK (mergeK [] [(.inr "a", .int 1)])) := by rw [← hS3]; exact upd_same
          have h39 := k12.at h38 (by simp)
          have k13 := k11.trans k12
          have k14 := k13.trans (Kp.new (p := p5) (o := .lst [V.int (c % 10 ^ Int.toNat 60), .non, .bl true, .ref D, .ref p3, .ref p4, .int 0, .bl false]) hp5)
          have hz14 := k14.at hz7 (by simp)
          refine c_next hz14 (by decide) fun r z8 H10 hr0 hr1 k15 hz8 => ?_
          have n5 : p5 ≠ st := ne_of_none (k13.at hz7 (by simp)) hp5 |>.symm
          have h5 : H10 p5 = some (.lst [V.int (c % 10 ^ Int.toNat 60), .non, .bl true, .ref D, .ref p3, .ref p4, .int 0, .bl false]) := k15.at upd_same (by simpa using n5)
          have hD10 : H10 D = some (.lst ((cs'.map sg).map V.str)) := k15.at (k14.at hD7 (by simp)) (by simpa using hDst)
          have n3 : p3 ≠ st := (ne_of (k13.at hz7 (by simp)) h39 (by intro q; cases q)).symm
          have n4 : p4 ≠ st := (ne_of (k13.at hz7 (by simp)) h49 (by intro q; cases q)).symm
          have h310 : H10 p3 = some (.tup (cutV ((cs'.map sg).map V.str) none (some 1))) := k15.at ((Kp.new (S := []) hp5).at h39 (by simp)) (by simpa using n3)
          have h410 : H10 p4 = some (.dK (mergeK [] [(.inr "a", .int 1)])) := k15.at ((Kp.new (S := []) hp5).at h49 (by simp)) (by simpa using n4)
          obtain ⟨v, hv, hvm, _⟩ := at_lt (xs := [V.int (c % 10 ^ Int.toNat 60), .non, .bl true, .ref D, .ref p3, .ref p4, .int 0, .bl false]) (i := r) hr0 (by simp only [List.length_cons, List.length_nil]; omega)
          walk_at "gs"
          refine g_ixL h5 hv ?_
          walk_at "gs"
          have hno : NotStr K H10 v := by
            simp only [List.mem_cons, List.not_mem_nil, or_false] at hvm
            rcases hvm with rfl | rfl | rfl | rfl | rfl | rfl | rfl | rfl
            · exact ⟨_, .base (.int _), kit_ty (by decide +kernel)⟩
            · exact ⟨_, .base .non, kit_ty (by decide +kernel)⟩
            · exact ⟨_, .base (.bl _), kit_ty (by decide +kernel)⟩
            · exact ⟨_, .base (.lst hD10), kit_ty (by decide +kernel)⟩
            · exact ⟨_, .base (.tup h310), kit_ty (by decide +kernel)⟩
            · exact ⟨_, .base (.dK h410), kit_ty (by decide +kernel)⟩
            · exact ⟨_, .base (.int _), kit_ty (by decide +kernel)⟩
            · exact ⟨_, .base (.bl _), kit_ty (by decide +kernel)⟩
          refine c_notName hno ?_
          walk_at "gs"
          exact ⟨_, _, _, _, _, _, _, _, rfl, fun a o e _ => k15.at (k14.at (k10.at e (by simp)) (by simp)) (by simpa using nst a o e)⟩
        · walk_at "gs"
          refine c_next hz2 (by decide) fun r z3 H6 hr0 hr1 k7 hz3 => ?_
          walk_at "gs"
          have hD6 : H6 D = some (.lst ((cs.map sg).map V.str)) := k7.at hacc (by simpa using hDst)
          have hfin : ∀ y ∈ cs.map sg, fineS y := fun y hy => by
            obtain ⟨c, hc, rfl⟩ := List.mem_map.mp hy
            exact fine_sg (letters_lt c (hcl c hc))
          have hk : Kp [st, D] H5 H6 := k7.sub (by simp)
          refine g_ifB (fun e1 => ?_) (fun e1 => ?_)
          · walk_at "gs"
            rename_i p5 hp5
            have np5 : D ≠ p5 := ne_of_none hD6 hp5
            refine g_neNil (xs := cs.map sg) (by rw [upd_ne np5]; exact hD6) upd_same hfin ?_
            walk_at "gs"
            refine g_ifB (fun e2 => ?_) (fun e2 => ?_)
            · -- one sign is changed
              have hpos : 0 < cs.length := by
                cases cs with
                | nil => simp at e2
                | cons c r => simp
              walk_at "gs"
              try refine g_ifT rfl ?_
              walk_at "g1"
              walk_at "gs"
              have hst6 : upd H6 p5 (.lst []) st = some (.lst [.int z3]) := by rw [upd_ne (ne_of_none hz3 hp5)]; exact hz3
              refine c_next hst6 (by decide) fun r2 z4 H7 hr2 hr3 k8 hz4 => ?_
              obtain ⟨v, hv, hvm, _⟩ := at_lt (xs := odd.cps.toList) (i := r2) hr2 (by rw [odd_len]; exact hr3)
              walk_at "gs"
              refine g_ixS (sz1 (by decide)) hv ?_
              walk_at "gs"
              have hD7 : H7 D = some (.lst ((cs.map sg).map V.str)) := k8.at (by rw [upd_ne np5]; exact hD6) (by simpa using hDst)
              refine g_lenL hD7 ?_
              walk_at "gs"
              refine c_next hz4 (by simpa using hpos) fun r4 z5 H8 hr4 hr5 k9 hz5 => ?_
              have hD8 : H8 D = some (.lst ((cs.map sg).map V.str)) := k9.at hD7 (by simpa using hDst)
              walk_at "gs"
              refine g_setL hD8 (ixN_lt hr4 hr5) ?_
              walk_at "gs"
              refine hj _ _ ⟨cs.set r4.toNat v, false, v8, v9, rfl, ?_, by simpa using hle, ?_, ?_, z5, ?_⟩
              · have hlt : r4.toNat < cs.length := by simp at hr5; omega
                refine isName_bad (c := v) (List.mem_iff_getElem?.mpr ⟨r4.toNat, ?_⟩) (odd_no v hvm)
                rw [List.getElem?_set_self hlt]
              · rw [upd_same, set_sg]
              · have k10 : Kp [st, D] H5 H7 := (hk.upn hp5).trans (k8.sub (by simp))
                exact (k10.trans (k9.sub (by simp))).upd (by simp)
              · rw [upd_ne hDst.symm]; exact hz5
            · walk_at "gs"
              try refine g_ifF rfl ?_
              walk_at "gs"
              refine hj _ _ ⟨cs, good cs, v8, v9, rfl, isName_good hcl, hle, (by rw [upd_ne np5]; exact hD6), hk.upn hp5, z3, (by rw [upd_ne (ne_of_none hz3 hp5)]; exact hz3)⟩
          · walk_at "gs"
            try refine g_ifF rfl ?_
            walk_at "gs"
            exact hj _ _ ⟨cs, good cs, v8, v9, rfl, isName_good hcl, hle, hD6, hk, z3, hz3⟩
    · rintro σ H1 ⟨v3, v4, v5, v6, v7, v8, v9, v10, rfl, k⟩
      walk_at "go"
      exact q _
end
end Nw
namespace Nw
open PySem L2 NN
theorem all_mk {l : PySem.W.OpenLaw} {w : World} {K : PySem.W.Frag} {h : Heap} {mg : Str → Option Value} {fa : Addr} (X : K.In h) (G : h.Ns mainGlobals mg) (hfa : mg "law" = some (.ref fa))
    {f_law_state : Addr} {od_law_state an_law_state : Option Addr} {sl_law_state : Array (Option Value)} {oc_law_state kV_law_state dc_law_state pm_law_state cd_law_state ct_law_state : Value}
    (a_law_state : PySem.W.nsIn K mainGlobals "_law_state" = some (some (.ref f_law_state)))
    (l_law_state : K.lookup f_law_state = some ⟨oc_law_state, od_law_state, .func (PySem.W.fnOf "_law_state" "_law_state" (defArgs slaw_state) (defBody slaw_state) (defScope slaw_state) .none kV_law_state dc_law_state pm_law_state an_law_state cd_law_state ct_law_state), sl_law_state⟩)
    (c_law_state : PySem.W.codeIn K cd_law_state "_law_state" = true)
    (k_law_state : PySem.W.keepIn K (.ref f_law_state) = true)
    {f_law_next : Addr} {od_law_next an_law_next : Option Addr} {sl_law_next : Array (Option Value)} {oc_law_next kV_law_next dc_law_next pm_law_next cd_law_next ct_law_next : Value}
    (a_law_next : PySem.W.nsIn K mainGlobals "_law_next" = some (some (.ref f_law_next)))
    (l_law_next : K.lookup f_law_next = some ⟨oc_law_next, od_law_next, .func (PySem.W.fnOf "_law_next" "_law_next" (defArgs slaw_next) (defBody slaw_next) (defScope slaw_next) .none kV_law_next dc_law_next pm_law_next an_law_next cd_law_next ct_law_next), sl_law_next⟩)
    (c_law_next : PySem.W.codeIn K cd_law_next "_law_next" = true)
    (k_law_next : PySem.W.keepIn K (.ref f_law_next) = true)
    {f_is_name : Addr} {od_is_name an_is_name : Option Addr} {sl_is_name : Array (Option Value)} {oc_is_name kV_is_name dc_is_name pm_is_name cd_is_name ct_is_name : Value}
    (a_is_name : PySem.W.nsIn K mainGlobals "is_name" = some (some (.ref f_is_name)))
    (l_is_name : K.lookup f_is_name = some ⟨oc_is_name, od_is_name, .func (PySem.W.fnOf "is_name" "is_name" (defArgs sis_name) (defBody sis_name) (defScope sis_name) .none kV_is_name dc_is_name pm_is_name an_is_name cd_is_name ct_is_name), sl_is_name⟩)
    (c_is_name : PySem.W.codeIn K cd_is_name "is_name" = true)
    (k_is_name : PySem.W.keepIn K (.ref f_is_name) = true)
    {f_law : Addr} {od_law an_law : Option Addr} {sl_law : Array (Option Value)} {oc_law kV_law dc_law pm_law cd_law ct_law : Value}
    (a_law : PySem.W.nsIn K mainGlobals "law" = some (some (.ref f_law)))
    (l_law : K.lookup f_law = some ⟨oc_law, od_law, .func (PySem.W.fnOf "law" "law" (defArgs slaw) (defBody slaw) (defScope slaw) .none kV_law dc_law pm_law an_law cd_law ct_law), sl_law⟩)
    (c_law : PySem.W.codeIn K cd_law "law" = true)
    (k_law : PySem.W.keepIn K (.ref f_law) = true)
    {t_LETTERS : Tok}
    (g_LETTERS : PySem.W.nsIn K mainGlobals "LETTERS" = some (some (.str "abcdefghijklmnopqrstuvwxyz" t_LETTERS)))
    {t_LONGEST : Tok}
    (g_LONGEST : PySem.W.nsIn K mainGlobals "LONGEST" = some (some (.int 8 t_LONGEST)))
    (z_all : PySem.W.nsIn K mainGlobals "all" = some none)
    (z_bool : PySem.W.nsIn K mainGlobals "bool" = some none)
    (z_enumerate : PySem.W.nsIn K mainGlobals "enumerate" = some none)
    (z_isinstance : PySem.W.nsIn K mainGlobals "isinstance" = some none)
    (z_len : PySem.W.nsIn K mainGlobals "len" = some none)
    (z_range : PySem.W.nsIn K mainGlobals "range" = some none)
    (z_str : PySem.W.nsIn K mainGlobals "str" = some none)
    (z_tuple : PySem.W.nsIn K mainGlobals "tuple" = some none) :
    ∃ fd : FuncData, (∀ (s : Shared) (v : Value), BindsTo s fd ⟨[v], []⟩ [("_law_script", v)]) ∧ ∀ base : Heap, K.In base → base.Ns mainGlobals mg → FnOk l.prog w K mg base CX0 3 fa fd ["_law_script"] (spLaw K) := by
  have e := hfa.symm.trans (PySem.W.mg_of X G a_law)
  cases e
  have T : Txt K mg := { g_LETTERS := ⟨_, PySem.W.mg_of X G g_LETTERS⟩, g_LONGEST := ⟨_, PySem.W.mg_of X G g_LONGEST⟩, b_all := PySem.W.mg_none_of X G z_all, b_bool := PySem.W.mg_none_of X G z_bool, b_enumerate := PySem.W.mg_none_of X G z_enumerate, b_isinstance := PySem.W.mg_none_of X G z_isinstance, b_len := PySem.W.mg_none_of X G z_len, b_range := PySem.W.mg_none_of X G z_range, b_str := PySem.W.mg_none_of X G z_str, b_tuple := PySem.W.mg_none_of X G z_tuple }
  have F_law_state := fun_mk (st := slaw_state) l_law_state c_law_state k_law_state
  have b_law_state := F_law_state.binds (ps := ["_law_cell", "_law_k"]) fun _ _ _ _ _ _ us hl => match us, hl with | [_, _], _ => rfl
  have F_law_next := fun_mk (st := slaw_next) l_law_next c_law_next k_law_next
  have b_law_next := F_law_next.binds (ps := ["_law_state_here", "_law_size"]) fun _ _ _ _ _ _ us hl => match us, hl with | [_, _], _ => rfl
  have F_is_name := fun_mk (st := sis_name) l_is_name c_is_name k_is_name
  have b_is_name := F_is_name.binds (ps := ["thing"]) fun _ _ _ _ _ _ us hl => match us, hl with | [_], _ => rfl
  have F_law := fun_mk (st := slaw) l_law c_law k_law
  have b_law := F_law.binds (ps := ["_law_script"]) fun _ _ _ _ _ _ us hl => match us, hl with | [_], _ => rfl
  refine ⟨PySem.W.fnOf "law" "law" (defArgs slaw) (defBody slaw) (defScope slaw) .none kV_law dc_law pm_law an_law cd_law ct_law, fun s v => .of_eq rfl, fun base _ _ => ?_⟩
  have A_state : FnAt l.prog w K mg base CX0 1 "_law_state" ["_law_cell", "_law_k"] spState := ⟨_, _, PySem.W.mg_of X G a_law_state, k_law_state, b_law_state, ok_state F_law_state⟩
  have A_next : FnAt l.prog w K mg base CX0 1 "_law_next" ["_law_state_here", "_law_size"] spNext := ⟨_, _, PySem.W.mg_of X G a_law_next, k_law_next, b_law_next, ok_next F_law_next⟩
  have A_is : FnAt l.prog w K mg base CX0 1 "is_name" ["thing"] (spIsName K) := ⟨_, _, PySem.W.mg_of X G a_is_name, k_is_name, b_is_name, ok_isname F_is_name T⟩
  exact ok_law F_law T A_state A_next A_is

theorem walk {l : PySem.W.OpenLaw} {q : Program} {loose : List Str} {XP : (Str → Option Value) → Heap → Prop} {YP : World → Heap → Prop} {d : DefRec} {K : Params → PySem.W.Frag} (hn : l.most = some 63) (hdf : d.params.defaults = [])
    (hY : ∀ (w : World) (h : Heap), YP w h → (K w.params).In h)
    (F : ∀ (w : World) (mg : Str → Option Value) (fa : Addr) (h : Heap), (K w.params).In h → h.Ns mainGlobals mg → mg d.name = some (.ref fa) →
      ∃ fd : FuncData, (∀ (s : Shared) (u : Value), BindsTo s fd ⟨[u], []⟩ [("_law_script", u)]) ∧ ∀ base : Heap, (K w.params).In base → base.Ns mainGlobals mg → FnOk l.prog w (K w.params) mg base CX0 3 fa fd ["_law_script"] (spLaw (K w.params))) :
    PySem.W.WalkO q loose XP YP l.row.toRowW d [] (fun f vs => PySem.call f vs) :=
  L2.walk_of (n := 63) (k := 3) (x := "_law_script") (CX := fun _ => CX0) (sp := fun w => spLaw (K w.params)) hn (by decide) hdf ⟨rfl, by decide, by decide⟩ hY F (fun _ _ a ns hl _ hS => ⟨a, ns, rfl, hS, hl, fun _ => rfl⟩) fun _ _ _ _ _ z => z
end Nw
open PySem PySem.W PyProof.Rows
set_option maxRecDepth 100000 in
set_option maxHeartbeats 0 in
theorem PySem.Challenge.cw_newnames_k01_names_holds : PySem.Challenge.rw_newnames_k01_names.Holds := by
  w_on; o_law; k_head; (case hw => w_witness2)
  k_fill
  refine Nw.walk (l := PySem.Challenge.rw_newnames_k01_names) rfl rfl (fun w h Y => PySem.W.kIn_of Y) ?F
  case F =>
    intro w mg fa h KX G hmg
    refine' Nw.all_mk KX G hmg ?a_law_state ?l_law_state ?c_law_state ?k_law_state ?a_law_next ?l_law_next ?c_law_next ?k_law_next ?a_is_name ?l_is_name ?c_is_name ?k_is_name ?a_law ?l_law ?c_law ?k_law ?g_LETTERS ?g_LONGEST ?z_all ?z_bool ?z_enumerate ?z_isinstance ?z_len ?z_range ?z_str ?z_tuple
    (case a_law_state => k_is)
    (case l_law_state => k_is)
    (case c_law_state => k_is)
    (case k_law_state => k_is)
    (case a_law_next => k_is)
    (case l_law_next => k_is)
    (case c_law_next => k_is)
    (case k_law_next => k_is)
    (case a_is_name => k_is)
    (case l_is_name => k_is)
    (case c_is_name => k_is)
    (case k_is_name => k_is)
    (case a_law => k_is)
    (case l_law => k_is)
    (case c_law => k_is)
    (case k_law => k_is)
    (case g_LETTERS => k_is)
    (case g_LONGEST => k_is)
    (case z_all => k_is)
    (case z_bool => k_is)
    (case z_enumerate => k_is)
    (case z_isinstance => k_is)
    (case z_len => k_is)
    (case z_range => k_is)
    (case z_str => k_is)
    (case z_tuple => k_is)
