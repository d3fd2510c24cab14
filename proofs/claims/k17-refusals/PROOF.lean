import PyProof.Rows.All
import Wide.All
import OpenK.AllK
import Wide.FinOn
import HandS.Base
import HandS.Call
import HandS.List
import HandS.Comp
import HandS.Ends
import HandS.Dict
import HandS.Iter
import HandS.Text
import HandS.Words
import HandS.ForMost
import HandS.More
import HandS.IsInst
import HandS.Style
import HandS.Flow
import HandS.NoneIn
import HandS.Zip
import HandS.Walk
import KE.DatumOrd
import KE.KExcIs
import HandS.Exc
import HandS.ExcInit
import HandS.ExcIs
import HandS.ExcOwn
import HandS.ExcField
import HandS.WordsExc
import HandS.SetFor
import PyProof.StrLawsChain
import PyProof.StrLawsIn
import HandS.Defaults
import HandS.DictComp
import HandS.DictEq
import PyProof.ReprRoads
import HandS.ExcValue
import PyProof.StrLawsRepr
import PySem.Challenge.RW_newnames_k17_refusals_made
set_option Elab.async false
set_option linter.all false
set_option maxRecDepth 100000
set_option maxHeartbeats 4000000
namespace NN
open PySem L2
/-! ### what stays -/
/-- all that is tracked stays, but what stands at S -/
def Kp (S : List Addr) (H H' : Hp) : Prop := ∀ a o, H a = some o → a ∉ S → H' a = some o
theorem Kp.refl (S : List Addr) (H : Hp) : Kp S H H := fun _ _ h _ => h
theorem Kp.trans {S : List Addr} {H H1 H2 : Hp} (a : Kp S H H1) (b : Kp S H1 H2) : Kp S H H2 := fun c o h n => b c o (a c o h n) n
theorem Kp.sub {S S' : List Addr} {H H' : Hp} (k : Kp S H H') (s : ∀ a ∈ S, a ∈ S') : Kp S' H H' := fun a o h n => k a o h fun z => n (s a z)
theorem Kp.new {S : List Addr} {H : Hp} {p : Addr} {o : HO} (h : H p = none) : Kp S H (upd H p o) := fun a u e _ => by
  rw [upd_ne (ne_of_none e h)]
  exact e
theorem Kp.mut {S : List Addr} {H : Hp} {p : Addr} {o : HO} (h : p ∈ S) : Kp S H (upd H p o) := fun a u e n => by
  by_cases z : a = p
  · subst z; exact absurd h n
  · rw [upd_ne z]; exact e
theorem Kp.at {S : List Addr} {H H' : Hp} {a : Addr} {o : HO} (k : Kp S H H') (h : H a = some o) (n : a ∉ S) : H' a = some o := k a o h n
theorem Kp.free {S : List Addr} {H H' : Hp} {a : Addr} (k : Kp S H H') (h : H' a = none) (n : a ∉ S) : H a = none := by
  cases e : H a with
  | none => rfl
  | some o => rw [k a o e n] at h; cases h
theorem Kp.nil_free {H H' : Hp} {a : Addr} (k : Kp [] H H') (h : H' a = none) : H a = none := k.free h (by simp)
theorem Kp.same {H H' : Hp} (k : Kp [] H H') : Same H H' := fun b o h => k b o h (by simp)
/-! ### data -/
inductive D where
  | v (x : V)
  | l (xs : List D)
  | t (xs : List D)
  | d (ks : List Str) (xs : List D)
  | o (C : Addr) (fs : List Str) (xs : List D)
def zipK (ks : List Str) (vs : List V) : List (Key × V) := (ks.zip vs).map fun p => (Sum.inr p.1, p.2)
mutual
/-- the data d stand at x, all of it apart from S -/
inductive At (S : List Addr) (H : Hp) : V → D → Prop
  | v (x : V) : At S H x (.v x)
  | l {a : Addr} {vs : List V} {ds : List D} : a ∉ S → H a = some (.lst vs) → AtL S H vs ds → At S H (.ref a) (.l ds)
  | t {a : Addr} {vs : List V} {ds : List D} : a ∉ S → H a = some (.tup vs) → AtL S H vs ds → At S H (.ref a) (.t ds)
  | d {a : Addr} {ks : List Str} {vs : List V} {ds : List D} : a ∉ S → H a = some (.dK (zipK ks vs)) → ks.length = ds.length → AtL S H vs ds → At S H (.ref a) (.d ks ds)
  | o {a C dx : Addr} {fs : List Str} {vs : List V} {ds : List D} : a ∉ S → H a = some (.ins C dx (fs.zip vs)) → fs.length = ds.length → AtL S H vs ds → At S H (.ref a) (.o C fs ds)
inductive AtL (S : List Addr) (H : Hp) : List V → List D → Prop
  | nil : AtL S H [] []
  | cons {x : V} {d : D} {xs : List V} {ds : List D} : At S H x d → AtL S H xs ds → AtL S H (x :: xs) (d :: ds)
end
theorem AtL.length {S : List Addr} {H : Hp} : ∀ {vs : List V} {ds : List D}, AtL S H vs ds → vs.length = ds.length
  | _, _, .nil => rfl
  | _, _, .cons _ r => congrArg (· + 1) (AtL.length r)
mutual
theorem At.kp {S S' : List Addr} {H H' : Hp} (k : Kp S' H H') (s : ∀ a ∈ S', a ∈ S) : ∀ {d : D} {x : V}, At S H x d → At S H' x d
  | .v _, _, h => by cases h; exact .v _
  | .l ds, _, h => by
    cases h with
    | l n e r => exact .l n (k _ _ e fun z => n (s _ z)) (AtL.kp k s r)
  | .t ds, _, h => by
    cases h with
    | t n e r => exact .t n (k _ _ e fun z => n (s _ z)) (AtL.kp k s r)
  | .d ks ds, _, h => by
    cases h with
    | d n e hl r => exact .d n (k _ _ e fun z => n (s _ z)) hl (AtL.kp k s r)
  | .o C fs ds, _, h => by
    cases h with
    | o n e hl r => exact .o n (k _ _ e fun z => n (s _ z)) hl (AtL.kp k s r)
theorem AtL.kp {S S' : List Addr} {H H' : Hp} (k : Kp S' H H') (s : ∀ a ∈ S', a ∈ S) : ∀ {ds : List D} {vs : List V}, AtL S H vs ds → AtL S H' vs ds
  | [], _, h => by cases h; exact .nil
  | d :: ds, _, h => by
    cases h with
    | cons h1 h2 => exact .cons (At.kp k s h1) (AtL.kp k s h2)
end
mutual
theorem At.sub {S S' : List Addr} {H : Hp} (s : ∀ a ∈ S', a ∈ S) : ∀ {d : D} {x : V}, At S H x d → At S' H x d
  | .v _, _, h => by cases h; exact .v _
  | .l ds, _, h => by
    cases h with
    | l n e r => exact .l (fun z => n (s _ z)) e (AtL.sub s r)
  | .t ds, _, h => by
    cases h with
    | t n e r => exact .t (fun z => n (s _ z)) e (AtL.sub s r)
  | .d ks ds, _, h => by
    cases h with
    | d n e hl r => exact .d (fun z => n (s _ z)) e hl (AtL.sub s r)
  | .o C fs ds, _, h => by
    cases h with
    | o n e hl r => exact .o (fun z => n (s _ z)) e hl (AtL.sub s r)
theorem AtL.sub {S S' : List Addr} {H : Hp} (s : ∀ a ∈ S', a ∈ S) : ∀ {ds : List D} {vs : List V}, AtL S H vs ds → AtL S' H vs ds
  | [], _, h => by cases h; exact .nil
  | d :: ds, _, h => by
    cases h with
    | cons h1 h2 => exact .cons (At.sub s h1) (AtL.sub s h2)
end
mutual
/-- a place that is not tracked is no place of the data -/
theorem At.ext {S : List Addr} {H : Hp} {f : Addr} (hf : H f = none) : ∀ {d : D} {x : V}, At S H x d → At (f :: S) H x d
  | .v _, _, h => by cases h; exact .v _
  | .l ds, _, h => by
    cases h with
    | l n e r => exact .l (fun z => (List.mem_cons.mp z).elim (fun q => ne_of_none e hf q) n) e (AtL.ext hf r)
  | .t ds, _, h => by
    cases h with
    | t n e r => exact .t (fun z => (List.mem_cons.mp z).elim (fun q => ne_of_none e hf q) n) e (AtL.ext hf r)
  | .d ks ds, _, h => by
    cases h with
    | d n e hl r => exact .d (fun z => (List.mem_cons.mp z).elim (fun q => ne_of_none e hf q) n) e hl (AtL.ext hf r)
  | .o C fs ds, _, h => by
    cases h with
    | o n e hl r => exact .o (fun z => (List.mem_cons.mp z).elim (fun q => ne_of_none e hf q) n) e hl (AtL.ext hf r)
theorem AtL.ext {S : List Addr} {H : Hp} {f : Addr} (hf : H f = none) : ∀ {ds : List D} {vs : List V}, AtL S H vs ds → AtL (f :: S) H vs ds
  | [], _, h => by cases h; exact .nil
  | d :: ds, _, h => by
    cases h with
    | cons h1 h2 => exact .cons (At.ext hf h1) (AtL.ext hf h2)
end
section
variable {S : List Addr} {H : Hp} {K : PySem.W.Frag}
theorem AtL.append : ∀ {vs ws : List V} {ds es : List D}, AtL S H vs ds → AtL S H ws es → AtL S H (vs ++ ws) (ds ++ es)
  | _, _, _, _, .nil, r => r
  | _, _, _, _, .cons h t, r => .cons h (AtL.append t r)
theorem AtL.get : ∀ {vs : List V} {ds : List D} {i : Nat} {d : D}, AtL S H vs ds → ds[i]? = some d → ∃ x, vs[i]? = some x ∧ At S H x d
  | _, _, _, _, .nil, e => by simp at e
  | _, _, 0, _, .cons h _, e => by simp at e; subst e; exact ⟨_, rfl, h⟩
  | _, _, i + 1, d, .cons _ t, e => by
    obtain ⟨x, h1, h2⟩ := AtL.get (i := i) (d := d) t (by simpa using e)
    exact ⟨x, by simpa using h1, h2⟩
theorem AtL.get' : ∀ {vs : List V} {ds : List D} {i : Nat} {x : V}, AtL S H vs ds → vs[i]? = some x → ∃ d, ds[i]? = some d ∧ At S H x d
  | _, _, _, _, .nil, e => by simp at e
  | _, _, 0, _, .cons h _, e => by simp at e; subst e; exact ⟨_, rfl, h⟩
  | _, _, i + 1, x, .cons _ t, e => by
    obtain ⟨d, h1, h2⟩ := AtL.get' (i := i) (x := x) t (by simpa using e)
    exact ⟨d, by simpa using h1, h2⟩
theorem AtL.take : ∀ {vs : List V} {ds : List D} (n : Nat), AtL S H vs ds → AtL S H (vs.take n) (ds.take n)
  | _, _, 0, _ => .nil
  | _, _, _ + 1, .nil => .nil
  | _, _, n + 1, .cons h t => .cons h (AtL.take n t)
theorem AtL.drop : ∀ {vs : List V} {ds : List D} (n : Nat), AtL S H vs ds → AtL S H (vs.drop n) (ds.drop n)
  | _, _, 0, r => r
  | _, _, _ + 1, .nil => .nil
  | _, _, n + 1, .cons _ t => AtL.drop n t
theorem AtL.eraseIdx : ∀ {vs : List V} {ds : List D} (n : Nat), AtL S H vs ds → AtL S H (vs.eraseIdx n) (ds.eraseIdx n)
  | _, _, _, .nil => .nil
  | _, _, 0, .cons _ t => t
  | _, _, n + 1, .cons h t => .cons h (AtL.eraseIdx n t)
/-- values that are no objects -/
theorem AtL.vals : ∀ (vs : List V), AtL S H vs (vs.map D.v)
  | [] => .nil
  | x :: xs => .cons (.v x) (AtL.vals xs)
theorem AtL.vals_eq : ∀ {vs ws : List V}, AtL S H vs (ws.map D.v) → vs = ws
  | [], [], _ => rfl
  | [], _ :: _, h => by cases h
  | _ :: _, [], h => by cases h
  | x :: xs, y :: ys, h => by
    cases h with
    | cons h1 h2 => cases h1; rw [AtL.vals_eq h2]
theorem At.list {a : Addr} {ds : List D} (h : At S H (.ref a) (.l ds)) : ∃ vs, a ∉ S ∧ H a = some (.lst vs) ∧ AtL S H vs ds := by
  cases h with
  | l n e r => exact ⟨_, n, e, r⟩
theorem At.isL {x : V} {ds : List D} (h : At S H x (.l ds)) : ∃ a vs, x = .ref a ∧ a ∉ S ∧ H a = some (.lst vs) ∧ AtL S H vs ds := by
  cases h with
  | l n e r => exact ⟨_, _, rfl, n, e, r⟩
theorem At.isT {x : V} {ds : List D} (h : At S H x (.t ds)) : ∃ a vs, x = .ref a ∧ a ∉ S ∧ H a = some (.tup vs) ∧ AtL S H vs ds := by
  cases h with
  | t n e r => exact ⟨_, _, rfl, n, e, r⟩
theorem At.isD {x : V} {ks : List Str} {ds : List D} (h : At S H x (.d ks ds)) : ∃ a vs, x = .ref a ∧ a ∉ S ∧ H a = some (.dK (zipK ks vs)) ∧ ks.length = ds.length ∧ AtL S H vs ds := by
  cases h with
  | d n e hl r => exact ⟨_, _, rfl, n, e, hl, r⟩
theorem At.isO {x : V} {C : Addr} {fs : List Str} {ds : List D} (h : At S H x (.o C fs ds)) : ∃ a dx vs, x = .ref a ∧ a ∉ S ∧ H a = some (.ins C dx (fs.zip vs)) ∧ fs.length = ds.length ∧ AtL S H vs ds := by
  cases h with
  | o n e hl r => exact ⟨_, _, _, rfl, n, e, hl, r⟩
theorem At.isV {x y : V} (h : At S H x (.v y)) : x = y := by cases h; rfl
end
/-! ### data without dicts and objects, for == -/
mutual
def D.py : D → Option PyData
  | .v .non => some .none
  | .v (.bl b) => some (.bool b)
  | .v (.int i) => some (.int i)
  | .v (.str x) => some (.str x)
  | .v _ => none
  | .l ds => (D.pys ds).map .list
  | .t ds => (D.pys ds).map .tuple
  | .d _ _ => none
  | .o _ _ _ => none
def D.pys : List D → Option (List PyData)
  | [] => some []
  | c :: cs => (D.py c).bind fun p => (D.pys cs).map (p :: ·)
end
mutual
theorem At.dp {K : PySem.W.Frag} {S : List Addr} {H : Hp} : ∀ {d : D} {x : V} {p : PyData}, At S H x d → d.py = some p → Dp K H x p
  | .v .non, _, _, h, e => by cases h; cases e; exact .non
  | .v (.bl b), _, _, h, e => by cases h; cases e; exact .bl b
  | .v (.int i), _, _, h, e => by cases h; cases e; exact .int i
  | .v (.str x), _, _, h, e => by cases h; cases e; exact .str x
  | .v (.byt _), _, _, h, e => by cases e
  | .v (.flt _), _, _, h, e => by cases e
  | .v (.ref _), _, _, h, e => by cases e
  | .v (.ty _), _, _, h, e => by cases e
  | .l ds, _, _, h, e => by
    cases h with
    | l n g r =>
      have e : (D.pys ds).map PyData.list = some _ := e
      obtain ⟨ps, e1, e2⟩ := Option.map_eq_some_iff.mp e
      subst e2
      exact .lst (.inl (.inl g)) (AtL.dp r e1)
  | .t ds, _, _, h, e => by
    cases h with
    | t n g r =>
      have e : (D.pys ds).map PyData.tuple = some _ := e
      obtain ⟨ps, e1, e2⟩ := Option.map_eq_some_iff.mp e
      subst e2
      exact .tup (.inl (.inl g)) (AtL.dp r e1)
  | .d _ _, _, _, h, e => by cases e
  | .o _ _ _, _, _, h, e => by cases e
theorem AtL.dp {K : PySem.W.Frag} {S : List Addr} {H : Hp} : ∀ {ds : List D} {vs : List V} {ps : List PyData}, AtL S H vs ds → D.pys ds = some ps → DpAll K H vs ps
  | [], _, _, h, e => by cases h; cases e; exact .nil
  | c :: ds, _, _, h, e => by
    cases h with
    | cons h1 h2 =>
      have e : (D.py c).bind (fun p => (D.pys ds).map (p :: ·)) = some _ := e
      obtain ⟨p, e1, e2⟩ := Option.bind_eq_some_iff.mp e
      obtain ⟨ps, e3, e4⟩ := Option.map_eq_some_iff.mp e2
      subst e4
      exact .cons (At.dp h1 e1) (AtL.dp h2 e3)
end
end NN
namespace NN
open PySem PySem.Spec PyProof.Rows L2
/-! ### operations over several kinds -/
section
variable {X : Cx}
theorem OpR.or {f : Value → Value → Sem Value} {r r' : R2} (h : OpR X f r) (h' : OpR X f r') : OpR X f (fun x y H Q => r x y H Q ∨ r' x y H Q) := by
  intro pins s σ H x y v u Q I rx ry q
  rcases q with q | q
  · exact h pins s σ H x y v u Q I rx ry q
  · exact h' pins s σ H x y v u Q I rx ry q
theorem CallR.or {f : Value} {r r' : List V → Hp → VK → Prop} (h : CallR X f r) (h' : CallR X f r') : CallR X f (fun x H Q => r x H Q ∨ r' x H Q) := by
  intro pins s σ H x u Q I rx q
  rcases q with q | q
  · exact h pins s σ H x u Q I rx q
  · exact h' pins s σ H x u Q I rx q
theorem SlR.or {r r' : V → Option Int → Option Int → Hp → VK → Prop} (h : SlR X r) (h' : SlR X r') : SlR X (fun x a b H Q => r x a b H Q ∨ r' x a b H Q) := by
  intro pins s σ H x v vl vu lo hi sl Q I rx h1 h2 h3 q
  rcases q with q | q
  · exact h pins s σ H x v vl vu lo hi sl Q I rx h1 h2 h3 q
  · exact h' pins s σ H x v vl vu lo hi sl Q I rx h1 h2 h3 q
theorem PSet.or {t t' : TSet} (h : PSet X t) (h' : PSet X t') : PSet X (fun o i v H Q => t o i v H Q ∨ t' o i v H Q) := by
  intro pins s σ H o i v ov iv u Q I ro ri rv q
  rcases q with q | q
  · exact h pins s σ H o i v ov iv u Q I ro ri rv q
  · exact h' pins s σ H o i v ov iv u Q I ro ri rv q
def rStr (f : Str → Str → Bool) : R2 := fun x y H Q => ∃ i j, x = .str i ∧ y = .str j ∧ Q (.bl (f i j)) H
def rAddS : R2 := fun x y H Q => ∃ i j, x = .str i ∧ y = .str j ∧ i.length + j.length ≤ sizeLine ∧ Q (.str (i ++ j)) H
def rAddU : R2 := fun x y H Q => rI0 (fun i j => .int (i + j)) x y H Q ∨ rAddS x y H Q ∨ rCat x y H Q
theorem op_addU : OpR X (binaryOp .Add) rAddU := OpR.or op_add (OpR.or op_add_str op_cat)
def rEqU (K : PySem.W.Frag) : R2 := fun x y H Q => rEq x y H Q ∨ rEqD K x y H Q
theorem op_eqU (hu : X.A.units + 64 < cLine) : OpR X (compareOp .Eq) (rEqU X.K) := OpR.or op_eq (op_eqD hu)
def rNeU (K : PySem.W.Frag) : R2 := fun x y H Q => rNe x y H Q ∨ rNeD K x y H Q
theorem op_neU (hu : X.A.units + 64 < cLine) : OpR X (compareOp .NotEq) (rNeU X.K) := OpR.or op_ne (op_neD hu)
def rCmpU (f : Int → Int → Bool) (g : Str → Str → Bool) : R2 := fun x y H Q => rI0 (fun i j => .bl (f i j)) x y H Q ∨ rStr g x y H Q
def rLtU : R2 := rCmpU (fun i j => decide (i < j)) (fun i j => decide (i.cps.toList < j.cps.toList))
def rLeU : R2 := rCmpU (fun i j => decide (i ≤ j)) (fun i j => !decide (j.cps.toList < i.cps.toList))
theorem op_ltU : OpR X (compareOp .Lt) rLtU := OpR.or op_lt op_lt_str
theorem op_leU : OpR X (compareOp .LtE) rLeU := OpR.or op_le op_le_str
def rGtU : R2 := rI0 (fun i j => .bl (decide (j < i)))
def rGeU : R2 := rI0 (fun i j => .bl (decide (j ≤ i)))
theorem op_gtU : OpR X (compareOp .Gt) rGtU := op_gt
theorem op_geU : OpR X (compareOp .GtE) rGeU := op_ge
def rInDict (neg : Bool) : R2 := fun y x H Q => ∃ a o, x = .ref a ∧ DGet H a y o ∧ Q (.bl (if neg then !o.isSome else o.isSome)) H
theorem op_in_dict (hu : X.A.units + 1 < cLine) : OpR X (compareOp .In) (rInDict false) := by
  intro pins s σ H y x v u Q I ry rx h
  obtain ⟨a, o, rfl, g, q⟩ := h
  obtain rfl : u = Value.ref a := rx
  exact d_in hu I g ry fun s3 I3 => ⟨.bl o.isSome, H, I3, rfl, q⟩
theorem op_notin_dict (hu : X.A.units + 1 < cLine) : OpR X (compareOp .NotIn) (rInDict true) := by
  intro pins s σ H y x v u Q I ry rx h
  obtain ⟨a, o, rfl, g, q⟩ := h
  obtain rfl : u = Value.ref a := rx
  exact d_notIn hu I g ry fun s3 I3 => ⟨.bl (!o.isSome), H, I3, rfl, q⟩
def rInSign (neg : Bool) : R2 := fun x y H Q => ∃ (c : Nat) (z : Str), x = .str ⟨#[c]⟩ ∧ y = .str z ∧ Q (.bl (if neg then !decide (c ∈ z.cps.toList) else decide (c ∈ z.cps.toList))) H
def rInNone (neg : Bool) : R2 := fun y x H Q => ∃ a kvs, x = .ref a ∧ y = .non ∧ Rd H a (.dK kvs) ∧ Q (.bl neg) H
theorem op_in_none : OpR X (compareOp .In) (rInNone false) := by
  intro pins s σ H y x v u Q I ry rx h
  obtain ⟨a, kvs, rfl, rfl, g, q⟩ := h
  obtain rfl : u = Value.ref a := rx
  obtain rfl : v = Value.none := ry
  exact d_inNone I g fun s3 I3 => ⟨.bl false, H, I3, rfl, q⟩
theorem op_notin_none : OpR X (compareOp .NotIn) (rInNone true) := by
  intro pins s σ H y x v u Q I ry rx h
  obtain ⟨a, kvs, rfl, rfl, g, q⟩ := h
  obtain rfl : u = Value.ref a := rx
  obtain rfl : v = Value.none := ry
  exact d_notInNone I g fun s3 I3 => ⟨.bl true, H, I3, rfl, q⟩
def rInU (K : PySem.W.Frag) (neg : Bool) : R2 := fun x y H Q => rIn K neg x y H Q ∨ rInDict neg x y H Q ∨ rInSign neg x y H Q ∨ rInNone neg x y H Q
theorem op_inU (hu : X.A.units + 1 < cLine) : OpR X (compareOp .In) (rInU X.K false) := OpR.or op_in_seq (OpR.or (op_in_dict hu) (OpR.or op_in_sign op_in_none))
theorem op_notInU (hu : X.A.units + 1 < cLine) : OpR X (compareOp .NotIn) (rInU X.K true) := OpR.or op_notIn_seq (OpR.or (op_notin_dict hu) (OpR.or op_notIn_sign op_notin_none))
def rIsNone (neg : Bool) : R2 := fun x y H Q => y = .non ∧ Q (.bl (if neg then !decide (x = .non) else decide (x = .non))) H
def rIsBool (neg : Bool) : R2 := fun x y H Q => ∃ a b : Bool, x = .bl a ∧ y = .bl b ∧ Q (.bl (if neg then !decide (a = b) else decide (a = b))) H
def rIsU (neg : Bool) : R2 := fun x y H Q => rIsNone neg x y H Q ∨ rIsBool neg x y H Q
theorem op_isU : OpR X (compareOp .Is) (rIsU false) := OpR.or op_isN op_isBl
theorem op_isNotU : OpR X (compareOp .IsNot) (rIsU true) := OpR.or op_notN op_notBl
/-! ### subscripts -/
def rIxD : R2 := fun x y H Q => ∃ a v, x = .ref a ∧ DGet H a y (some v) ∧ Q v H
theorem ix_dict (hu : X.A.units + 1 < cLine) : IxR X rIxD := by
  intro value slice pins s σ H x y v u Q I rx ry h hs
  obtain ⟨a, w, rfl, g, q⟩ := h
  obtain rfl : v = Value.ref a := rx
  have hT := dict_typeIs I g
  unfold subscriptTail
  refine wpAny_bind ?_
  rw [getitemInPython_of_ne hT.not_modules]
  refine wpAny_bind (wpAny_specialOf hT PySem.F.slot_dict_getitem.lookup ?_)
  have fin : wpAny (model X.prog X.w) X.A (subscripted slice false (Value.ref a) u) (fun r s₃ => wpAny (model X.prog X.w) X.A (letTemporaryGo value (Value.ref a) r >>= fun _ => pure r) (EP X pins σ Q) X.xe s₃) X.xe s := by
    rw [hs]
    refine wpAny_operating (d_getItem hu I g ry fun w' s3 I3 rw' => ?_)
    exact wpAny_bind (wpAny_letTemporaryGo (wpAny_pure ⟨w, H, I3, rw', q⟩))
  first
    | exact wpAny_pure (wpAny_bind fin)
    | exact wpAny_bind (wpAny_pure (wpAny_bind fin))
    | exact wpAny_bind fin
def rIxU (K : PySem.W.Frag) : R2 := fun x y H Q => rIx K x y H Q ∨ rIxD x y H Q
theorem ix_U (hu : X.A.units + 1 < cLine) : IxR X (rIxU X.K) := IxR.or ix_seq (ix_dict hu)
def rSetD : TSet := fun o i v H Q => ∃ a H', o = .ref a ∧ DPut H a i v H' ∧ Q H'
theorem set_dict (hu : X.A.units + 1 < cLine) : PSet X rSetD := by
  intro pins s σ H o i v ov iv u Q I ro ri rv h
  obtain ⟨a, H', rfl, g, q⟩ := h
  obtain rfl : ov = Value.ref a := ro
  exact d_setItem hu I g ri rv fun s4 I4 => ⟨H', I4, q⟩
def rSetU : TSet := fun o i v H Q => rSetL o i v H Q ∨ rSetD o i v H Q
theorem set_U (hu : X.A.units + 1 < cLine) : PSet X rSetU := PSet.or set_list (set_dict hu)
def rSlU (K : PySem.W.Frag) : V → Option Int → Option Int → Hp → VK → Prop := fun x lo hi H Q => rSlL K x lo hi H Q ∨ rSlS x lo hi H Q
theorem sl_U : SlR X (rSlU X.K) := SlR.or sl_list sl_str
/-! ### calls -/
def rLenU (K : PySem.W.Frag) : List V → Hp → VK → Prop := fun xs H Q => (∃ x n, xs = [x] ∧ LenV K x H n ∧ Q (.int n) H) ∨ ∃ a kvs, xs = [V.ref a] ∧ H a = some (.dK kvs) ∧ Q (.int kvs.length) H
theorem call_lenU : CallR X (.builtin "len") (rLenU X.K) := CallR.or call_len call_lenD
def rIsiU (K : PySem.W.Frag) : List V → Hp → VK → Prop := fun xs H Q => rIsi K xs H Q ∨ rIsiT K xs H Q
theorem call_isiU : CallR X (.builtin "isinstance") (rIsiU X.K) := CallR.or call_isi call_isiT
def rSortedD : List V → Hp → VK → Prop := fun xs H Q => ∃ (a : Addr) (kvs : List (Key × V)) (ks : List Str), xs = [.ref a] ∧ Rd H a (.dK kvs) ∧ kvs.map (·.1) = ks.map Sum.inr ∧ ks.length < 64 ∧
    ∀ ys p, ys.Perm ks → sortedS ys = true → H p = none → Q (.ref p) (upd H p (.lst (ys.map V.str)))
def rSortedU (K : PySem.W.Frag) : List V → Hp → VK → Prop := fun xs H Q => rSortedS K xs H Q ∨ rSortedD xs H Q
theorem call_sortedU (hc : X.calm = true) : CallR X (.builtin "sorted") (rSortedU X.K) := CallR.or cr_sortedS (call_sortedD hc)
def rTupleU (K : PySem.W.Frag) : List V → Hp → VK → Prop := fun xs H Q => ∃ p ys, xs = [.ref p] ∧ ((SqL K H p ys ∧ ∀ l, H l = none → Q (.ref l) (upd H l (.tup ys))) ∨ (SqT K H p ys ∧ Q (.ref p) H))
theorem call_tupleU : CallR X (.type "tuple") (rTupleU X.K) := call_tuple_of
def rListS (K : PySem.W.Frag) : List V → Hp → VK → Prop := fun xs H Q => ∃ p ys, xs = [.ref p] ∧ (SqL K H p ys ∨ SqT K H p ys) ∧ ∀ l, H l = none → Q (.ref l) (upd H l (.lst ys))
def rListD : List V → Hp → VK → Prop := fun xs H Q => ∃ (a : Addr) (kvs : List (Key × V)), xs = [.ref a] ∧ Rd H a (.dK kvs) ∧ ∀ p, H p = none → Q (.ref p) (upd H p (.lst (kvs.map fun kv => kV kv.1)))
def rListU (K : PySem.W.Frag) : List V → Hp → VK → Prop := fun xs H Q => rListS K xs H Q ∨ rListD xs H Q
theorem call_listU (hc : X.calm = true) : CallR X (.type "list") (rListU X.K) := CallR.or call_list_of (call_listD hc)
def rDictP (K : PySem.W.Frag) : List V → Hp → VK → Prop := fun xs H Q => ∃ (a : Addr) (ps : List Addr) (kvs : List (Key × V)), xs = [.ref a] ∧ SqL K H a (ps.map V.ref) ∧ Paired (fun p kv => SqT K H p [kV kv.1, kv.2]) ps kvs ∧
    ∀ p, H p = none → Q (.ref p) (upd H p (.dK (mergeK [] kvs)))
def rDictD : List V → Hp → VK → Prop := fun xs H Q => ∃ (a : Addr) (kvs : List (Key × V)), xs = [.ref a] ∧ Rd H a (.dK kvs) ∧ ∀ p, H p = none → Q (.ref p) (upd H p (.dK kvs))
def rDictU (K : PySem.W.Frag) : List V → Hp → VK → Prop := fun xs H Q => rDictP K xs H Q ∨ rDictD xs H Q
theorem call_dictU (hc : X.calm = true) : CallR X (.type "dict") (rDictU X.K) := CallR.or (call_dictP hc) call_dictD
theorem mt_indexU : MtR X "list.index" (rIndex X.K) := mt_index
/-! the same with the written part by its name -/
variable {K : PySem.W.Frag}
theorem op_eqK (h : X.K = K) (hu : X.A.units + 64 < cLine) : OpR X (compareOp .Eq) (rEqU K) := by subst h; exact op_eqU hu
theorem op_neK (h : X.K = K) (hu : X.A.units + 64 < cLine) : OpR X (compareOp .NotEq) (rNeU K) := by subst h; exact op_neU hu
theorem op_inK (h : X.K = K) (hu : X.A.units + 1 < cLine) : OpR X (compareOp .In) (rInU K false) := by subst h; exact op_inU hu
theorem op_notInK (h : X.K = K) (hu : X.A.units + 1 < cLine) : OpR X (compareOp .NotIn) (rInU K true) := by subst h; exact op_notInU hu
theorem ix_K (h : X.K = K) (hu : X.A.units + 1 < cLine) : IxR X (rIxU K) := by subst h; exact ix_U hu
theorem sl_K (h : X.K = K) : SlR X (rSlU K) := by subst h; exact sl_U
theorem call_lenK (h : X.K = K) : CallR X (.builtin "len") (rLenU K) := by subst h; exact call_lenU
theorem call_isiK' (h : X.K = K) : CallR X (.builtin "isinstance") (rIsiU K) := by subst h; exact call_isiU
theorem call_sortedK (h : X.K = K) (hc : X.calm = true) : CallR X (.builtin "sorted") (rSortedU K) := by subst h; exact call_sortedU hc
theorem call_tupleK (h : X.K = K) : CallR X (.type "tuple") (rTupleU K) := by subst h; exact call_tupleU
theorem call_listK (h : X.K = K) (hc : X.calm = true) : CallR X (.type "list") (rListU K) := by subst h; exact call_listU hc
theorem call_dictK (h : X.K = K) (hc : X.calm = true) : CallR X (.type "dict") (rDictU K) := by subst h; exact call_dictU hc
theorem cr_allK (h : X.K = K) (hc : X.calm = true) : CallR X (.builtin "all") (rAll K) := by subst h; exact cr_all hc
theorem mt_indexK (h : X.K = K) : MtR X "list.index" (rIndex K) := by subst h; exact mt_indexU
end
section
variable {X : Cx} {K : PySem.W.Frag}
theorem pe_fldK {e : Expr} {f : Str} {pos : Pos} {ta : TE} (h : X.K = K) (he : PE X e ta) (hb : attributeBase e f X.env (eval e X.env) = eval e X.env := by rfl) : PE X (.Attribute e f pos) (tFld K ta f) := by subst h; exact pe_fld he hb
theorem pg_tupK {es : List Expr} {k : Nat} {t : TGs} {n : Nat} {pos : Pos} (h : X.K = K) (hc : X.calm = true) (hp : PGs X es t)
    (hn : (assignEach es X.env).length = n := by rfl) (hst : (assignEach es X.env).findIdx? (·.1) = none := by rfl) : PG X (.Tuple es k pos) (gTup K n t) := by subst h; exact pg_tup hc hp hn hst
theorem pi_listK {tg l : Expr} {tl : TE} (h : X.K = K) (hl : PE X l tl) : PI X tg l (iList K tl) := by subst h; exact pi_list hl
theorem pe_orTK {a b : Expr} {rest : List Expr} {pos : Pos} {ta tb : TE} (h : X.K = K) (ha : PE X a ta) (hb : PE X (.BoolOp .Or (b :: rest) pos) tb) : PE X (.BoolOp .Or (a :: b :: rest) pos) (tOrT K ta tb) := by subst h; exact pe_orT ha hb
def tTruK (K : PySem.W.Frag) (ta : TE) : TT := fun σ H Q => ta σ H fun x H' => ∃ k, TruV K x H' k ∧ Q k H'
theorem pt_truthK {a : Expr} {ta : TE} (h : X.K = K) (ha : PE X a ta) (he : ∀ whole, isTrue a X.env whole = (do let v ← whole; standAt a.pos; holding [v] (truthy v)) := by intro _; rfl) : PT X a (tTruK K ta) := by subst h; exact pt_truth ha he
theorem pe_bmK {T id : String} {name : Str} {o e : Expr} {es : List Expr} {apos cpos : Pos} {to : TE} {t : TA} {r : V → List V → Hp → VK → Prop} (h : X.K = K) (pa : PlainAttrs T) (slot : Slot T name id) (hty : typeOf (.builtin id) = pure (.type "method_descriptor")) (hm : MtR X id r) (ho : PE X o to) (ha : PA X (e :: es) t)
    (hbase : attributeBase o name X.env (eval o X.env) = eval o X.env := by rfl)
    (hfew : ((backTo cpos (starEach (e :: es) X.env)).all (fun x => !x.1) && (backToKw cpos (keywordEach [] X.env)).all (fun x => x.1.isSome)
      && decide ((e :: es).length + ([] : List Keyword).length + (if ([] : List Keyword).isEmpty then 0 else 1) < 30)) = true := by rfl)
    (hline : (apos.endLine == cpos.line) = true := by rfl) (hs : starEach (e :: es) X.env = (false, eval e X.env) :: starEach es X.env := by rfl) (hplain : (backTo cpos (starEach es X.env)).any (·.1) = false := by rfl) :
    PE X (.Call (.Attribute o name apos) (e :: es) [] cpos) (tBM K T r to t) := by subst h; exact pe_bm pa slot hty hm ho ha hbase hfew hline hs hplain
theorem pe_bm0K {T id : String} {name : Str} {o : Expr} {apos cpos : Pos} {to : TE} {r : V → List V → Hp → VK → Prop} (h : X.K = K) (pa : PlainAttrs T) (slot : Slot T name id) (hty : typeOf (.builtin id) = pure (.type "method_descriptor")) (hm : MtR X id r) (ho : PE X o to)
    (hbase : attributeBase o name X.env (eval o X.env) = eval o X.env := by rfl) (hline : (apos.endLine == cpos.line) = true := by rfl) : PE X (.Call (.Attribute o name apos) [] [] cpos) (tBM0 K T r to) := by subst h; exact pe_bm0 pa slot hty hm ho hbase hline
def rJoin (K : PySem.W.Frag) : V → List V → Hp → VK → Prop := fun x xs H Q => ∃ a p, ∃ ys : List Str, x = .str a ∧ xs = [.ref p] ∧ (SqL K H p (ys.map V.str) ∨ SqT K H p (ys.map V.str)) ∧
      (ys.map (·.length)).sum + ys.length * a.length ≤ 16777216 ∧ Q (.str (Txt.join a ys)) H
theorem pe_joinK {o e : Expr} {to te : TE} {apos pos : Pos} (h : X.K = K) (ho : PE X o to) (he : PE X e te) (hs : starEach [e] X.env = [(false, eval e X.env)] := by rfl) (hbase : attributeBase o "join" X.env (eval o X.env) = eval o X.env := by rfl) (hline : (apos.endLine == pos.line) = true := by rfl) :
    PE X (.Call (.Attribute o "join" apos) [e] [] pos) (tM1 (rJoin K) to te) := by subst h; exact pe_join ho he hs hbase hline
theorem pi_enumK {e : Expr} {ta : TA} {p pos tpos : Pos} {elts : List Expr} {kk : Nat} (h : X.K = K) (hg : Gl X "enumerate") (hm : X.mg "enumerate" = none) (ha : PA X [e] ta) (hs : starEach [e] X.env = [(false, eval e X.env)] := by rfl) :
    PI X (.Tuple elts kk tpos) (.Call (.Name "enumerate" p) [e] [] pos) (iEnum K ta) := by subst h; exact pi_enum hg hm ha hs
theorem pi_zipK {e e2 : Expr} {ta : TA} {p pos tpos : Pos} {elts : List Expr} {kk : Nat} (h : X.K = K) (hg : Gl X "zip") (hm : X.mg "zip" = none) (ha : PA X [e, e2] ta)
    (hs : starEach [e, e2] X.env = (false, eval e X.env) :: starEach [e2] X.env := by rfl) (hpl : (backTo pos (starEach [e2] X.env)).any (·.1) = false := by rfl) :
    PI X (.Tuple elts kk tpos) (.Call (.Name "zip" p) [e, e2] [] pos) (RZ.iZipA K ta) := by subst h; exact RZ.pi_zipA hg hm ha hs hpl
theorem pi_reversedK {tg e : Expr} {ta : TA} {p pos : Pos} (h : X.K = K) (hg : Gl X "reversed") (hm : X.mg "reversed" = none) (ha : PA X [e] ta) (hs : starEach [e] X.env = [(false, eval e X.env)] := by rfl) : PI X tg (.Call (.Name "reversed" p) [e] [] pos) (iRev K ta) := by subst h; exact pi_reversed hg hm ha hs
end
/-! ### names of the top -/
section
variable {X : Cx} {x : Str} {pos : Pos}
theorem pe_globS {z : Str} (hg : Gl X x) (h : ∃ t, X.mg x = some (.str z t)) (hd : (x == ("__debug__" : Str)) = false := by decide) : PE X (.Name x pos) (tC (.str z)) := let ⟨t, e⟩ := h; pe_glob hg e ⟨t, rfl⟩ hd
theorem pe_globI {z : Int} (hg : Gl X x) (h : ∃ t, X.mg x = some (.int z t)) (hd : (x == ("__debug__" : Str)) = false := by decide) : PE X (.Name x pos) (tC (.int z)) := let ⟨t, e⟩ := h; pe_glob hg e ⟨t, rfl⟩ hd
theorem pe_globC {C : Addr} (hg : Gl X x) (h : X.mg x = some (.ref C)) (hd : (x == ("__debug__" : Str)) = false := by decide) : PE X (.Name x pos) (tC (.ref C)) := pe_glob hg h rfl hd
theorem pe_bty {n : String} (hg : Gl X x) (hm : X.mg x = none) (hv : bootBuiltins x = some (.type n)) (hn : x ≠ "__name__" := by decide) (hd : (x == ("__debug__" : Str)) = false := by decide) : PE X (.Name x pos) (tC (.ty n)) := pe_bltn hg hm hv rfl hn hd
end
/-! ### defs and classes by name -/
section
variable (P : Program) (w : World) (K : PySem.W.Frag) (mg : Str → Option Value) (base : Heap) (CX : CXT) (k : Nat)
def FnAt (x : Str) (ps : List Str) (sp : Sp) : Prop := ∃ f fd, mg x = some (.ref f) ∧ PySem.W.keepIn K (.ref f) = true ∧ Binds K fd ps [] ∧ FnOk P w K mg base CX k f fd ps sp
def MtAt (C : Addr) (m : Str) (ps : List Str) (sp : Sp) : Prop := ∃ f fd, Cls K C ∧ Meth K C m f ∧ Binds K fd ps [] ∧ FnOk P w K mg base CX k f fd ps sp
def MkAt (x : Str) (C : Addr) (ps : List Str) (sp : Sp) : Prop := ∃ f fd, mg x = some (.ref C) ∧ Mk K C f ∧ Binds K fd ps [] ∧ FnOk P w K mg base CX k f fd ps sp
end
section
variable {X : Cx} {CX : CXT} {k : Nat} {x m : Str} {C : Addr} {ps : List Str} {sp : Sp} {e o : Expr} {es : List Expr} {t : TA} {ta : TE} {p pos apos : Pos}
theorem pe_fn (F : FnAt X.prog X.w X.K X.mg X.base CX0 k x ps sp) (hr : Room k X.A) (ha : PA X (e :: es) t) (hg : Gl X x := by rfl) (hdb : (x == ("__debug__" : Str)) = false := by decide)
    (he : starEach (e :: es) X.env = (false, eval e X.env) :: starEach es X.env := by rfl) (hpl : (backTo pos (starEach es X.env)).any (·.1) = false := by rfl) : PE X (.Call (.Name x p) (e :: es) [] pos) (tCall sp [] E0 t) :=
  let ⟨_, _, h1, h2, h3, h4⟩ := F
  pe_call h4 hr hg h1 h2 h3 .nil pass0 ha hdb he hpl
theorem pe_mk (F : MkAt X.prog X.w X.K X.mg X.base CX0 k x C ps sp) (hr : Room (k + 1) X.A) (ha : PA X (e :: es) t) (hg : Gl X x := by rfl) (hdb : (x == ("__debug__" : Str)) = false := by decide)
    (he : starEach (e :: es) X.env = (false, eval e X.env) :: starEach es X.env := by rfl) (hpl : (backTo pos (starEach es X.env)).any (·.1) = false := by rfl) : PE X (.Call (.Name x p) (e :: es) [] pos) (tMake C sp [] E0 t) :=
  let ⟨_, _, h1, h2, h3, h4⟩ := F
  pe_make h2 h4 hr hg h1 h3 .nil pass0 ha hdb he hpl
theorem pe_mt {pl : Sem Bool} (F : MtAt X.prog X.w X.K X.mg X.base CX0 k C m ps sp) (ho : PE X o ta) (hr : Room k X.A) (ha : PA X (e :: es) t)
    (hst : starEach (e :: es) X.env = (false, eval e X.env) :: starEach es X.env := by rfl) (hpl : (backTo pos (starEach es X.env)).any (·.1) = false := by rfl)
    (ht : eval (.Call (.Attribute o m apos) (e :: es) [] pos) X.env = (do
      let ov ← eval o X.env
      standAt apos.atName
      let (f, first) ← holding [ov] (getMethod ov m pl)
      callWith pos f first (backTo pos (starEach (e :: es) X.env)) (backToKw pos (keywordEach [] X.env))) := by rfl) : PE X (.Call (.Attribute o m apos) (e :: es) [] pos) (tMeth C m sp [] E0 ta t) :=
  let ⟨_, _, h1, h2, h3, h4⟩ := F
  pe_meth (pl := pl) ho h1 h2 h4 hr h3 .nil pass0 ha hst hpl ht
theorem pe_mt0 {pl : Sem Bool} (F : MtAt X.prog X.w X.K X.mg X.base CX0 k C m ps sp) (ho : PE X o ta) (hr : Room k X.A)
    (ht : eval (.Call (.Attribute o m apos) [] [] pos) X.env = (do
      let ov ← eval o X.env
      standAt apos.atName
      let (f, first) ← holding [ov] (getMethod ov m pl)
      callWith pos f first (backTo pos (starEach [] X.env)) (backToKw pos (keywordEach [] X.env))) := by rfl) : PE X (.Call (.Attribute o m apos) [] [] pos) (tMeth C m sp [] E0 ta tNil) :=
  let ⟨_, _, h1, h2, h3, h4⟩ := F
  pe_meth0 (pl := pl) ho h1 h2 h4 hr h3 .nil pass0 ht
end
end NN
namespace NN
open PySem L2
/-! ### types of values -/
theorem kb_str_str : kitB "str" "str" = some true := by decide +kernel
theorem kb_str_bool : kitB "str" "bool" = some false := by decide +kernel
theorem kb_str_dict : kitB "str" "dict" = some false := by decide +kernel
theorem kb_str_tuple : kitB "str" "tuple" = some false := by decide +kernel
theorem kb_str_list : kitB "str" "list" = some false := by decide +kernel
theorem kb_int_str : kitB "int" "str" = some false := by decide +kernel
theorem kb_int_bool : kitB "int" "bool" = some false := by decide +kernel
theorem kb_int_dict : kitB "int" "dict" = some false := by decide +kernel
theorem kb_int_tuple : kitB "int" "tuple" = some false := by decide +kernel
theorem kb_int_list : kitB "int" "list" = some false := by decide +kernel
theorem kb_bool_str : kitB "bool" "str" = some false := by decide +kernel
theorem kb_bool_bool : kitB "bool" "bool" = some true := by decide +kernel
theorem kb_bool_dict : kitB "bool" "dict" = some false := by decide +kernel
theorem kb_bool_tuple : kitB "bool" "tuple" = some false := by decide +kernel
theorem kb_bool_list : kitB "bool" "list" = some false := by decide +kernel
theorem kb_NoneType_str : kitB "NoneType" "str" = some false := by decide +kernel
theorem kb_NoneType_bool : kitB "NoneType" "bool" = some false := by decide +kernel
theorem kb_NoneType_dict : kitB "NoneType" "dict" = some false := by decide +kernel
theorem kb_NoneType_tuple : kitB "NoneType" "tuple" = some false := by decide +kernel
theorem kb_NoneType_list : kitB "NoneType" "list" = some false := by decide +kernel
theorem kb_list_str : kitB "list" "str" = some false := by decide +kernel
theorem kb_list_bool : kitB "list" "bool" = some false := by decide +kernel
theorem kb_list_dict : kitB "list" "dict" = some false := by decide +kernel
theorem kb_list_tuple : kitB "list" "tuple" = some false := by decide +kernel
theorem kb_list_list : kitB "list" "list" = some true := by decide +kernel
theorem kb_tuple_str : kitB "tuple" "str" = some false := by decide +kernel
theorem kb_tuple_bool : kitB "tuple" "bool" = some false := by decide +kernel
theorem kb_tuple_dict : kitB "tuple" "dict" = some false := by decide +kernel
theorem kb_tuple_tuple : kitB "tuple" "tuple" = some true := by decide +kernel
theorem kb_tuple_list : kitB "tuple" "list" = some false := by decide +kernel
theorem kb_dict_str : kitB "dict" "str" = some false := by decide +kernel
theorem kb_dict_bool : kitB "dict" "bool" = some false := by decide +kernel
theorem kb_dict_dict : kitB "dict" "dict" = some true := by decide +kernel
theorem kb_dict_tuple : kitB "dict" "tuple" = some false := by decide +kernel
theorem kb_dict_list : kitB "dict" "list" = some false := by decide +kernel
/-! ### readings, one step each -/
section
variable {K : PySem.W.Frag} {σ : St} {H : Hp} {Q : VK} {QB : Bool → Hp → Prop} {D : Ends} {ta tb tc te : TE} {r r' : R2} {v x y : V}
theorem g_var {i : Nat} (h : σ[i]? = some (some v)) (q : Q v H) : tVar i σ H Q := ⟨v, h, q⟩
theorem g_c (q : Q v H) : tC v σ H Q := q
theorem g_op (q : ta σ H fun x H1 => tb σ H1 fun y H2 => r x y H2 Q) : tOp r ta tb σ H Q := q
theorem g_un {r : V → Hp → VK → Prop} (q : ta σ H fun x H1 => r x H1 Q) : tUn r ta σ H Q := q
theorem g_test (q : te σ H fun x H1 => ∃ c, x = .bl c ∧ QB c H1) : tTest te σ H QB := q
theorem g_B (q : te σ H fun x H1 => ∃ c, x = .bl c ∧ QB c H1) : tB te σ H QB := q
theorem g_isbl {b : Bool} {P : Bool → Prop} (q : P b) : ∃ c, V.bl b = .bl c ∧ P c := ⟨b, rfl, q⟩
theorem g_and {t u : TT} (q : t σ H fun c H1 => if c = true then u σ H1 QB else QB false H1) : tAnd t u σ H QB := q
theorem g_or {t u : TT} (q : t σ H fun c H1 => if c = true then QB true H1 else u σ H1 QB) : tOr t u σ H QB := q
theorem g_not {t : TT} (q : t σ H fun c H1 => QB (!c) H1) : tNot t σ H QB := q
theorem g_andV (q : ta σ H fun x H1 => ∃ c, x = .bl c ∧ if c = true then tb σ H1 Q else Q (.bl false) H1) : tAndV ta tb σ H Q := q
theorem g_orV (q : ta σ H fun x H1 => ∃ c, x = .bl c ∧ if c = true then Q (.bl true) H1 else tb σ H1 Q) : tOrV ta tb σ H Q := q
theorem g_notV (q : ta σ H fun x H1 => ∃ c, x = .bl c ∧ Q (.bl (!c)) H1) : tNotV ta σ H Q := q
theorem g_if {t : TT} (q : t σ H fun c H1 => if c = true then ta σ H1 Q else tb σ H1 Q) : tIf t ta tb σ H Q := q
theorem g_chain (q : ta σ H fun x H1 => tb σ H1 fun y H2 => r x y H2 fun z H3 => ∃ k, z = .bl k ∧ (if k = true then tc σ H3 fun w' H4 => r' y w' H4 Q else Q (.bl false) H3)) : tChain r r' ta tb tc σ H Q := q
theorem g_nil {QA : List V → Hp → Prop} (q : QA [] H) : tNil σ H QA := q
theorem g_cons {tr : TA} {QA : List V → Hp → Prop} (q : ta σ H fun x H1 => tr σ H1 fun xs H2 => QA (x :: xs) H2) : tCons ta tr σ H QA := q
theorem g_tup {t : TA} (q : t σ H fun xs H1 => xs.length ≤ sizeLine ∧ ∀ p, H1 p = none → Q (.ref p) (upd H1 p (.tup xs))) : tTup t σ H Q := q
theorem g_lst {t : TA} (q : t σ H fun xs H1 => xs.length ≤ sizeLine ∧ ∀ p, H1 p = none → Q (.ref p) (upd H1 p (.lst xs))) : tLst t σ H Q := q
theorem g_cb {r : List V → Hp → VK → Prop} {t : TA} (q : t σ H fun vs H1 => r vs H1 Q) : tCB r t σ H Q := q
theorem g_call {sp : Sp} {E : XK} {t : TA} (q : t σ H fun vs H1 => sp (vs ++ []) H1 Q E) : tCall sp [] E t σ H Q := q
theorem g_sl {rs : V → Option Int → Option Int → Hp → VK → Prop} {tl th : TO} (q : te σ H fun x H1 => tl σ H1 fun l H2 => th σ H2 fun u H3 => rs x l u H3 Q) : tSl rs te tl th σ H Q := q
theorem g_part {QO : Option Int → Hp → Prop} (q : te σ H fun x H1 => ∃ i, x = .int i ∧ QO (some i) H1) : tPart te σ H QO := q
theorem g_isint {i : Int} {P : Int → Prop} (q : P i) : ∃ c, V.int i = .int c ∧ P c := ⟨i, rfl, q⟩
theorem g_nopart {QO : Option Int → Hp → Prop} (q : QO none H) : tNoPart σ H QO := q
theorem g_bm {T : String} {r : V → List V → Hp → VK → Prop} {t : TA} (q : te σ H fun x H1 => tyV K T x H1 ∧ t σ H1 fun xs H2 => r x xs H2 Q) : tBM K T r te t σ H Q := q
theorem g_bm0 {T : String} {r : V → List V → Hp → VK → Prop} (q : te σ H fun x H1 => tyV K T x H1 ∧ r x [] H1 Q) : tBM0 K T r te σ H Q := q
theorem g_m1 {r : V → List V → Hp → VK → Prop} (q : ta σ H fun x H1 => (∃ a, x = .str a) ∧ te σ H1 fun y H2 => r x [y] H2 Q) : tM1 r ta te σ H Q := q
theorem g_isstr {z : Str} {P : Prop} (q : P) : (∃ a, V.str z = .str a) ∧ P := ⟨⟨z, rfl⟩, q⟩
theorem g_fld {f : Str} (q : ta σ H fun x H1 => ∃ a C dx fs v, x = .ref a ∧ H1 a = some (.ins C dx fs) ∧ Cls K C ∧ NoAttr K C f ∧ fs.lookup f = some v ∧ Q v H1) : tFld K ta f σ H Q := q
theorem g_meth {C : Addr} {m : Str} {sp : Sp} {E : XK} {t : TA} (q : ta σ H fun x H1 => ∃ a dx fs, x = .ref a ∧ H1 a = some (.ins C dx fs) ∧ fs.lookup m = none ∧ t σ H1 fun vs H2 => sp (x :: (vs ++ [])) H2 Q E) : tMeth C m sp [] E ta t σ H Q := q
theorem g_make {C : Addr} {sp : Sp} {E : XK} {t : TA} (q : t σ H fun vs H1 => ∀ x dx, H1 x = none → H1 dx = none → dx ≠ x → sp (.ref x :: (vs ++ [])) (upd (upd H1 dx (.own x)) x (.ins C dx [])) (fun v H2 => v = .non ∧ Q (.ref x) H2) E) : tMake C sp [] E t σ H Q := q
theorem g_get2 {td ty tx : TE} (q : td σ H fun x H1 => ∃ a, x = .ref a ∧ IsD H1 a ∧ ty σ H1 fun y H2 => tx σ H2 fun z H3 => ∃ o, DGet H3 a y o ∧ Q (o.getD z) H3) : tDGet2 td ty tx σ H Q := q
theorem g_disp {trs : List (TE × TE)} (q : ∀ p, H p = none → tPairs trs σ (upd H p (.dK [])) fun ps H2 => H2 p = some (.dK []) ∧ ∃ kvs : List (Key × V), ps = kvs.map (fun kv => (kV kv.1, kv.2)) ∧ kvs.length ≤ 15 ∧ Q (.ref p) (upd H2 p (.dK (mergeK [] kvs)))) : tDisp trs σ H Q := q
theorem g_pnil {QP : List (V × V) → Hp → Prop} (q : QP [] H) : tPairs [] σ H QP := q
theorem g_pcons {tk tv : TE} {r : List (TE × TE)} {QP : List (V × V) → Hp → Prop} (q : tk σ H fun x H1 => tv σ H1 fun y H2 => tPairs r σ H2 fun ps H3 => QP ((x, y) :: ps) H3) : tPairs ((tk, tv) :: r) σ H QP := q
theorem g_new (q : ∀ p, H p = none → Q (.ref p) (upd H p (.dK []))) : tDNewK σ H Q := q
/-! statements -/
theorem g_seq {t u : TS} (q : t { D with nx := u D } σ H) : tSeq t u D σ H := q
theorem g_next (q : D.nx σ H) : tNext D σ H := q
theorem g_asg {g : TG} (q : te σ H fun x H1 => g x σ H1 D.nx) : tAsg te g D σ H := q
theorem g_drop (q : te σ H fun _ H1 => D.nx σ H1) : tDrop te D σ H := q
theorem g_ret (q : te σ H D.rt) : tRet te D σ H := q
theorem g_retN (q : D.rt .non H) : tRetN D σ H := q
theorem g_ifS {c : TT} {t u : TS} (q : c σ H fun b H1 => if b = true then t D σ H1 else u D σ H1) : tIfS c t u D σ H := q
theorem g_sfld {f : Str} (q : tb σ H fun y H1 => ta σ H1 fun x H2 => ∃ a C dx fs, x = .ref a ∧ H2 a = some (.ins C dx fs) ∧ Cls K C ∧ NoAttr K C f ∧ fs.length < 1000 ∧ D.nx σ (upd H2 a (.ins C dx (putF f y fs)))) : sFld K ta tb f D σ H := q
theorem g_aug {i : Nat} {ti : TIp} (h : σ[i]? = some (some x)) (q : te σ H fun y H1 => ti x y H1 fun z H2 => D.nx (σ.set i (some z)) H2) : tAug i te ti D σ H := ⟨x, h, q⟩
theorem g_ipI {f : Int → Int → Int} {i j : Int} (q : Q (.int (f i j)) H) : ipI f (.int i) (.int j) H Q := ⟨i, j, rfl, rfl, q⟩
theorem g_st {N : List Str} {vs : List V} (σ' : St) {t : TS} (h : start N vs = σ') (q : t D σ' H) : t D (start N vs) H := by rw [h]; exact q
/-! targets -/
theorem g_name {i : Nat} {QS : St → Hp → Prop} (q : QS (σ.set i (some v)) H) : gName i v σ H QS := q
theorem g_tgt {n : Nat} {t : TGs} {a : Addr} {xs : List V} {QS : St → Hp → Prop} (h : SqT K H a xs) (hn : xs.length = n) (q : t xs σ H QS) : gTup K n t (.ref a) σ H QS := ⟨a, xs, rfl, h, hn, q⟩
theorem g_gcons {t : TG} {u : TGs} {vs : List V} {QS : St → Hp → Prop} (q : t v σ H fun σ' H' => u vs σ' H' QS) : gCons t u (v :: vs) σ H QS := ⟨v, vs, rfl, q⟩
theorem g_gnil {QS : St → Hp → Prop} (q : QS σ H) : gNil [] σ H QS := ⟨rfl, q⟩
theorem g_gsub {to ti : TE} {t : TSet} {QS : St → Hp → Prop} (q : to σ H fun o H1 => ti σ H1 fun i H2 => t o i v H2 fun H3 => QS σ H3) : gSub to ti t v σ H QS := q
/-! by values -/
theorem g_rI {C : Int → Int → Prop} {g : Int → Int → V} {i j : Int} (c : C i j) (q : Q (g i j) H) : rI C g (.int i) (.int j) H Q := ⟨i, j, rfl, rfl, c, q⟩
theorem g_rI0 {g : Int → Int → V} {i j : Int} (q : Q (g i j) H) : rI0 g (.int i) (.int j) H Q := ⟨i, j, rfl, rfl, q⟩
theorem g_rU {g : Int → V} {i : Int} (q : Q (g i) H) : rU g (.int i) H Q := ⟨i, rfl, q⟩
theorem g_addI {i j : Int} (q : Q (.int (i + j)) H) : rAddU (.int i) (.int j) H Q := .inl ⟨i, j, rfl, rfl, q⟩
theorem g_addS {i j : Str} (c : i.length + j.length ≤ sizeLine) (q : Q (.str (i ++ j)) H) : rAddU (.str i) (.str j) H Q := .inr (.inl ⟨i, j, rfl, rfl, c, q⟩)
theorem g_addL {a b : Addr} {xs ys : List V} (ha : H a = some (.lst xs)) (hb : H b = some (.lst ys)) (c : xs.length + ys.length ≤ sizeLine) (q : ∀ p, H p = none → Q (.ref p) (upd H p (.lst (xs ++ ys)))) : rAddU (.ref a) (.ref b) H Q :=
  .inr (.inr ⟨a, b, xs, ys, rfl, rfl, ha, hb, c, q⟩)
theorem g_eqS (c : scal x y = true) (q : Q (.bl (decide (x = y))) H) : rEqU K x y H Q := .inl ⟨c, q⟩
theorem g_neS (c : scal x y = true) (q : Q (.bl (!decide (x = y))) H) : rNeU K x y H Q := .inl ⟨c, q⟩
theorem g_eqD {d e : PyData} (h1 : Dp K H x d) (h2 : Dp K H y e) (s1 : SeqAt.shaped d = true) (s2 : SeqAt.shaped e = true) (q : Q (.bl (PyData.eqv d e)) H) : rEqU K x y H Q := .inr ⟨d, e, h1, h2, s1, s2, q⟩
theorem g_neD {d e : PyData} (h1 : Dp K H x d) (h2 : Dp K H y e) (s1 : SeqAt.shaped d = true) (s2 : SeqAt.shaped e = true) (q : Q (.bl (!PyData.eqv d e)) H) : rNeU K x y H Q := .inr ⟨d, e, h1, h2, s1, s2, q⟩
theorem g_ltI {i j : Int} (q : Q (.bl (decide (i < j))) H) : rLtU (.int i) (.int j) H Q := .inl ⟨i, j, rfl, rfl, q⟩
theorem g_leI {i j : Int} (q : Q (.bl (decide (i ≤ j))) H) : rLeU (.int i) (.int j) H Q := .inl ⟨i, j, rfl, rfl, q⟩
theorem g_gtI {i j : Int} (q : Q (.bl (decide (j < i))) H) : rGtU (.int i) (.int j) H Q := ⟨i, j, rfl, rfl, q⟩
theorem g_geI {i j : Int} (q : Q (.bl (decide (j ≤ i))) H) : rGeU (.int i) (.int j) H Q := ⟨i, j, rfl, rfl, q⟩
theorem g_ltS {i j : Str} (q : Q (.bl (decide (i.cps.toList < j.cps.toList))) H) : rLtU (.str i) (.str j) H Q := .inr ⟨i, j, rfl, rfl, q⟩
theorem g_leS {i j : Str} (q : Q (.bl (!decide (j.cps.toList < i.cps.toList))) H) : rLeU (.str i) (.str j) H Q := .inr ⟨i, j, rfl, rfl, q⟩
theorem g_inSign {neg : Bool} {c : Nat} {z : Str} (q : Q (.bl (if neg then !decide (c ∈ z.cps.toList) else decide (c ∈ z.cps.toList))) H) : rInU K neg (.str ⟨#[c]⟩) (.str z) H Q := .inr (.inr (.inl ⟨c, z, rfl, rfl, q⟩))
theorem g_inN {neg : Bool} {a : Addr} {kvs : List (Key × V)} (h : H a = some (.dK kvs)) (q : Q (.bl neg) H) : rInU K neg .non (.ref a) H Q := .inr (.inr (.inr ⟨a, kvs, rfl, rfl, .inl h, q⟩))
theorem g_inD {neg : Bool} {a : Addr} {o : Option V} (h : DGet H a y o) (q : Q (.bl (if neg then !o.isSome else o.isSome)) H) : rInU K neg y (.ref a) H Q := .inr (.inl ⟨a, o, rfl, h, q⟩)
theorem g_inL {neg : Bool} {a : Addr} {xs : List V} (h : H a = some (.lst xs)) (c1 : flatV x = true) (c2 : xs.all flatV = true) (q : Q (.bl (if neg then !inV x xs else inV x xs)) H) : rInU K neg x (.ref a) H Q := .inl ⟨a, xs, rfl, .inl (SqL.of h), c1, c2, q⟩
theorem g_inT {neg : Bool} {a : Addr} {xs : List V} (h : H a = some (.tup xs)) (c1 : flatV x = true) (c2 : xs.all flatV = true) (q : Q (.bl (if neg then !inV x xs else inV x xs)) H) : rInU K neg x (.ref a) H Q := .inl ⟨a, xs, rfl, .inr (SqT.of h), c1, c2, q⟩
theorem g_isN {neg : Bool} (q : Q (.bl (if neg then !decide (x = .non) else decide (x = .non))) H) : rIsU neg x .non H Q := .inl ⟨rfl, q⟩
theorem g_isB {neg : Bool} {a b : Bool} (q : Q (.bl (if neg then !decide (a = b) else decide (a = b))) H) : rIsU neg (.bl a) (.bl b) H Q := .inr ⟨a, b, rfl, rfl, q⟩
theorem g_ixL {a : Addr} {xs : List V} {i : Int} (h : H a = some (.lst xs)) (c : atI xs i = some v) (q : Q v H) : rIxU K (.ref a) (.int i) H Q := .inl (.inl ⟨a, xs, i, v, rfl, rfl, SqL.of h, c, q⟩)
theorem g_ixT {a : Addr} {xs : List V} {i : Int} (h : H a = some (.tup xs)) (c : atI xs i = some v) (q : Q v H) : rIxU K (.ref a) (.int i) H Q := .inl (.inr (.inl ⟨a, xs, i, v, rfl, rfl, SqT.of h, c, q⟩))
theorem g_ixS {z : Str} {i : Int} {c : Nat} (h : z.length ≤ sizeLine) (e : atI z.cps.toList i = some c) (q : Q (.str ⟨#[c]⟩) H) : rIxU K (.str z) (.int i) H Q := .inl (.inr (.inr ⟨z, i, c, rfl, rfl, h, e, q⟩))
theorem g_ixD {a : Addr} (h : DGet H a y (some v)) (q : Q v H) : rIxU K (.ref a) y H Q := .inr ⟨a, v, rfl, h, q⟩
theorem g_setL {p : Addr} {xs : List V} {k : Int} {j : Nat} {QH : Hp → Prop} (h : H p = some (.lst xs)) (c : ixN xs.length k = some j) (q : QH (upd H p (.lst (xs.set j v)))) : rSetU (.ref p) (.int k) v H QH := .inl ⟨p, xs, k, j, rfl, rfl, h, c, q⟩
theorem g_setD {p : Addr} {kvs : List (Key × V)} {k : Str} {QH : Hp → Prop} (h : H p = some (.dK kvs)) (c : kvs.length < sizeLine) (q : QH (upd H p (.dK (putK kvs (.inr k) v)))) : rSetU (.ref p) (.str k) v H QH := .inr ⟨p, _, rfl, DPut.k (k := .inr k) h c, q⟩
theorem g_slL {a : Addr} {xs : List V} {lo hi : Option Int} (h : H a = some (.lst xs)) (q : ∀ p, H p = none → Q (.ref p) (upd H p (.lst (cutV xs lo hi)))) : rSlU K (.ref a) lo hi H Q := .inl ⟨a, xs, rfl, SqL.of h, q⟩
theorem g_slS {z : Str} {lo hi : Option Int} (c : z.length ≤ sizeLine) (q : Q (.str (cutS z lo hi)) H) : rSlU K (.str z) lo hi H Q := .inr ⟨z, rfl, c, q⟩
theorem g_lenL {a : Addr} {xs : List V} (h : H a = some (.lst xs)) (q : Q (.int xs.length) H) : rLenU K [.ref a] H Q := .inl ⟨_, _, rfl, .inl ⟨xs, SqL.of h, rfl⟩, q⟩
theorem g_lenT {a : Addr} {xs : List V} (h : H a = some (.tup xs)) (q : Q (.int xs.length) H) : rLenU K [.ref a] H Q := .inl ⟨_, _, rfl, .inr ⟨xs, SqT.of h, rfl⟩, q⟩
theorem g_lenS {z : Str} (c : z.length ≤ sizeLine) (q : Q (.int z.length) H) : rLenU K [.str z] H Q := .inl ⟨_, _, rfl, ⟨c, rfl⟩, q⟩
theorem g_lenD {a : Addr} {kvs : List (Key × V)} (h : H a = some (.dK kvs)) (q : Q (.int kvs.length) H) : rLenU K [.ref a] H Q := .inr ⟨a, kvs, rfl, h, q⟩
theorem g_isi {n : String} {t : Value} {b : Bool} (h : TyX K H x t) (c : PySem.W.kitOne K t (.type n) = some b) (q : Q (.bl b) H) : rIsiU K [x, .ty n] H Q := .inl ⟨x, .ty n, t, _, b, rfl, .ty n, h, c, q⟩
theorem g_isiS {n : String} {z : Str} (b : Bool) (c : kitB "str" n = some b) (q : Q (.bl b) H) : rIsiU K [.str z, .ty n] H Q := g_isi (.base (.str _)) (kit_ty c) q
theorem g_isiI {n : String} {z : Int} (b : Bool) (c : kitB "int" n = some b) (q : Q (.bl b) H) : rIsiU K [.int z, .ty n] H Q := g_isi (.base (.int _)) (kit_ty c) q
theorem g_isiB {n : String} {z : Bool} (b : Bool) (c : kitB "bool" n = some b) (q : Q (.bl b) H) : rIsiU K [.bl z, .ty n] H Q := g_isi (.base (.bl _)) (kit_ty c) q
theorem g_isiN {n : String} (b : Bool) (c : kitB "NoneType" n = some b) (q : Q (.bl b) H) : rIsiU K [.non, .ty n] H Q := g_isi (.base .non) (kit_ty c) q
theorem g_isiL {n : String} {a : Addr} {xs : List V} (b : Bool) (h : H a = some (.lst xs)) (c : kitB "list" n = some b) (q : Q (.bl b) H) : rIsiU K [.ref a, .ty n] H Q := g_isi (.base (.lst h)) (kit_ty c) q
theorem g_isiT {n : String} {a : Addr} {xs : List V} (b : Bool) (h : H a = some (.tup xs)) (c : kitB "tuple" n = some b) (q : Q (.bl b) H) : rIsiU K [.ref a, .ty n] H Q := g_isi (.base (.tup h)) (kit_ty c) q
theorem g_isiD {n : String} {a : Addr} {kvs : List (Key × V)} (b : Bool) (h : H a = some (.dK kvs)) (c : kitB "dict" n = some b) (q : Q (.bl b) H) : rIsiU K [.ref a, .ty n] H Q := g_isi (.base (.dK h)) (kit_ty c) q
theorem g_all {a : Addr} {bs : List Bool} (h : H a = some (.lst (bs.map V.bl))) (q : Q (.bl (bs.all id)) H) : rAll K [.ref a] H Q := ⟨a, bs, rfl, SqL.of h, q⟩
theorem g_tupL {a : Addr} {xs : List V} (h : H a = some (.lst xs)) (q : ∀ l, H l = none → Q (.ref l) (upd H l (.tup xs))) : rTupleU K [.ref a] H Q := ⟨a, xs, rfl, .inl ⟨SqL.of h, q⟩⟩
theorem g_listL {a : Addr} {xs : List V} (h : H a = some (.lst xs)) (q : ∀ l, H l = none → Q (.ref l) (upd H l (.lst xs))) : rListU K [.ref a] H Q := .inl ⟨a, xs, rfl, .inl (SqL.of h), q⟩
theorem g_listT {a : Addr} {xs : List V} (h : H a = some (.tup xs)) (q : ∀ l, H l = none → Q (.ref l) (upd H l (.lst xs))) : rListU K [.ref a] H Q := .inl ⟨a, xs, rfl, .inr (SqT.of h), q⟩
theorem g_listD {a : Addr} {kvs : List (Key × V)} (h : H a = some (.dK kvs)) (q : ∀ l, H l = none → Q (.ref l) (upd H l (.lst (kvs.map fun kv => kV kv.1)))) : rListU K [.ref a] H Q := .inr ⟨a, kvs, rfl, .inl h, q⟩
theorem g_dictD {a : Addr} {kvs : List (Key × V)} (h : H a = some (.dK kvs)) (q : ∀ l, H l = none → Q (.ref l) (upd H l (.dK kvs))) : rDictU K [.ref a] H Q := .inr ⟨a, kvs, rfl, .inl h, q⟩
theorem g_intB {k : Bool} {R1 : Int → Prop} {R2 : Bool → Prop} (q : R2 k) : (∃ i, [V.bl k] = [.int i] ∧ R1 i) ∨ ∃ k', [V.bl k] = [.bl k'] ∧ R2 k' := .inr ⟨k, rfl, q⟩
theorem g_append {a : Addr} {xs : List V} (h : H a = some (.lst xs)) (c : xs.length < sizeLine) (q : Q .non (upd H a (.lst (xs ++ [y])))) : rAppend (.ref a) [y] H Q := ⟨a, xs, y, rfl, rfl, h, c, q⟩
theorem g_extend {a b : Addr} {xs ys : List V} (h : H a = some (.lst xs)) (hb : H b = some (.lst ys)) (c : xs.length + ys.length ≤ sizeLine) (q : Q .non (upd H a (.lst (xs ++ ys)))) : rExtend (.ref a) [.ref b] H Q := ⟨a, b, xs, ys, rfl, rfl, h, hb, c, q⟩
theorem tyL {a : Addr} {xs : List V} (h : H a = some (.lst xs)) : tyV K "list" (.ref a) H := .inl ⟨rfl, _, SqL.of h⟩
theorem g_ty {T : String} {P : Prop} (h : tyV K T x H) (q : P) : tyV K T x H ∧ P := ⟨h, q⟩
/-! ifs -/
theorem g_ifB {b : Bool} {A B : Prop} (h1 : b = true → A) (h2 : b = false → B) : if b = true then A else B := by
  cases b with
  | true => rw [if_pos rfl]; exact h1 rfl
  | false => rw [if_neg Bool.false_ne_true]; exact h2 rfl
theorem g_ifT {b : Bool} {A B : Prop} (h : b = true) (q : A) : if b = true then A else B := by rw [if_pos h]; exact q
theorem g_ifF {b : Bool} {A B : Prop} (h : b = false) (q : B) : if b = true then A else B := by rw [h, if_neg Bool.false_ne_true]; exact q
end
theorem sz1 {n : Nat} (h : n ≤ 100000) : n ≤ sizeLine := Nat.le_trans h (by decide)
theorem sz2 {n : Nat} (h : n < 100000) : n < sizeLine := Nat.lt_of_lt_of_le h (by decide)
end NN
namespace NN
open PySem L2
theorem Kp.drop {S : List Addr} {H H' : Hp} {f : Addr} (hf : H f = none) (k : Kp (f :: S) H H') : Kp S H H' := fun a o e n => k a o e fun z => (List.mem_cons.mp z).elim (ne_of_none e hf) n
theorem Kp.add {S : List Addr} {H H' : Hp} {f : Addr} (k : Kp S H H') : Kp (f :: S) H H' := k.sub fun _ h => List.mem_cons_of_mem _ h
theorem Kp.upd {S : List Addr} {H H' : Hp} {f : Addr} {o : HO} (k : Kp S H H') (h : f ∈ S) : Kp S H (upd H' f o) := k.trans (Kp.mut h)
theorem Kp.upn {S : List Addr} {H H' : Hp} {f : Addr} {o : HO} (k : Kp S H H') (h : H' f = none) : Kp S H (L2.upd H' f o) := k.trans (Kp.new h)
section
variable {K : PySem.W.Frag} {J : It} {n : Nat} {G : Hp → Prop} {Y : Nat → Hp → V → Hp → Prop} {σ : St} {H : Hp} {g : TG} {Q : VK}
/-- what a comprehension asks once its iterator is there -/
def LcG (J : It) (g : TG) (tt : TT) (te : TE) (vs : List Nat) (σ : St) (H1 : Hp) (D : Addr) (Q : VK) : Prop := ∃ W : Nat → Nat → Hp → Prop, (∃ m, W 0 m (upd H1 D (.lst []))) ∧ ∀ i m H, W i m H →
      (J.stop i H ∧ Q (.ref D) H) ∨ (J.go i H ∧ ∃ Nx : Hp → Prop, (∀ H', Nx H' → ∃ m', m' < m ∧ W (i + 1) m' H') ∧ ∀ x H', J.yld i H x H' → g x (wipe σ vs) H' fun σ2 H2 => wipe σ2 vs = wipe σ vs ∧ tt σ2 H2 fun b H3 =>
        if b = true then te σ2 H3 fun y H4 => ∃ acc, H4 D = some (.lst acc) ∧ acc.length < sizeLine ∧ Nx (upd H4 D (.lst (acc ++ [y]))) else Nx H3)
theorem g_lc {wi : TI} {tt : TT} {te : TE} {vs : List Nat} (q : wi σ H fun J H1 => ∀ D, H1 D = none → LcG J g tt te vs σ H1 D Q) : tLc wi g tt te vs σ H Q := q
def ForG (J : It) (g : TG) (tb : TS) (D : Ends) (σ : St) (H1 : Hp) : Prop := ∃ W : Nat → Nat → St → Hp → Prop, (∃ m, W 0 m σ H1) ∧ ∀ i m σ H, W i m σ H →
      (J.stop i H ∧ D.nx σ H) ∨ (J.go i H ∧ ∃ N : St → Hp → Prop, (∀ σ' H', N σ' H' → ∃ m', m' < m ∧ W (i + 1) m' σ' H') ∧ ∀ x H', J.yld i H x H' → g x σ H' fun σ2 H2 => tb { D with nx := N, ct := N, bk := D.nx } σ2 H2)
theorem g_for {wi : TI} {tb : TS} {D : Ends} (q : wi σ H fun J H1 => ForG J g tb D σ H1) : tFor wi g tb D σ H := q
theorem g_iList {tl : TE} {R : It → Hp → Prop} (q : tl σ H fun x H1 => ∃ a, x = .ref a ∧ (∃ xs, SqL K H1 a xs) ∧ R (Itl K a) H1) : iList K tl σ H R := q
theorem g_iL {a : Addr} {xs : List V} {R : Addr → Prop} (h : H a = some (.lst xs)) (q : R a) : ∃ b, V.ref a = .ref b ∧ (∃ xs, SqL K H b xs) ∧ R b := ⟨a, rfl, ⟨xs, SqL.of h⟩, q⟩
theorem g_iStr {tl : TE} {R : It → Hp → Prop} (q : tl σ H fun v H1 => ∃ x, v = .str x ∧ R (Its x) H1) : iStr tl σ H R := q
theorem g_iS {z : Str} {P : Str → Prop} (q : P z) : ∃ x, V.str z = .str x ∧ P x := ⟨z, rfl, q⟩
theorem g_iRng1 {ta : TA} {R : It → Hp → Prop} (q : ta σ H fun vs H1 => ∃ j : Int, vs = [.int j] ∧ -(2 ^ 62) ≤ j ∧ j < 2 ^ 62 ∧ R (Itr 0 j.toNat) H1) : iRng1 ta σ H R := q
theorem g_iR {j : Int} {R : Int → Prop} (c : -(2 ^ 62) ≤ j ∧ j < 2 ^ 62) (q : R j) : ∃ i : Int, [V.int j] = [.int i] ∧ -(2 ^ 62) ≤ i ∧ i < 2 ^ 62 ∧ R i := ⟨j, rfl, c.1, c.2, q⟩
theorem g_iEnum {ta : TA} {R : It → Hp → Prop} (q : ta σ H fun vs H1 => ∃ a xs, vs = [.ref a] ∧ SqL K H1 a xs ∧ R (Ite K a) H1) : iEnum K ta σ H R := q
theorem g_iE {a : Addr} {xs : List V} {R : Addr → Prop} (h : SqL K H a xs) (q : R a) : ∃ b xs, [V.ref a] = [.ref b] ∧ SqL K H b xs ∧ R b := ⟨a, xs, rfl, h, q⟩
theorem g_iRev {ta : TA} {R : It → Hp → Prop} (q : ta σ H fun vs H1 => ∃ (a : Addr) (xs : List V), vs = [.ref a] ∧ SqL K H1 a xs ∧ R (Itv K a xs.length) H1) : iRev K ta σ H R := q
theorem g_iV {a : Addr} {xs : List V} {R : Addr → List V → Prop} (h : H a = some (.lst xs)) (q : R a xs) : ∃ (b : Addr) (xs : List V), [V.ref a] = [.ref b] ∧ SqL K H b xs ∧ R b xs := ⟨a, xs, rfl, SqL.of h, q⟩
theorem g_iZip {ta : TA} {R : It → Hp → Prop} (q : ta σ H fun vs H1 => ∃ a b xs ys, vs = [.ref a, .ref b] ∧ ((SqL K H1 a xs ∧ SqL K H1 b ys ∧ R (Itz K a b) H1) ∨ (SqT K H1 a xs ∧ SqT K H1 b ys ∧ R (RZ.ItzT K a b) H1))) : RZ.iZipA K ta σ H R := q
theorem g_iZL {a b : Addr} {xs ys : List V} {R R' : Addr → Addr → Prop} (h : H a = some (.lst xs)) (h' : H b = some (.lst ys)) (q : R a b) : ∃ a' b' xs ys, [V.ref a, V.ref b] = [.ref a', .ref b'] ∧ ((SqL K H a' xs ∧ SqL K H b' ys ∧ R a' b') ∨ (SqT K H a' xs ∧ SqT K H b' ys ∧ R' a' b')) := ⟨a, b, xs, ys, rfl, .inl ⟨SqL.of h, SqL.of h', q⟩⟩
theorem g_iZT {a b : Addr} {xs ys : List V} {R R' : Addr → Addr → Prop} (h : H a = some (.tup xs)) (h' : H b = some (.tup ys)) (q : R' a b) : ∃ a' b' xs ys, [V.ref a, V.ref b] = [.ref a', .ref b'] ∧ ((SqL K H a' xs ∧ SqL K H b' ys ∧ R a' b') ∨ (SqT K H a' xs ∧ SqT K H b' ys ∧ R' a' b')) := ⟨a, b, xs, ys, rfl, .inr ⟨SqT.of h, SqT.of h', q⟩⟩
theorem walk_zipT {a b : Addr} {xs ys : List V} {n : Nat} (hn : n = min xs.length ys.length) : Walk (RZ.ItzT K a b) n (fun H => SqT K H a xs ∧ SqT K H b ys) (YPair (fun i => xs[i]?) (fun i => ys[i]?)) := by
  subst hn
  refine ⟨fun i _ hi q => ?_, fun _ q => ⟨xs, ys, q.1, q.2, by omega⟩, fun i H v H' _ q y => ?_⟩
  · have h1 : i < xs.length := by omega
    have h2 : i < ys.length := by omega
    exact ⟨xs, ys, xs[i], ys[i], q.1, q.2, by simp [h1], by simp [h2]⟩
  · obtain ⟨T, x, z, h1, h2, h3, h4, h5⟩ := y
    exact ⟨T, x, z, h1, h2, h3, h4 xs q.1, h5 ys q.2⟩
theorem g_iKeys {td : TE} {R : It → Hp → Prop} (q : td σ H fun x H1 => ∃ d o, x = .ref d ∧ ((∃ kvs, H1 d = some (.frz o (.dK kvs)) ∧ R (Itk d o kvs) H1) ∨ ∃ kvs, H1 d = some (.frz o (.dT kvs)) ∧ R (Itkt d o kvs) H1)) : iKeys td σ H R := q
theorem g_iK {d : Addr} {o : Obj} {kvs : List (Key × V)} {R : Addr → Obj → List (Key × V) → Prop} {R' : Addr → Obj → List (List Key × V) → Prop} (h : H d = some (.frz o (.dK kvs))) (q : R d o kvs) : ∃ d' o, V.ref d = .ref d' ∧ ((∃ kvs, H d' = some (.frz o (.dK kvs)) ∧ R d' o kvs) ∨ ∃ kvs, H d' = some (.frz o (.dT kvs)) ∧ R' d' o kvs) :=
  ⟨d, o, rfl, .inl ⟨kvs, h, q⟩⟩
/-- behind i turns: the list so far, what stays, and what J says of them -/
def LI (S : List Addr) (H1 : Hp) (D : Addr) (Pv : Nat → List V → Hp → Prop) (i : Nat) (H : Hp) : Prop := ∃ acc, H D = some (.lst acc) ∧ acc.length ≤ i ∧ Kp (D :: S) H1 H ∧ Pv i acc H
/-- a comprehension -/
theorem lc_kp (w : Walk J n G Y) (S : List Addr) (Pv : Nat → List V → Hp → Prop) {tt : TT} {te : TE} {vs : List Nat} {H1 : Hp} {D : Addr} (hD : H1 D = none) (h0 : Pv 0 [] (upd H1 D (.lst [])))
    (hG : ∀ i acc H, i ≤ n → Kp (D :: S) H1 H → Pv i acc H → G H)
    (hs : ∀ i x H H' acc, i < n → H D = some (.lst acc) → acc.length ≤ i → Kp (D :: S) H1 H → Pv i acc H → Y i H x H' → g x (wipe σ vs) H' fun σ2 H2 => wipe σ2 vs = wipe σ vs ∧ tt σ2 H2 fun b H3 =>
      if b = true then te σ2 H3 fun y H4 => ∃ acc, H4 D = some (.lst acc) ∧ acc.length < sizeLine ∧ LI S H1 D Pv (i + 1) (upd H4 D (.lst (acc ++ [y]))) else LI S H1 D Pv (i + 1) H3)
    (hd : ∀ H acc, H D = some (.lst acc) → Kp S H1 H → Pv n acc H → Q (.ref D) H) :
    LcG J g tt te vs σ H1 D Q :=
  lc_it w (Qd := fun H => Q (.ref D) H) (LI S H1 D Pv) ⟨[], upd_same, Nat.le_refl _, Kp.new hD, h0⟩ (fun i H hi ⟨acc, _, _, k, p⟩ => hG i acc H hi k p)
    (fun i x H H' hi ⟨acc, hacc, hl, k, p⟩ y => hs i x H H' acc hi hacc hl k p y) (fun H ⟨acc, h, _, k, p⟩ => hd H acc h (k.drop hD) p)
theorem lc_add {S : List Addr} {H1 H4 : Hp} {D : Addr} {Pv : Nat → List V → Hp → Prop} {i : Nat} {acc : List V} {y : V} (h : H4 D = some (.lst acc)) (hl : acc.length ≤ i) (hi : i < 100000) (k : Kp (D :: S) H1 H4) (p : Pv (i + 1) (acc ++ [y]) (upd H4 D (.lst (acc ++ [y])))) :
    ∃ acc, H4 D = some (.lst acc) ∧ acc.length < sizeLine ∧ LI S H1 D Pv (i + 1) (upd H4 D (.lst (acc ++ [y]))) :=
  ⟨acc, h, sz2 (by omega), acc ++ [y], upd_same, by simp; omega, k.upd (by simp), p⟩
theorem lc_skip {S : List Addr} {H1 H4 : Hp} {D : Addr} {Pv : Nat → List V → Hp → Prop} {i : Nat} {acc : List V} (h : H4 D = some (.lst acc)) (hl : acc.length ≤ i) (k : Kp (D :: S) H1 H4) (p : Pv (i + 1) acc H4) :
    LI S H1 D Pv (i + 1) H4 := ⟨acc, h, by omega, k, p⟩
theorem g_iEL {a : Addr} {xs : List V} {R : Addr → Prop} (h : H a = some (.lst xs)) (q : R a) : ∃ b xs, [V.ref a] = [.ref b] ∧ SqL K H b xs ∧ R b := ⟨a, xs, rfl, SqL.of h, q⟩
theorem g_yes {QB : Bool → Hp → Prop} (q : QB true H) : tYes σ H QB := q
end
end NN
namespace NN
open PySem L2
/-! ### readings that unfold by themselves -/
def vAt (o : Option (Option V)) (k : V → Prop) : Prop := match o with
  | some (some v) => k v
  | _ => False
theorem vAt_ex {o : Option (Option V)} {k : V → Prop} (h : vAt o k) : ∃ v, o = some (some v) ∧ k v := by
  unfold vAt at h
  split at h
  · exact ⟨_, rfl, h⟩
  · exact h.elim
def tVarM (i : Nat) : TE := fun σ H Q => vAt (σ[i]?) fun v => Q v H
/-- a condition that is to be shown at once -/
def Ck (p : Prop) : Prop := p
section
variable {X : Cx}
theorem pv (i : Nat) {x : Str} {pos : Pos} (hN : X.N[i]? = some x := by rfl) (hv : Vis X.env.scope x := by first | exact Or.inl rfl | exact Or.inr (Or.inl rfl) | exact Or.inr (Or.inr rfl)) (hd : (x == ("__debug__" : Str)) = false := by decide)
    (hcd : (x == ("__classdict__" : Str)) = false := by decide) : PE X (.Name x pos) (tVarM i) :=
  ⟨fun pins s σ H Q I q => (L2.pv i hN hv hd hcd).run pins s σ H Q I (vAt_ex q)⟩
end
section
variable {K : PySem.W.Frag} {σ : St} {H : Hp} {Q : VK} {QB : Bool → Hp → Prop} {D : Ends} {ta tb tc te : TE} {r r' : R2} {v x y : V}
theorem e_var {i : Nat} : tVarM i σ H Q = vAt (σ[i]?) (fun v => Q v H) := rfl
theorem e_vAt {k : V → Prop} : vAt (some (some v)) k = k v := rfl
theorem e_c : tC v σ H Q = Q v H := rfl
theorem e_op : tOp r ta tb σ H Q = ta σ H (fun x H1 => tb σ H1 fun y H2 => r x y H2 Q) := rfl
theorem e_un {r : V → Hp → VK → Prop} : tUn r ta σ H Q = ta σ H (fun x H1 => r x H1 Q) := rfl
theorem e_test : tTest te σ H QB = te σ H (fun x H1 => ∃ c, x = .bl c ∧ QB c H1) := rfl
theorem e_B : tB te σ H QB = te σ H (fun x H1 => ∃ c, x = .bl c ∧ QB c H1) := rfl
theorem e_isbl {b : Bool} {P : Bool → Prop} : (∃ c, V.bl b = .bl c ∧ P c) = P b := propext ⟨fun ⟨c, e, q⟩ => by cases e; exact q, fun q => ⟨b, rfl, q⟩⟩
theorem e_isint {i : Int} {P : Int → Prop} : (∃ c, V.int i = .int c ∧ P c) = P i := propext ⟨fun ⟨c, e, q⟩ => by cases e; exact q, fun q => ⟨i, rfl, q⟩⟩
theorem e_isS {z : Str} {P : Str → Prop} : (∃ c, V.str z = .str c ∧ P c) = P z := propext ⟨fun ⟨c, e, q⟩ => by cases e; exact q, fun q => ⟨z, rfl, q⟩⟩
theorem e_isstr {z : Str} {P : Prop} : ((∃ a, V.str z = .str a) ∧ P) = P := propext ⟨fun h => h.2, fun q => ⟨⟨z, rfl⟩, q⟩⟩
theorem e_and {t u : TT} : tAnd t u σ H QB = t σ H (fun c H1 => if c = true then u σ H1 QB else QB false H1) := rfl
theorem e_or {t u : TT} : tOr t u σ H QB = t σ H (fun c H1 => if c = true then QB true H1 else u σ H1 QB) := rfl
theorem e_not {t : TT} : tNot t σ H QB = t σ H (fun c H1 => QB (!c) H1) := rfl
theorem e_andV : tAndV ta tb σ H Q = ta σ H (fun x H1 => ∃ c, x = .bl c ∧ if c = true then tb σ H1 Q else Q (.bl false) H1) := rfl
theorem e_orV : tOrV ta tb σ H Q = ta σ H (fun x H1 => ∃ c, x = .bl c ∧ if c = true then Q (.bl true) H1 else tb σ H1 Q) := rfl
theorem e_notV : tNotV ta σ H Q = ta σ H (fun x H1 => ∃ c, x = .bl c ∧ Q (.bl (!c)) H1) := rfl
theorem e_if {t : TT} : tIf t ta tb σ H Q = t σ H (fun c H1 => if c = true then ta σ H1 Q else tb σ H1 Q) := rfl
theorem e_chain : tChain r r' ta tb tc σ H Q = ta σ H (fun x H1 => tb σ H1 fun y H2 => r x y H2 fun z H3 => ∃ k, z = .bl k ∧ (if k = true then tc σ H3 fun w' H4 => r' y w' H4 Q else Q (.bl false) H3)) := rfl
theorem e_nil {QA : List V → Hp → Prop} : tNil σ H QA = QA [] H := rfl
theorem e_cons {tr : TA} {QA : List V → Hp → Prop} : tCons ta tr σ H QA = ta σ H (fun x H1 => tr σ H1 fun xs H2 => QA (x :: xs) H2) := rfl
theorem e_tup {t : TA} : tTup t σ H Q = t σ H (fun xs H1 => xs.length ≤ sizeLine ∧ ∀ p, H1 p = none → Q (.ref p) (upd H1 p (.tup xs))) := rfl
theorem e_lst {t : TA} : tLst t σ H Q = t σ H (fun xs H1 => xs.length ≤ sizeLine ∧ ∀ p, H1 p = none → Q (.ref p) (upd H1 p (.lst xs))) := rfl
theorem e_cb {r : List V → Hp → VK → Prop} {t : TA} : tCB r t σ H Q = t σ H (fun vs H1 => r vs H1 Q) := rfl
theorem e_call {sp : Sp} {E : XK} {t : TA} : tCall sp [] E t σ H Q = t σ H (fun vs H1 => sp (vs ++ []) H1 Q E) := rfl
theorem e_sl {rs : V → Option Int → Option Int → Hp → VK → Prop} {tl th : TO} : tSl rs te tl th σ H Q = te σ H (fun x H1 => tl σ H1 fun l H2 => th σ H2 fun u H3 => rs x l u H3 Q) := rfl
theorem e_part {QO : Option Int → Hp → Prop} : tPart te σ H QO = te σ H (fun x H1 => ∃ i, x = .int i ∧ QO (some i) H1) := rfl
theorem e_nopart {QO : Option Int → Hp → Prop} : tNoPart σ H QO = QO none H := rfl
theorem e_bm {T : String} {r : V → List V → Hp → VK → Prop} {t : TA} : tBM K T r te t σ H Q = te σ H (fun x H1 => tyV K T x H1 ∧ t σ H1 fun xs H2 => r x xs H2 Q) := rfl
theorem e_bm0 {T : String} {r : V → List V → Hp → VK → Prop} : tBM0 K T r te σ H Q = te σ H (fun x H1 => tyV K T x H1 ∧ r x [] H1 Q) := rfl
theorem e_m1 {r : V → List V → Hp → VK → Prop} : tM1 r ta te σ H Q = ta σ H (fun x H1 => (∃ a, x = .str a) ∧ te σ H1 fun y H2 => r x [y] H2 Q) := rfl
theorem e_fld {f : Str} : tFld K ta f σ H Q = ta σ H (fun x H1 => ∃ a C dx fs v, x = .ref a ∧ H1 a = some (.ins C dx fs) ∧ Cls K C ∧ NoAttr K C f ∧ fs.lookup f = some v ∧ Q v H1) := rfl
theorem e_meth {C : Addr} {m : Str} {sp : Sp} {E : XK} {t : TA} : tMeth C m sp [] E ta t σ H Q = ta σ H (fun x H1 => ∃ a dx fs, x = .ref a ∧ H1 a = some (.ins C dx fs) ∧ fs.lookup m = none ∧ t σ H1 fun vs H2 => sp (x :: (vs ++ [])) H2 Q E) := rfl
theorem e_make {C : Addr} {sp : Sp} {E : XK} {t : TA} : tMake C sp [] E t σ H Q = t σ H (fun vs H1 => ∀ x dx, H1 x = none → H1 dx = none → dx ≠ x → sp (.ref x :: (vs ++ [])) (upd (upd H1 dx (.own x)) x (.ins C dx [])) (fun v H2 => v = .non ∧ Q (.ref x) H2) E) := rfl
theorem e_get1 {td ty : TE} : tDGet1 td ty σ H Q = td σ H fun x H1 => ∃ a, x = .ref a ∧ IsD H1 a ∧ ty σ H1 fun y H2 => ∃ o, DGet H2 a y o ∧ Q (o.getD .non) H2 := rfl
theorem e_get2 {td ty tx : TE} : tDGet2 td ty tx σ H Q = td σ H (fun x H1 => ∃ a, x = .ref a ∧ IsD H1 a ∧ ty σ H1 fun y H2 => tx σ H2 fun z H3 => ∃ o, DGet H3 a y o ∧ Q (o.getD z) H3) := rfl
theorem e_disp {trs : List (TE × TE)} : tDisp trs σ H Q = (∀ p, H p = none → tPairs trs σ (upd H p (.dK [])) fun ps H2 => H2 p = some (.dK []) ∧ ∃ kvs : List (Key × V), ps = kvs.map (fun kv => (kV kv.1, kv.2)) ∧ kvs.length ≤ 15 ∧ Q (.ref p) (upd H2 p (.dK (mergeK [] kvs)))) := rfl
theorem e_pnil {QP : List (V × V) → Hp → Prop} : tPairs [] σ H QP = QP [] H := rfl
theorem e_pcons {tk tv : TE} {r : List (TE × TE)} {QP : List (V × V) → Hp → Prop} : tPairs ((tk, tv) :: r) σ H QP = tk σ H (fun x H1 => tv σ H1 fun y H2 => tPairs r σ H2 fun ps H3 => QP ((x, y) :: ps) H3) := rfl
theorem e_new : tDNewK σ H Q = (∀ p, H p = none → Q (.ref p) (upd H p (.dK []))) := rfl
theorem e_lc {wi : TI} {g : TG} {tt : TT} {vs : List Nat} : tLc wi g tt te vs σ H Q = wi σ H (fun J H1 => ∀ D, H1 D = none → LcG J g tt te vs σ H1 D Q) := rfl
theorem e_for {wi : TI} {g : TG} {tb : TS} : tFor wi g tb D σ H = wi σ H (fun J H1 => ForG J g tb D σ H1) := rfl
theorem e_iList {R : It → Hp → Prop} : iList K te σ H R = te σ H (fun x H1 => ∃ a, x = .ref a ∧ (∃ xs, SqL K H1 a xs) ∧ R (Itl K a) H1) := rfl
theorem e_iStr {R : It → Hp → Prop} : iStr te σ H R = te σ H (fun v H1 => ∃ x, v = .str x ∧ R (Its x) H1) := rfl
theorem e_iRng1 {t : TA} {R : It → Hp → Prop} : iRng1 t σ H R = t σ H (fun vs H1 => ∃ j : Int, vs = [.int j] ∧ -(2 ^ 62) ≤ j ∧ j < 2 ^ 62 ∧ R (Itr 0 j.toNat) H1) := rfl
theorem e_iEnum {t : TA} {R : It → Hp → Prop} : iEnum K t σ H R = t σ H (fun vs H1 => ∃ a xs, vs = [.ref a] ∧ SqL K H1 a xs ∧ R (Ite K a) H1) := rfl
theorem e_iKeys {R : It → Hp → Prop} : iKeys te σ H R = te σ H (fun x H1 => ∃ d o, x = .ref d ∧ ((∃ kvs, H1 d = some (.frz o (.dK kvs)) ∧ R (Itk d o kvs) H1) ∨ ∃ kvs, H1 d = some (.frz o (.dT kvs)) ∧ R (Itkt d o kvs) H1)) := rfl
theorem e_yes : tYes σ H QB = QB true H := rfl
/-! statements -/
theorem e_next : tNext D σ H = D.nx σ H := rfl
theorem e_asg {g : TG} : tAsg te g D σ H = te σ H (fun x H1 => g x σ H1 D.nx) := rfl
theorem e_drop : tDrop te D σ H = te σ H (fun _ H1 => D.nx σ H1) := rfl
theorem e_ret : tRet te D σ H = te σ H D.rt := rfl
theorem e_retN : tRetN D σ H = D.rt .non H := rfl
theorem e_ifS {c : TT} {t u : TS} : tIfS c t u D σ H = c σ H (fun b H1 => if b = true then t D σ H1 else u D σ H1) := rfl
theorem e_sfld {f : Str} : sFld K ta tb f D σ H = tb σ H (fun y H1 => ta σ H1 fun x H2 => ∃ a C dx fs, x = .ref a ∧ H2 a = some (.ins C dx fs) ∧ Cls K C ∧ NoAttr K C f ∧ fs.length < 1000 ∧ D.nx σ (upd H2 a (.ins C dx (putF f y fs)))) := rfl
theorem e_name {i : Nat} {QS : St → Hp → Prop} : gName i v σ H QS = QS (σ.set i (some v)) H := rfl
theorem e_gsub {to ti : TE} {t : TSet} {QS : St → Hp → Prop} : gSub to ti t v σ H QS = to σ H (fun o H1 => ti σ H1 fun i H2 => t o i v H2 fun H3 => QS σ H3) := rfl
theorem e_gcons {t : TG} {u : TGs} {vs : List V} {QS : St → Hp → Prop} : gCons t u (v :: vs) σ H QS = t v σ H (fun σ' H' => u vs σ' H' QS) := propext ⟨fun ⟨_, _, e, q⟩ => by cases e; exact q, fun q => ⟨v, vs, rfl, q⟩⟩
theorem e_gnil {QS : St → Hp → Prop} : gNil [] σ H QS = QS σ H := propext ⟨fun h => h.2, fun q => ⟨rfl, q⟩⟩
/-! by values -/
theorem e_rI {C : Int → Int → Prop} {g : Int → Int → V} {i j : Int} : rI C g (.int i) (.int j) H Q = (Ck (C i j) ∧ Q (g i j) H) := propext ⟨fun ⟨_, _, e1, e2, c, q⟩ => by cases e1; cases e2; exact ⟨c, q⟩, fun h => ⟨i, j, rfl, rfl, h.1, h.2⟩⟩
theorem e_rI0 {g : Int → Int → V} {i j : Int} : rI0 g (.int i) (.int j) H Q = Q (g i j) H := propext ⟨fun ⟨_, _, e1, e2, q⟩ => by cases e1; cases e2; exact q, fun q => ⟨i, j, rfl, rfl, q⟩⟩
theorem e_rU {g : Int → V} {i : Int} : rU g (.int i) H Q = Q (g i) H := propext ⟨fun ⟨_, e, q⟩ => by cases e; exact q, fun q => ⟨i, rfl, q⟩⟩
theorem e_addI {i j : Int} : rAddU (.int i) (.int j) H Q = Q (.int (i + j)) H := propext ⟨(fun h => by
  rcases h with ⟨_, _, e1, e2, q⟩ | ⟨_, _, e1, _⟩ | ⟨_, _, _, _, e1, _⟩
  · cases e1; cases e2; exact q
  · cases e1
  · cases e1), fun q => .inl ⟨i, j, rfl, rfl, q⟩⟩
theorem e_ltI {i j : Int} : rLtU (.int i) (.int j) H Q = Q (.bl (decide (i < j))) H := propext ⟨(fun h => by
  rcases h with ⟨_, _, e1, e2, q⟩ | ⟨_, _, e1, _⟩
  · cases e1; cases e2; exact q
  · cases e1), fun q => .inl ⟨i, j, rfl, rfl, q⟩⟩
theorem e_leI {i j : Int} : rLeU (.int i) (.int j) H Q = Q (.bl (decide (i ≤ j))) H := propext ⟨(fun h => by
  rcases h with ⟨_, _, e1, e2, q⟩ | ⟨_, _, e1, _⟩
  · cases e1; cases e2; exact q
  · cases e1), fun q => .inl ⟨i, j, rfl, rfl, q⟩⟩
theorem e_gtI {i j : Int} : rGtU (.int i) (.int j) H Q = Q (.bl (decide (j < i))) H := e_rI0
theorem e_geI {i j : Int} : rGeU (.int i) (.int j) H Q = Q (.bl (decide (j ≤ i))) H := e_rI0
theorem e_ifT {A B : Prop} : (if true = true then A else B) = A := if_pos rfl
theorem e_ifF {A B : Prop} : (if false = true then A else B) = B := if_neg Bool.false_ne_true
theorem e_ifTr {A B : Prop} [Decidable True] : (if True then A else B) = A := if_pos trivial
theorem e_ifFa {A B : Prop} [Decidable False] : (if False then A else B) = B := if_neg id
theorem g_newt {n : Nat} {R : Addr → Prop} (h : n ≤ 100000) (q : ∀ p, H p = none → R p) : n ≤ sizeLine ∧ ∀ p, H p = none → R p := ⟨sz1 h, q⟩
theorem g_ck {p q : Prop} (c : p) (h : q) : Ck p ∧ q := ⟨c, h⟩
theorem g_wipe {σ1 σ2 : St} {P : Prop} (h : σ1 = σ2) (q : P) : σ1 = σ2 ∧ P := ⟨h, q⟩
theorem e_wipe0 : wipe σ [] = σ := rfl
theorem e_wipe1 {i : Nat} {is : List Nat} : wipe σ (i :: is) = (wipe σ is).set i none := rfl
theorem e_map0 {α : Type} {f : α → Nat} : List.map f [] = [] := rfl
theorem e_map1 {α : Type} {f : α → Nat} {a : α} {as : List α} : List.map f (a :: as) = f a :: List.map f as := rfl
theorem e_true {A : Prop} : (True ∧ A) = A := propext ⟨fun h => h.2, fun h => ⟨trivial, h⟩⟩
theorem e_intB {k : Bool} {R1 : Int → Prop} {R2 : Bool → Prop} : ((∃ i, [V.bl k] = [.int i] ∧ R1 i) ∨ ∃ k', [V.bl k] = [.bl k'] ∧ R2 k') = R2 k := propext ⟨(fun h => by
  rcases h with ⟨_, e, _⟩ | ⟨_, e, q⟩
  · cases e
  · cases e; exact q), fun q => .inr ⟨k, rfl, q⟩⟩
end
end NN
namespace NN
open PySem L2
/-- a text by its codes -/
def tx (l : List Nat) : Str := ⟨l.toArray⟩
theorem tx_cps (l : List Nat) : (tx l).cps.toList = l := rfl
theorem tx_len (l : List Nat) : (tx l).length = l.length := by show l.toArray.size = _; simp
theorem len_T (z : Str) : z.length = z.cps.toList.length := by show z.cps.size = _; simp
theorem tx_of (z : Str) : tx z.cps.toList = z := by cases z; simp [tx]
theorem str_ext {a b : Str} (h : a.cps.toList = b.cps.toList) : a = b := by rw [← tx_of a, ← tx_of b, h]
theorem cps_app (a b : Str) : (a ++ b).cps.toList = a.cps.toList ++ b.cps.toList := by
  show (a.cps ++ b.cps).toList = _
  simp
theorem len_app (a b : Str) : (a ++ b).length = a.length + b.length := by rw [len_T, cps_app, List.length_append, ← len_T, ← len_T]
theorem tx_app (a b : List Nat) : tx a ++ tx b = tx (a ++ b) := str_ext (by rw [cps_app, tx_cps, tx_cps, tx_cps])
theorem empty_eq : (("" : Str) : Str) = tx [] := by decide +kernel
theorem join_nil : ∀ ys : List Str, (Txt.join (tx []) ys).cps.toList = ys.flatMap (·.cps.toList) := by
  intro ys
  rw [TL.join_eq]
  induction ys with
  | nil => rfl
  | cons x r ih =>
    cases r with
    | nil => show x.cps.toList = _; simp
    | cons y r =>
      show (x ++ tx [] ++ Str.join (tx []) (y :: r)).cps.toList = _
      rw [cps_app, cps_app, ih, tx_cps]
      simp
theorem join_empty (ys : List Str) : Txt.join "" ys = tx (ys.flatMap (·.cps.toList)) := by
  rw [empty_eq]
  exact str_ext (by rw [join_nil, tx_cps])
/-- one sign -/
abbrev sg (c : Nat) : Str := ⟨#[c]⟩
theorem flat_sg (cs : List Nat) : (cs.map sg).flatMap (·.cps.toList) = cs := by
  induction cs with
  | nil => rfl
  | cons c r ih => rw [List.map_cons, List.flatMap_cons, ih]; rfl
theorem join_sg (cs : List Nat) : Txt.join "" (cs.map sg) = tx cs := by rw [join_empty, flat_sg]
theorem sum_len_sg (cs : List Nat) : ((cs.map sg).map (·.length)).sum = cs.length := by
  induction cs with
  | nil => rfl
  | cons c r ih => rw [List.map_cons, List.map_cons, List.sum_cons, ih]; show 1 + r.length = r.length + 1; omega
theorem g_join {K : PySem.W.Frag} {H : Hp} {Q : VK} {z : Str} {a : Addr} {ys : List Str} (h : H a = some (.lst (ys.map V.str))) (c : (ys.map (·.length)).sum + ys.length * z.length ≤ 16777216) (q : Q (.str (Txt.join z ys)) H) :
    rJoin K (.str z) [.ref a] H Q := ⟨z, a, ys, rfl, rfl, .inl (SqL.of h), c, q⟩
/-- behind an if: what follows, proved once -/
theorem g_then {t u : TS} {D : Ends} {σ : St} {H : Hp} (P : St → Hp → Prop) (h2 : ∀ σ H, P σ H → u D σ H) (h1 : (∀ σ H, P σ H → u D σ H) → t { D with nx := u D } σ H) : tSeq t u D σ H := h1 h2
/-- a place of a text or a list -/
theorem at_lt {α : Type} {xs : List α} {i : Int} (h0 : 0 ≤ i) (h1 : i < xs.length) : ∃ v, atI xs i = some v ∧ v ∈ xs ∧ xs[i.toNat]? = some v := by
  obtain ⟨j, rfl⟩ := Int.eq_ofNat_of_zero_le h0
  have hj : j < xs.length := by omega
  exact ⟨xs[j], atI_nat (by simp [hj]), by simp, by simp [hj]⟩
end NN
namespace NN
open PySem L2
/-! ### == and != of lists of texts -/
def fineS (z : Str) : Prop := PyData.strOk z = true
theorem dp_strs {K : PySem.W.Frag} {H : Hp} : ∀ (ys : List Str), DpAll K H (ys.map V.str) (ys.map PyData.str)
  | [] => .nil
  | y :: r => .cons (.str y) (dp_strs r)
theorem lay_strs : ∀ {ys : List Str}, (∀ y ∈ ys, fineS y) → PyData.canLayAll0 (ys.map PyData.str) = true
  | [], _ => rfl
  | y :: r, h => by
    show (PyData.strOk y && PyData.canLayAll0 (r.map PyData.str)) = true
    rw [lay_strs fun z hz => h z (List.mem_cons_of_mem _ hz), show PyData.strOk y = true from h y (List.mem_cons_self ..)]
    rfl
theorem depth_strs : ∀ (ys : List Str), PyData.depthAll (ys.map PyData.str) = 0
  | [] => rfl
  | y :: r => by
    show max (PyData.depth (.str y)) (PyData.depthAll (r.map PyData.str)) = 0
    rw [depth_strs r]; rfl
theorem shaped_strs {ys : List Str} (h : ∀ y ∈ ys, fineS y) : SeqAt.shaped (.list (ys.map PyData.str)) = true := by
  unfold SeqAt.shaped
  have e1 : PyData.canLay0 (.list (ys.map PyData.str)) = true := lay_strs h
  have e2 : PyData.depth (.list (ys.map PyData.str)) = 1 := by
    show PyData.depthAll (ys.map PyData.str) + 1 = 1
    rw [depth_strs]
  rw [e1, e2]; rfl
theorem eqv_strs : ∀ (xs ys : List Str), PyData.eqvAll (xs.map PyData.str) (ys.map PyData.str) = decide (xs = ys)
  | [], [] => rfl
  | [], _ :: _ => rfl
  | _ :: _, [] => rfl
  | x :: xs, y :: ys => by
    show (PyData.eqv (.str x) (.str y) && PyData.eqvAll (xs.map PyData.str) (ys.map PyData.str)) = _
    rw [eqv_strs xs ys, show PyData.eqv (.str x) (.str y) = (x == y) from rfl]
    by_cases e : x = y
    · subst e; by_cases e2 : xs = ys
      · subst e2; simp
      · simp [e2]
    · simp [e]
section
variable {K : PySem.W.Frag} {H : Hp} {Q : VK} {a b : Addr} {xs ys : List Str}
theorem g_eqStrs (ha : H a = some (.lst (xs.map V.str))) (hb : H b = some (.lst (ys.map V.str))) (fx : ∀ y ∈ xs, fineS y) (fy : ∀ y ∈ ys, fineS y) (q : Q (.bl (decide (xs = ys))) H) : rEqU K (.ref a) (.ref b) H Q :=
  g_eqD (.lst (SqL.of ha) (dp_strs xs)) (.lst (SqL.of hb) (dp_strs ys)) (shaped_strs fx) (shaped_strs fy) (by rw [show PyData.eqv (.list (xs.map PyData.str)) (.list (ys.map PyData.str)) = PyData.eqvAll (xs.map PyData.str) (ys.map PyData.str) by rw [PyData.eqv], eqv_strs]; exact q)
theorem g_neStrs (ha : H a = some (.lst (xs.map V.str))) (hb : H b = some (.lst (ys.map V.str))) (fx : ∀ y ∈ xs, fineS y) (fy : ∀ y ∈ ys, fineS y) (q : Q (.bl (!decide (xs = ys))) H) : rNeU K (.ref a) (.ref b) H Q :=
  g_neD (.lst (SqL.of ha) (dp_strs xs)) (.lst (SqL.of hb) (dp_strs ys)) (shaped_strs fx) (shaped_strs fy) (by rw [show PyData.eqv (.list (xs.map PyData.str)) (.list (ys.map PyData.str)) = PyData.eqvAll (xs.map PyData.str) (ys.map PyData.str) by rw [PyData.eqv], eqv_strs]; exact q)
theorem g_neNil (ha : H a = some (.lst (xs.map V.str))) (hb : H b = some (.lst [])) (fx : ∀ y ∈ xs, fineS y) (q : Q (.bl (!xs.isEmpty)) H) : rNeU K (.ref a) (.ref b) H Q :=
  g_neStrs (ys := []) ha hb fx (by simp) (by cases xs <;> exact q)
end
end NN
namespace NN
open PySem PySem.Spec PyProof.Rows L2
/-! ### texts in order -/
theorem ltL_irr : ∀ a : List Nat, ltCps a a = false
  | [] => rfl
  | x :: r => by
    have := ltL_irr r
    simp [ltCps, this]
theorem ltL_tri : ∀ a b : List Nat, ltCps a b = false → ltCps b a = false → a = b
  | [], [], _, _ => rfl
  | [], _ :: _, h, _ => by simp [ltCps] at h
  | _ :: _, [], _, h => by simp [ltCps] at h
  | x :: r, y :: q, h, h' => by
    simp only [ltCps] at h h'
    have e : x = y := by
      by_cases h1 : x < y
      · simp [h1] at h
      · by_cases h2 : y < x
        · simp [h2] at h'
        · omega
    subst e
    simp at h h'
    rw [ltL_tri r q h h']
theorem ltL_trans : ∀ a b c : List Nat, ltCps a b = true → ltCps b c = true → ltCps a c = true
  | _, b, [], _, h => by cases b <;> simp [ltCps] at h
  | [], _, _ :: _, _, _ => rfl
  | _ :: _, [], _ :: _, h, _ => by simp [ltCps] at h
  | x :: r, y :: q, z :: t, h, h' => by
    simp only [ltCps, Bool.or_eq_true, Bool.and_eq_true, decide_eq_true_eq, beq_iff_eq] at h h' ⊢
    have ih := ltL_trans r q t
    rcases h with h | ⟨h1, h2⟩ <;> rcases h' with h' | ⟨h3, h4⟩
    · exact .inl (by omega)
    · exact .inl (by omega)
    · exact .inl (by omega)
    · exact .inr ⟨by omega, ih h2 h4⟩
/-- a stands ahead of b, strictly -/
def sl (a b : Str) : Prop := ltCps a.cps.toList b.cps.toList = true
instance (a b : Str) : Decidable (sl a b) := by unfold sl; infer_instance
/-- a does not stand behind b -/
def sle (a b : Str) : Prop := ltCps b.cps.toList a.cps.toList = false
instance (a b : Str) : Decidable (sle a b) := by unfold sle; infer_instance
theorem sl_irr (a : Str) : ¬ sl a a := by unfold sl; rw [ltL_irr]; exact Bool.false_ne_true
theorem sl_trans {a b c : Str} : sl a b → sl b c → sl a c := ltL_trans _ _ _
theorem sle_of_not {a b : Str} (h : ¬ sl b a) : sle a b := by unfold sle; unfold sl at h; cases e : ltCps b.cps.toList a.cps.toList <;> simp_all
theorem sle_not {a b : Str} (h : sle a b) : ¬ sl b a := by unfold sl; rw [show ltCps b.cps.toList a.cps.toList = false from h]; exact Bool.false_ne_true
theorem sle_anti {a b : Str} (h : sle a b) (h' : sle b a) : a = b := str_ext (ltL_tri _ _ h' h)
theorem sl_or {a b : Str} (h : a ≠ b) : sl a b ∨ sl b a := by
  by_cases h1 : sl a b
  · exact .inl h1
  · by_cases h2 : sl b a
    · exact .inr h2
    · exact absurd (sle_anti (sle_of_not h2) (sle_of_not h1)) h
theorem sle_trans {a b c : Str} (h : sle a b) (h' : sle b c) : sle a c := by
  refine sle_of_not fun z => ?_
  by_cases e : b = c
  · subst e; exact sle_not h z
  · rcases sl_or e with q | q
    · exact sle_not h (sl_trans q z)
    · exact sle_not h' q
theorem sle_refl (a : Str) : sle a a := sle_of_not (sl_irr a)
theorem sle_of_sl {a b : Str} (h : sl a b) : sle a b := sle_of_not fun z => sl_irr a (sl_trans h z)
theorem sl_of {a b : Str} (h : sle a b) (n : a ≠ b) : sl a b := (sl_or n).resolve_right (sle_not h)
theorem rising_pw : ∀ (l : List Str) (p : Str), risingS p l = true → (p :: l).Pairwise sle
  | [], p, _ => by simp
  | x :: r, p, h => by
    have h' : (!ltCps x.cps.toList p.cps.toList && risingS x r) = true := h
    simp only [Bool.and_eq_true, Bool.not_eq_true'] at h'
    have ih := rising_pw r x h'.2
    have hpx : sle p x := h'.1
    refine List.pairwise_cons.mpr ⟨fun y hy => ?_, ih⟩
    rcases List.mem_cons.mp hy with e | hy
    · rw [e]; exact hpx
    · exact sle_trans hpx ((List.pairwise_cons.mp ih).1 y hy)
theorem sorted_pw {l : List Str} (h : sortedS l = true) : l.Pairwise sle := by
  cases l with
  | nil => exact List.Pairwise.nil
  | cons x r => exact rising_pw r x h
theorem perm_sorted : ∀ {xs ys : List Str}, xs.Perm ys → xs.Pairwise sle → ys.Pairwise sle → xs = ys
  | [], ys, p, _, _ => by rw [List.nil_perm.mp p]
  | x :: r, [], p, _, _ => by simp at p
  | x :: r, y :: q, p, h, h' => by
    have e : x = y := by
      have hx : x ∈ y :: q := p.subset (List.mem_cons_self ..)
      have hy : y ∈ x :: r := p.symm.subset (List.mem_cons_self ..)
      rcases List.mem_cons.mp hx with e | hx
      · exact e
      · rcases List.mem_cons.mp hy with e | hy
        · exact e.symm
        · exact sle_anti ((List.pairwise_cons.mp h).1 y hy) ((List.pairwise_cons.mp h').1 x hx)
    subst e
    rw [perm_sorted (List.Perm.cons_inv p) (List.pairwise_cons.mp h).2 (List.pairwise_cons.mp h').2]
def ins (x : Str) : List Str → List Str
  | [] => [x]
  | y :: r => if sle x y then x :: y :: r else y :: ins x r
def srt : List Str → List Str
  | [] => []
  | x :: r => ins x (srt r)
theorem ins_perm (x : Str) : ∀ l : List Str, (ins x l).Perm (x :: l)
  | [] => .refl _
  | y :: r => by
    unfold ins
    split
    · exact .refl _
    · exact (List.Perm.cons y (ins_perm x r)).trans (List.Perm.swap x y r)
theorem srt_perm : ∀ l : List Str, (srt l).Perm l
  | [] => .refl _
  | x :: r => (ins_perm x (srt r)).trans (List.Perm.cons x (srt_perm r))
theorem ins_pw (x : Str) : ∀ {l : List Str}, l.Pairwise sle → (ins x l).Pairwise sle
  | [], _ => by simp [ins]
  | y :: r, h => by
    unfold ins
    obtain ⟨h1, h2⟩ := List.pairwise_cons.mp h
    split
    · rename_i c
      exact List.pairwise_cons.mpr ⟨fun z hz => (List.mem_cons.mp hz).elim (fun e => e ▸ c) fun q => sle_trans c (h1 z q), h⟩
    · rename_i c
      refine List.pairwise_cons.mpr ⟨fun z hz => ?_, ins_pw x h2⟩
      rcases List.mem_cons.mp ((ins_perm x r).subset hz) with e | q
      · rw [e]; by_cases e2 : x = y
        · subst e2; exact sle_refl _
        · rcases sl_or e2 with q | q
          · exact absurd (sle_of_sl q) c
          · exact sle_of_sl q
      · exact h1 z q
theorem srt_pw : ∀ l : List Str, (srt l).Pairwise sle
  | [] => List.Pairwise.nil
  | x :: r => ins_pw x (srt_pw r)
theorem srt_of {xs ys : List Str} (p : ys.Perm xs) (h : sortedS ys = true) : ys = srt xs := perm_sorted (p.trans (srt_perm xs).symm) (sorted_pw h) (srt_pw xs)
theorem srt_eq {xs ys : List Str} (p : xs.Perm ys) : srt xs = srt ys := perm_sorted ((srt_perm xs).trans (p.trans (srt_perm ys).symm)) (srt_pw _) (srt_pw _)
theorem srt_fix {xs : List Str} (h : xs.Pairwise sle) : srt xs = xs := perm_sorted (srt_perm xs) (srt_pw _) h
theorem srt_idem (xs : List Str) : srt (srt xs) = srt xs := srt_fix (srt_pw _)
theorem mem_srt {x : Str} {l : List Str} : x ∈ srt l ↔ x ∈ l := (srt_perm l).mem_iff
theorem len_srt (l : List Str) : (srt l).length = l.length := (srt_perm l).length_eq
theorem nd_srt {l : List Str} (h : l.Nodup) : (srt l).Nodup := (srt_perm l).nodup_iff.mpr h
theorem srt_strict {l : List Str} (h : l.Nodup) : (srt l).Pairwise sl := by
  have a := srt_pw l
  have b := nd_srt h
  exact (List.Pairwise.and a b).imp fun ⟨x, y⟩ => sl_of x y
/-! ### dicts by texts -/
section
variable {α : Type}
def lk (th : List (Str × α)) (k : Str) : Option α := (th.find? fun p => decide (p.1 = k)).map (·.2)
def keys (th : List (Str × α)) : List Str := th.map (·.1)
def put (th : List (Str × α)) (k : Str) (v : α) : List (Str × α) := if k ∈ keys th then th.map (fun p => if p.1 = k then (p.1, v) else p) else th ++ [(k, v)]
def drop (th : List (Str × α)) (k : Str) : List (Str × α) := th.filter fun p => decide (p.1 ≠ k)
theorem lk_cons (p : Str × α) (r : List (Str × α)) (k : Str) : lk (p :: r) k = if p.1 = k then some p.2 else lk r k := by
  unfold lk; rw [List.find?_cons]
  by_cases e : p.1 = k <;> simp [e]
theorem lk_none {th : List (Str × α)} {k : Str} : lk th k = none ↔ k ∉ keys th := by
  induction th with
  | nil => simp [lk, keys]
  | cons p r ih =>
    rw [lk_cons]
    by_cases e : p.1 = k
    · simp [e, keys]
    · rw [if_neg e, ih]
      simp only [keys, List.map_cons, List.mem_cons, not_or]
      exact ⟨fun h => ⟨fun z => e z.symm, h⟩, fun h => h.2⟩
theorem lk_some_key {th : List (Str × α)} {k : Str} {v : α} (h : lk th k = some v) : k ∈ keys th := by
  refine Classical.byContradiction fun n => ?_
  rw [lk_none.mpr n] at h; cases h
theorem lk_mem {th : List (Str × α)} {k : Str} {v : α} (h : lk th k = some v) : (k, v) ∈ th := by
  induction th with
  | nil => cases h
  | cons p r ih =>
    rw [lk_cons] at h
    by_cases e : p.1 = k
    · rw [if_pos e] at h; cases h; subst e; exact List.mem_cons_self ..
    · rw [if_neg e] at h; exact List.mem_cons_of_mem _ (ih h)
theorem lk_of_mem {th : List (Str × α)} {k : Str} {v : α} (nd : (keys th).Nodup) (h : (k, v) ∈ th) : lk th k = some v := by
  induction th with
  | nil => cases h
  | cons p r ih =>
    have nd' : (p.1 :: keys r).Nodup := nd
    obtain ⟨n1, n2⟩ := List.nodup_cons.mp nd'
    rw [lk_cons]
    rcases List.mem_cons.mp h with e | h
    · subst e; simp
    · have : p.1 ≠ k := fun e => n1 (e ▸ List.mem_map.mpr ⟨_, h, rfl⟩)
      rw [if_neg this]; exact ih n2 h
theorem lk_iff {th : List (Str × α)} {k : Str} {v : α} (nd : (keys th).Nodup) : lk th k = some v ↔ (k, v) ∈ th := ⟨lk_mem, lk_of_mem nd⟩
theorem lk_of_key {th : List (Str × α)} {k : Str} (h : k ∈ keys th) : ∃ v, lk th k = some v := by
  cases e : lk th k with
  | some v => exact ⟨v, rfl⟩
  | none => exact absurd h (lk_none.mp e)
theorem lk_put (th : List (Str × α)) (k j : Str) (v : α) : lk (put th k v) j = if j = k then some v else lk th j := by
  unfold put
  split
  · rename_i h
    induction th with
    | nil => simp [keys] at h
    | cons p r ih =>
      rw [List.map_cons, lk_cons]
      by_cases e : p.1 = k
      · rw [if_pos e]
        by_cases ej : j = k
        · subst ej; simp [e]
        · have : p.1 ≠ j := fun z => ej (z ▸ e)
          rw [if_neg this, if_neg ej, lk_cons, if_neg this]
          by_cases hr : k ∈ keys r
          · rw [ih hr, if_neg ej]
          · have : (r.map fun p => if p.1 = k then (p.1, v) else p) = r := by
              have h0 : ∀ p ∈ r, (if p.1 = k then (p.1, v) else p) = p := fun q hq => by
                have : q.1 ≠ k := fun z => hr (List.mem_map.mpr ⟨q, hq, z⟩)
                rw [if_neg this]
              exact (List.map_congr_left h0).trans (List.map_id r)
            rw [this]
      · rw [if_neg e]
        have hr : k ∈ keys r := by
          rcases List.mem_cons.mp (show k ∈ p.1 :: keys r from h) with z | z
          · exact absurd z.symm e
          · exact z
        rw [lk_cons, ih hr]
        by_cases e2 : p.1 = j
        · have : j ≠ k := fun z => e (e2.trans z)
          simp [e2, this]
        · rw [if_neg e2, if_neg e2]
  · rename_i h
    induction th with
    | nil => rw [List.nil_append, lk_cons]; by_cases e : k = j <;> simp [e, eq_comm, lk]
    | cons p r ih =>
      rw [List.cons_append, lk_cons, lk_cons]
      have hr : k ∉ keys r := fun z => h (List.mem_cons_of_mem _ z)
      by_cases e : p.1 = j
      · have : j ≠ k := fun z => h (z ▸ e ▸ List.mem_cons_self ..)
        simp [e, this]
      · rw [if_neg e, if_neg e, ih hr]
theorem keys_put (th : List (Str × α)) (k : Str) (v : α) : keys (put th k v) = if k ∈ keys th then keys th else keys th ++ [k] := by
  unfold put
  split
  · unfold keys; rw [List.map_map]
    refine List.map_congr_left fun p _ => ?_
    show (if p.1 = k then (p.1, v) else p).1 = p.1
    split <;> rfl
  · simp [keys]
theorem put_new {th : List (Str × α)} {k : Str} (v : α) (h : k ∉ keys th) : put th k v = th ++ [(k, v)] := if_neg h
theorem lk_drop (th : List (Str × α)) (k j : Str) : lk (drop th k) j = if j = k then none else lk th j := by
  unfold drop
  induction th with
  | nil => simp [lk]
  | cons p r ih =>
    rw [List.filter_cons]
    by_cases e : p.1 = k
    · rw [if_neg (by simp [e]), ih, lk_cons]
      by_cases ej : j = k
      · simp [ej]
      · have : p.1 ≠ j := fun z => ej (z ▸ e)
        simp [ej, this]
    · rw [if_pos (by simp [e]), lk_cons, lk_cons, ih]
      by_cases ej : p.1 = j
      · have : j ≠ k := fun z => e (ej.trans z)
        simp [ej, this]
      · simp [ej]
theorem keys_drop (th : List (Str × α)) (k : Str) : keys (drop th k) = (keys th).filter fun x => decide (x ≠ k) := by
  unfold keys drop
  rw [List.filter_map]
  rfl
theorem mem_keys_drop {th : List (Str × α)} {k j : Str} : j ∈ keys (drop th k) ↔ j ∈ keys th ∧ j ≠ k := by rw [keys_drop]; simp
theorem nd_keys_drop {th : List (Str × α)} {k : Str} (h : (keys th).Nodup) : (keys (drop th k)).Nodup := by rw [keys_drop]; exact h.filter _
theorem nd_keys_put {th : List (Str × α)} {k : Str} {v : α} (h : (keys th).Nodup) : (keys (put th k v)).Nodup := by
  rw [keys_put]
  split
  · exact h
  · rename_i n; exact nd_snoc h n
theorem mem_keys_put {th : List (Str × α)} {k j : Str} {v : α} : j ∈ keys (put th k v) ↔ j ∈ keys th ∨ j = k := by
  rw [keys_put]
  split
  · rename_i h; exact ⟨.inl, fun q => q.elim id fun e => e ▸ h⟩
  · simp
end
/-- a dict's pairs -/
def dS (th : List (Str × V)) : List (Key × V) := th.map fun p => (.inr p.1, p.2)
theorem dS_len (th : List (Str × V)) : (dS th).length = th.length := by simp [dS]
theorem dS_keys (th : List (Str × V)) : (dS th).map (·.1) = (keys th).map Sum.inr := by simp [dS, keys]
theorem valV_dS (th : List (Str × V)) (k : Str) : valV (dS th) (.inr k) = lk th k := by
  induction th with
  | nil => rfl
  | cons p r ih =>
    rw [lk_cons]
    by_cases e : p.1 = k
    · rw [if_pos e]; exact valV_pos (p := ((.inr p.1 : Key), p.2)) (congrArg Sum.inr e)
    · rw [if_neg e, ← ih]; exact valV_neg (p := ((.inr p.1 : Key), p.2)) (fun z => e (Sum.inr.inj z))
theorem any_dS (th : List (Str × V)) (k : Str) : ((dS th).any fun kv => decide (kv.1 = (.inr k : Key))) = decide (k ∈ keys th) := by
  rw [valV_any, valV_dS]
  by_cases h : k ∈ keys th
  · obtain ⟨v, hv⟩ := lk_of_key h
    simp [hv, h]
  · simp [lk_none.mpr h, h]
theorem putK_dS (th : List (Str × V)) (k : Str) (v : V) : putK (dS th) (.inr k) v = dS (put th k v) := by
  unfold putK put
  rw [any_dS]
  by_cases h : k ∈ keys th
  · rw [if_pos (by simpa using h), if_pos h]
    unfold dS
    rw [List.map_map, List.map_map]
    refine List.map_congr_left fun p _ => ?_
    show (if (Sum.inr p.1 : Key) = Sum.inr k then ((Sum.inr p.1 : Key), v) else (.inr p.1, p.2)) = (Sum.inr (if p.1 = k then (p.1, v) else p).1, (if p.1 = k then (p.1, v) else p).2)
    by_cases e : p.1 = k
    · rw [if_pos e, if_pos (congrArg Sum.inr e)]
    · rw [if_neg e, if_neg fun z => e (Sum.inr.inj z)]
  · rw [if_neg (by simpa using h), if_neg h]
    simp [dS]
theorem dropK_dS (th : List (Str × V)) (k : Str) : dropK (dS th) (.inr k) = dS (drop th k) := by
  unfold dropK drop dS
  rw [List.filter_map]
  refine congrArg _ (List.filter_congr fun p _ => ?_)
  show decide ((Sum.inr p.1 : Key) ≠ Sum.inr k) = decide (p.1 ≠ k)
  exact decide_eq_decide.mpr ⟨fun h z => h (congrArg _ z), fun h z => h (Sum.inr.inj z)⟩
theorem merge_dS : ∀ (more th : List (Str × V)), (keys th ++ keys more).Nodup → mergeK (dS th) (dS more) = dS (th ++ more)
  | [], th, _ => by simp [dS, mergeK]
  | p :: r, th, nd => by
    show mergeK (putK (dS th) (.inr p.1) p.2) (dS r) = _
    have h : p.1 ∉ keys th := fun z => by
      have := (List.nodup_append.mp nd).2.2 p.1 z p.1 (List.mem_cons_self ..)
      exact this rfl
    rw [putK_dS, put_new _ h, merge_dS r (th ++ [(p.1, p.2)]) (by
      have : keys (th ++ [(p.1, p.2)]) ++ keys r = keys th ++ keys (p :: r) := by simp [keys]
      rw [this]; exact nd)]
    simp
theorem merge_dS0 {th : List (Str × V)} (nd : (keys th).Nodup) : mergeK [] (dS th) = dS th := by
  have := merge_dS th [] (by simpa [keys] using nd)
  simpa [dS] using this
end NN
namespace NN
open PySem L2
/-! ### names -/
def letters : Str := "abcdefghijklmnopqrstuvwxyz"
def isName (z : Str) : Bool := decide (0 < z.length) && (decide (z.length ≤ 8) && z.cps.toList.all fun c => decide (c ∈ letters.cps.toList))
theorem letters_len : letters.cps.toList.length = 26 := by decide +kernel
theorem letters_lt : ∀ c ∈ letters.cps.toList, c < 1114112 := by decide +kernel
theorem letters_nd : letters.cps.toList.Nodup := by decide +kernel
theorem isName_iff {z : Str} : isName z = true ↔ 0 < z.length ∧ z.length ≤ 8 ∧ ∀ c ∈ z.cps.toList, c ∈ letters.cps.toList := by
  unfold isName
  rw [Bool.and_eq_true, Bool.and_eq_true, decide_eq_true_eq, decide_eq_true_eq, List.all_eq_true]
  simp only [decide_eq_true_eq]
theorem name_len {z : Str} (h : isName z = true) : z.length ≤ 8 := (isName_iff.mp h).2.1
theorem fine_of {z : Str} (h : ∀ c ∈ z.cps.toList, c < 1114112) : fineS z := by
  show (z.cps.all fun x => decide (x < 0x110000)) = true
  rw [Array.all_eq_true']
  intro x hx
  exact decide_eq_true (h x (by simpa using hx))
theorem name_fine {z : Str} (h : isName z = true) : fineS z := fine_of fun c hc => letters_lt c ((isName_iff.mp h).2.2 c hc)
/-! ### promises -/
def NotStr (K : PySem.W.Frag) (H : Hp) (x : V) : Prop := ∃ t, TyX K H x t ∧ PySem.W.kitOne K t (.type "str") = some false
def spIsName (K : PySem.W.Frag) : Sp := fun vs H Q _ => ∃ x, vs = [x] ∧ ((NotStr K H x ∧ Q (.bl false) H) ∨ ∃ z, x = .str z ∧ z.length ≤ 100000 ∧ ∀ H', Kp [] H H' → Q (.bl (isName z)) H')
def St1 (H : Hp) (st : Addr) : Prop := ∃ z : Int, H st = some (.lst [.int z])
def spState : Sp := fun vs H Q _ => ∃ c k : Int, vs = [.int c, .int k] ∧ ∀ st H', H st = none → Kp [] H H' → St1 H' st → Q (.ref st) H'
def spNext : Sp := fun vs H Q _ => ∃ (st : Addr) (n : Int), vs = [.ref st, .int n] ∧ St1 H st ∧ 0 < n ∧ ∀ r H', 0 ≤ r → r < n → Kp [st] H H' → St1 H' st → Q (.int r) H'
def PoolOk (ns : List Str) : Prop := ns.length = 14 ∧ ns.Nodup ∧ ∀ n ∈ ns, isName n = true
def spPool : Sp := fun vs H Q _ => ∃ st, vs = [.ref st] ∧ St1 H st ∧ ∀ p ns H', H p = none → Kp [st] H H' → St1 H' st → H' p = some (.lst (ns.map V.str)) → PoolOk ns → Q (.ref p) H'
/-- what list(..) of it gives -/
def SeqOf (H : Hp) (a : Addr) (xs : List V) : Prop := H a = some (.lst xs) ∨ ∃ kvs, H a = some (.dK kvs) ∧ xs = kvs.map fun kv => kV kv.1
def spTurned : Sp := fun vs H Q _ => ∃ (st a : Addr) (xs : List V), vs = [.ref st, .ref a] ∧ St1 H st ∧ SeqOf H a xs ∧ xs.length ≤ 1000 ∧ ∀ p ys H', H p = none → Kp [st] H H' → St1 H' st → H' p = some (.lst ys) → ys.Perm xs → Q (.ref p) H'
def ThingV (v : V) : Prop := (∃ n, v = .int n) ∨ ∃ s, v = .str s ∧ fineS s
def spThing : Sp := fun vs H Q _ => ∃ st, vs = [.ref st] ∧ St1 H st ∧ ∀ v H', ThingV v → Kp [st] H H' → St1 H' st → Q v H'
structure ThOk (ns : List Str) (th : List (Str × V)) : Prop where
  nd : (keys th).Nodup
  sub : ∀ k ∈ keys th, k ∈ ns.take 10
  len : th.length ≤ 7
  val : ∀ kv ∈ th, ThingV kv.2
def spThings : Sp := fun vs H Q _ => ∃ (st a : Addr) (ns : List Str), vs = [.ref st, .ref a] ∧ St1 H st ∧ H a = some (.lst (ns.map V.str)) ∧ PoolOk ns ∧
  ∀ p th H', H p = none → Kp [st] H H' → St1 H' st → H' p = some (.dK (dS th)) → ThOk ns th → Q (.ref p) H'
/-! ### plans -/
abbrev Pr := List (Str × Option Str)
def oV : Option Str → V
  | none => .non
  | some n => .str n
def encP (p : Str × Option Str) : D := .t [.v (.str p.1), .v (oV p.2)]
def encPs (prs : Pr) : D := .l (prs.map encP)
def news (prs : Pr) : List Str := prs.filterMap (·.2)
structure PlOk (prs : Pr) : Prop where
  ndo : (keys prs).Nodup
  ndn : (news prs).Nodup
  olds : ∀ o ∈ keys prs, isName o = true
  news : ∀ n ∈ news prs, isName n = true
  len : prs.length ≤ 40
structure PrOk (ns : List Str) (th : List (Str × V)) (prs : Pr) : Prop where
  ndo : (keys prs).Nodup
  ndn : (news prs).Nodup
  len : prs.length ≤ 7
  olds : ∀ o ∈ keys prs, o ∈ keys th
  news : ∀ n ∈ news prs, n ∈ ns.take 12 ∧ (n ∈ keys th → n ∈ keys prs)
def Live (S : List Addr) (H : Hp) : Prop := ∀ s ∈ S, H s ≠ none
theorem Live.fresh {S : List Addr} {H : Hp} {p : Addr} (l : Live S H) (h : H p = none) : p ∉ S := fun z => l p z h
theorem Live.kp {S S' : List Addr} {H H' : Hp} (l : Live S H) (k : Kp S' H H') (s : ∀ a ∈ S', H' a ≠ none) : Live S H' := fun a ha => by
  by_cases z : a ∈ S'
  · exact s a z
  · cases e : H a with
    | none => exact absurd e (l a ha)
    | some o => rw [k a o e z]; intro q; cases q
def spPairs : Sp := fun vs H Q _ => ∃ (st a b : Addr) (ns : List Str) (th : List (Str × V)) (S : List Addr), vs = [.ref st, .ref a, .ref b] ∧ St1 H st ∧ H a = some (.lst (ns.map V.str)) ∧ H b = some (.dK (dS th)) ∧ PoolOk ns ∧ ThOk ns th ∧ Live S H ∧ st ∈ S ∧
  ∀ x prs H', Kp [st] H H' → St1 H' st → At S H' x (encPs prs) → PrOk ns th prs → Q x H'
theorem PrOk.pl {ns : List Str} {th : List (Str × V)} {prs : Pr} (h : PrOk ns th prs) (hp : PoolOk ns) (ht : ThOk ns th) : PlOk prs :=
  ⟨h.ndo, h.ndn, fun o ho => hp.2.2 o (List.mem_of_mem_take (ht.sub o (h.olds o ho))), fun n hn => hp.2.2 n (List.mem_of_mem_take (h.news n hn).1), by have := h.len; omega⟩
def oldsD (prs : Pr) : List (Str × V) := prs.map fun p => (p.1, oV p.2)
def newsD (prs : Pr) : List (Str × V) := prs.filterMap fun p => p.2.map fun n => (n, V.str p.1)
theorem keys_oldsD (prs : Pr) : keys (oldsD prs) = keys prs := by simp [keys, oldsD]
theorem keys_newsD (prs : Pr) : keys (newsD prs) = news prs := by
  unfold keys newsD news
  rw [List.map_filterMap]
  congr 1
  funext p
  cases p.2 <;> rfl
theorem lk_oldsD (prs : Pr) (k : Str) : lk (oldsD prs) k = (lk prs k).map oV := by
  induction prs with
  | nil => rfl
  | cons p r ih =>
    show lk ((p.1, oV p.2) :: oldsD r) k = _
    rw [lk_cons, lk_cons, ih]
    by_cases e : p.1 = k <;> simp [e]
def byOlds (prs : Pr) : Pr := (srt (keys prs)).map fun o => (o, (lk prs o).getD none)
theorem keys_byOlds (prs : Pr) : keys (byOlds prs) = srt (keys prs) := by unfold keys byOlds; rw [List.map_map]; exact List.map_id _
def flds (a b : Addr) : List (Str × V) := [("by_olds", .ref a), ("by_news", .ref b)]
/-- a Plan of the class at C stands at p, none of its objects in S -/
structure PlanAt (S : List Addr) (C : Addr) (H : Hp) (p : Addr) (prs : Pr) : Prop where
  ex : ∃ a b dx, H p = some (.ins C dx (flds a b)) ∧ H a = some (.dK (dS (oldsD prs))) ∧ H b = some (.dK (dS (newsD prs))) ∧ p ∉ S ∧ a ∉ S ∧ b ∉ S
theorem PlanAt.kp {S S' : List Addr} {C p : Addr} {H H' : Hp} {prs : Pr} (h : PlanAt S C H p prs) (k : Kp S' H H') (s : ∀ a ∈ S', a ∈ S) : PlanAt S C H' p prs :=
  let ⟨a, b, dx, h1, h2, h3, n1, n2, n3⟩ := h.ex
  ⟨a, b, dx, k.at h1 fun z => n1 (s _ z), k.at h2 fun z => n2 (s _ z), k.at h3 fun z => n3 (s _ z), n1, n2, n3⟩
theorem PlanAt.ext {S : List Addr} {C p f : Addr} {H : Hp} {prs : Pr} (h : PlanAt S C H p prs) (hf : H f = none) : PlanAt (f :: S) C H p prs :=
  let ⟨a, b, dx, h1, h2, h3, n1, n2, n3⟩ := h.ex
  ⟨a, b, dx, h1, h2, h3, fun z => (List.mem_cons.mp z).elim (ne_of_none h1 hf) n1, fun z => (List.mem_cons.mp z).elim (ne_of_none h2 hf) n2, fun z => (List.mem_cons.mp z).elim (ne_of_none h3 hf) n3⟩
theorem PlanAt.sub {S S' : List Addr} {C p : Addr} {H : Hp} {prs : Pr} (h : PlanAt S C H p prs) (s : ∀ a ∈ S', a ∈ S) : PlanAt S' C H p prs :=
  let ⟨a, b, dx, h1, h2, h3, n1, n2, n3⟩ := h.ex
  ⟨a, b, dx, h1, h2, h3, fun z => n1 (s _ z), fun z => n2 (s _ z), fun z => n3 (s _ z)⟩
def spPlanInit (C : Addr) : Sp := fun vs H Q _ => ∃ (x dx : Addr) (y : V) (prs : Pr), vs = [.ref x, y] ∧ H x = some (.ins C dx []) ∧ At [x] H y (encPs prs) ∧ PlOk prs ∧
  ∀ a b H', Kp [x] H H' → H a = none → H b = none → H' x = some (.ins C dx (flds a b)) → H' a = some (.dK (dS (oldsD prs))) → H' b = some (.dK (dS (newsD prs))) → Q .non H'
def spPlanPairs (C : Addr) : Sp := fun vs H Q _ => ∃ (p : Addr) (prs : Pr), vs = [.ref p] ∧ PlanAt [] C H p prs ∧ PlOk prs ∧
  ∀ q ws H' , H q = none → Kp [] H H' → H' q = some (.lst ws) → (∀ S, Live S H → AtL (q :: S) H' ws ((byOlds prs).map encP)) → Q (.ref q) H'
def spPlanOlds (C : Addr) : Sp := fun vs H Q _ => ∃ (p : Addr) (prs : Pr), vs = [.ref p] ∧ PlanAt [] C H p prs ∧ PlOk prs ∧
  ∀ q H', H q = none → Kp [] H H' → H' q = some (.lst ((srt (keys prs)).map V.str)) → Q (.ref q) H'
def spPlanNews (C : Addr) : Sp := fun vs H Q _ => ∃ (p : Addr) (prs : Pr), vs = [.ref p] ∧ PlanAt [] C H p prs ∧ PlOk prs ∧
  ∀ q H', H q = none → Kp [] H H' → H' q = some (.lst ((srt (news prs)).map V.str)) → Q (.ref q) H'
def toV (prs : Pr) (n : Str) : V := ((lk prs n).map oV).getD (.str n)
def spPlanTo (C : Addr) : Sp := fun vs H Q _ => ∃ (p : Addr) (prs : Pr) (n : Str), vs = [.ref p, .str n] ∧ PlanAt [] C H p prs ∧ Q (toV prs n) H
/-- dict of pairs, rising by the old names -/
def spByOlds : Sp := fun vs H Q _ => ∃ (a : Addr) (prs : Pr), vs = [.ref a] ∧ At [] H (.ref a) (encPs prs) ∧ (keys prs).Nodup ∧ prs.length ≤ 40 ∧
  ∀ q ws H' , H q = none → Kp [] H H' → H' q = some (.lst ws) → (∀ S, Live S H → AtL (q :: S) H' ws ((byOlds prs).map encP)) → Q (.ref q) H'
/-! ### calls -/
section
variable {H : Hp} {Q : VK} {E : XK} {K : PySem.W.Frag}
theorem c_next {st : Addr} {n : Int} (h : St1 H st) (hn : 0 < n) (k : ∀ r H', 0 ≤ r → r < n → Kp [st] H H' → St1 H' st → Q (.int r) H') : spNext [.ref st, .int n] H Q E := ⟨st, n, rfl, h, hn, k⟩
theorem c_isName {z : Str} (hz : z.length ≤ 100000) (k : ∀ H', Kp [] H H' → Q (.bl (isName z)) H') : spIsName K [.str z] H Q E := ⟨_, rfl, .inr ⟨z, rfl, hz, k⟩⟩
theorem c_notName {x : V} (h : NotStr K H x) (k : Q (.bl false) H) : spIsName K [x] H Q E := ⟨_, rfl, .inl ⟨h, k⟩⟩
theorem c_state {c k : Int} (q : ∀ st H', H st = none → Kp [] H H' → St1 H' st → Q (.ref st) H') : spState [.int c, .int k] H Q E := ⟨c, k, rfl, q⟩
theorem St1.kp {H H' : Hp} {S : List Addr} {st : Addr} (h : St1 H st) (k : Kp S H H') (n : st ∉ S) : St1 H' st := let ⟨z, e⟩ := h; ⟨z, k.at e n⟩
theorem St1.upn {H : Hp} {p st : Addr} {o : HO} (h : St1 H st) (hp : H p = none) : St1 (upd H p o) st := h.kp (S := []) (Kp.new hp) (by simp)
theorem St1.ne {H : Hp} {p st : Addr} (h : St1 H st) (hp : H p = none) : p ≠ st := let ⟨_, e⟩ := h; (ne_of_none e hp).symm
theorem St1.live {H : Hp} {st : Addr} (h : St1 H st) : H st ≠ none := let ⟨_, e⟩ := h; by rw [e]; intro q; cases q
end
theorem script_int {ns : List Int} {i : Nat} {y : V} (hy : (ns.map V.int)[i]? = some y) : ∃ c, y = V.int c := by
  rw [List.getElem?_map] at hy
  cases e : ns[i]? with
  | none => rw [e] at hy; cases hy
  | some z => rw [e] at hy; exact ⟨z, (Option.some.inj hy).symm⟩
/-- law's: a list of at most 63 ints is handed in, True comes out -/
def spLaw (K : PySem.W.Frag) : Sp := fun vs H Q _ => ∃ (a : Addr) (ns : List Int), vs = [.ref a] ∧ SqL K H a (ns.map V.int) ∧ ns.length ≤ 63 ∧ ∀ H', Q (.bl true) H'
theorem ixN_lt {n : Nat} {i : Int} (h0 : 0 ≤ i) (h1 : i < n) : ixN n i = some i.toNat := by
  unfold ixN
  rw [if_pos h0, if_pos h1]
/-- the items of a list of texts -/
theorem str_at {ns : List Str} {i : Nat} {x : V} (h : (ns.map V.str)[i]? = some x) : ∃ n, ns[i]? = some n ∧ x = .str n := by
  rw [List.getElem?_map] at h
  cases e : ns[i]? with
  | none => rw [e] at h; cases h
  | some z => rw [e] at h; exact ⟨z, rfl, (Option.some.inj h).symm⟩
end NN
namespace NN
open PySem L2
/-! ### the pool of names -/
def letAt (i : Int) : Nat := letters.cps.toList.getD i.toNat 0
theorem letAt_at {i : Int} (h0 : 0 ≤ i) (h1 : i < 26) : atI letters.cps.toList i = some (letAt i) := by
  obtain ⟨v, hv, _, hw⟩ := at_lt (xs := letters.cps.toList) h0 (by rw [letters_len]; exact h1)
  rw [hv]; congr 1
  unfold letAt
  rw [List.getD_eq_getElem?_getD, hw]; rfl
theorem letAt_mem {i : Int} (h0 : 0 ≤ i) (h1 : i < 26) : letAt i ∈ letters.cps.toList := by
  obtain ⟨v, hv, hm, hw⟩ := at_lt (xs := letters.cps.toList) h0 (by rw [letters_len]; exact h1)
  unfold letAt
  rw [List.getD_eq_getElem?_getD, hw]; exact hm
theorem letAt_inj {i j : Int} (h0 : 0 ≤ i) (h1 : i < 26) (h2 : 0 ≤ j) (h3 : j < 26) (e : letAt i = letAt j) : i = j := by
  obtain ⟨v, _, _, hv⟩ := at_lt (xs := letters.cps.toList) h0 (by rw [letters_len]; exact h1)
  obtain ⟨w, _, _, hw⟩ := at_lt (xs := letters.cps.toList) h2 (by rw [letters_len]; exact h3)
  unfold letAt at e
  rw [List.getD_eq_getElem?_getD, List.getD_eq_getElem?_getD, hv, hw] at e
  have e : v = w := e
  subst e
  have := nd_ix letters_nd hv hw
  omega
theorem cut_to {z : Str} {i : Int} (h : 0 ≤ i) : cutS z none (some i) = tx (z.cps.toList.take i.toNat) := by
  refine str_ext ?_
  rw [tx_cps]
  show ((z.cps.toList.drop (HT.sIx z.length 0 none)).take (HT.sIx z.length z.length (some i) - HT.sIx z.length 0 none)) = _
  have h1 : HT.sIx z.length 0 none = 0 := rfl
  have h2 : HT.sIx z.length z.length (some i) = min i.toNat z.length := by show (if i < 0 then (i + (z.length : Int)).toNat else min i.toNat z.length) = _; rw [if_neg (by omega)]
  rw [h1, h2, List.drop_zero, Nat.sub_zero, len_T]
  rw [List.take_eq_take_iff]; omega
theorem cut_from {z : Str} {i : Int} (h : 0 ≤ i) : cutS z (some i) none = tx (z.cps.toList.drop i.toNat) := by
  refine str_ext ?_
  rw [tx_cps]
  show ((z.cps.toList.drop (HT.sIx z.length 0 (some i))).take (HT.sIx z.length z.length none - HT.sIx z.length 0 (some i))) = _
  have h1 : HT.sIx z.length z.length none = z.length := rfl
  have h2 : HT.sIx z.length 0 (some i) = min i.toNat z.length := by show (if i < 0 then (i + (z.length : Int)).toNat else min i.toNat z.length) = _; rw [if_neg (by omega)]
  rw [h1, h2, len_T]
  by_cases hi : i.toNat ≤ z.cps.toList.length
  · rw [Nat.min_eq_left hi, List.take_of_length_le (by rw [List.length_drop]; omega)]
  · rw [Nat.min_eq_right (by omega), List.drop_eq_nil_of_le (Nat.le_refl _), List.drop_eq_nil_of_le (by omega)]; simp
def poolA (bs : List Nat) (s : Int) (k : Nat) : Str := tx (letAt ((s + 5 * (k : Int)) % 26) :: bs.take (((k : Int) + s) % 4).toNat)
def poolB (bs : List Nat) (p s : Int) (k : Nat) : Str := tx (bs.take p.toNat ++ letAt ((s + 7 * (k : Int)) % 26) :: bs.drop p.toNat)
theorem poolA_ok {bs : List Nat} {s : Int} (hb : ∀ c ∈ bs, c ∈ letters.cps.toList) (hl : bs.length ≤ 7) (h0 : 0 ≤ s) : PoolOk ((List.range 14).map (poolA bs s)) := by
  refine ⟨by simp, ?_, ?_⟩
  · refine List.pairwise_map.mpr ((List.nodup_range (n := 14)).imp_of_mem fun {a b} ha hb' hab e => hab ?_)
    have e1 := congrArg (fun z : Str => z.cps.toList.head?) e
    simp only [poolA, tx_cps, List.head?_cons, Option.some.injEq] at e1
    have := letAt_inj (Int.emod_nonneg _ (by decide)) (Int.emod_lt_of_pos _ (by decide)) (Int.emod_nonneg _ (by decide)) (Int.emod_lt_of_pos _ (by decide)) e1
    rw [List.mem_range] at ha hb'
    omega
  · intro n hn
    obtain ⟨k, _, rfl⟩ := List.mem_map.mp hn
    refine isName_iff.mpr ⟨?_, ?_, ?_⟩
    · unfold poolA; rw [tx_len]; simp
    · unfold poolA; rw [tx_len, List.length_cons, List.length_take]; omega
    · intro c hc
      unfold poolA at hc
      rw [tx_cps] at hc
      rcases List.mem_cons.mp hc with e | hc
      · rw [e]; exact letAt_mem (Int.emod_nonneg _ (by decide)) (Int.emod_lt_of_pos _ (by decide))
      · exact hb c (List.mem_of_mem_take hc)
theorem poolB_ok {bs : List Nat} {p s : Int} (hb : ∀ c ∈ bs, c ∈ letters.cps.toList) (hl : bs.length ≤ 7) (h0 : 0 ≤ s) (h1 : 0 ≤ p) (h2 : p ≤ bs.length) : PoolOk ((List.range 14).map (poolB bs p s)) := by
  refine ⟨by simp, ?_, ?_⟩
  · refine List.pairwise_map.mpr ((List.nodup_range (n := 14)).imp_of_mem fun {a b} ha hb' hab e => hab ?_)
    have e1 := congrArg (fun z : Str => z.cps.toList) e
    simp only [poolB, tx_cps] at e1
    have e2 := (List.append_inj e1 rfl).2
    have e3 := (List.cons.inj e2).1
    have := letAt_inj (Int.emod_nonneg _ (by decide)) (Int.emod_lt_of_pos _ (by decide)) (Int.emod_nonneg _ (by decide)) (Int.emod_lt_of_pos _ (by decide)) e3
    rw [List.mem_range] at ha hb'
    omega
  · intro n hn
    obtain ⟨k, _, rfl⟩ := List.mem_map.mp hn
    refine isName_iff.mpr ⟨?_, ?_, ?_⟩
    · unfold poolB; rw [tx_len]; simp; omega
    · unfold poolB; rw [tx_len, List.length_append, List.length_cons, List.length_take, List.length_drop]; omega
    · intro c hc
      unfold poolB at hc
      rw [tx_cps] at hc
      rcases List.mem_append.mp hc with hc | hc
      · exact hb c (List.mem_of_mem_take hc)
      · rcases List.mem_cons.mp hc with e | hc
        · rw [e]; exact letAt_mem (Int.emod_nonneg _ (by decide)) (Int.emod_lt_of_pos _ (by decide))
        · exact hb c (List.mem_of_mem_drop hc)
/-! ### comprehensions -/
section
variable {J : It} {n : Nat} {G : Hp → Prop} {Y : Nat → Hp → V → Hp → Prop} {σ : St} {g : TG} {Q : VK}
/-- what a turn of a comprehension is to reach -/
def LA (st : List Addr) (H1 : Hp) (D : Addr) (Pv : Nat → List V → Hp → Prop) (i : Nat) (y : V) (H4 : Hp) : Prop := ∃ acc, H4 D = some (.lst acc) ∧ acc.length < sizeLine ∧ LI st H1 D Pv (i + 1) (upd H4 D (.lst (acc ++ [y])))
/-- the items one by one, the list so far told by their number alone -/
theorem lc_fn (w : Walk J n G Y) (f : Nat → V) (S : List Addr) {tt : TT} {te : TE} {vs : List Nat} {H1 : Hp} {D : Addr} (hD : H1 D = none) (hn : n ≤ 100000) (hG : ∀ H, Kp (D :: S) H1 H → G H)
    (hs : ∀ i x H H', i < n → H D = some (.lst ((List.range i).map f)) → Kp (D :: S) H1 H → Y i H x H' → g x (wipe σ vs) H' fun σ2 H2 => wipe σ2 vs = wipe σ vs ∧ tt σ2 H2 fun b H3 =>
      if b = true then te σ2 H3 fun y H4 => ∃ acc, H4 D = some (.lst acc) ∧ acc.length < sizeLine ∧ LI S H1 D (fun i acc _ => acc = (List.range i).map f) (i + 1) (upd H4 D (.lst (acc ++ [y]))) else LI S H1 D (fun i acc _ => acc = (List.range i).map f) (i + 1) H3)
    (hd : ∀ H, H D = some (.lst ((List.range n).map f)) → Kp S H1 H → Q (.ref D) H) : LcG J g tt te vs σ H1 D Q := by
  refine lc_kp w S (fun i acc _ => acc = (List.range i).map f) hD rfl (fun i acc H _ k _ => hG H k) (fun i x H H' acc hi hacc hl k p y => ?_) (fun H acc h k p => hd H (p ▸ h) k)
  subst p
  exact hs i x H H' hi hacc k y
theorem lc_fn_add {f : Nat → V} {S : List Addr} {H1 H4 : Hp} {D : Addr} {i : Nat} {y : V} (h : H4 D = some (.lst ((List.range i).map f))) (hi : i < 100000) (k : Kp (D :: S) H1 H4) (e : y = f i) :
    ∃ acc, H4 D = some (.lst acc) ∧ acc.length < sizeLine ∧ LI S H1 D (fun i acc _ => acc = (List.range i).map f) (i + 1) (upd H4 D (.lst (acc ++ [y]))) :=
  lc_add h (by simp) hi k (by rw [e, List.range_succ, List.map_append]; rfl)
end
end NN
namespace NN
open PySem L2
/-! ### data that may be compared -/
def fineD (d : D) : Prop := ∃ p, d.py = some p ∧ p.canLay0 = true ∧ p.depth ≤ 30
def FineV (S : List Addr) (H : Hp) (x : V) : Prop := ∃ d, At S H x d ∧ fineD d
theorem FineV.kp {S S' : List Addr} {H H' : Hp} {x : V} (h : FineV S H x) (k : Kp S' H H') (s : ∀ a ∈ S', a ∈ S) : FineV S H' x := let ⟨d, a, f⟩ := h; ⟨d, a.kp k s, f⟩
theorem FineV.sub {S S' : List Addr} {H : Hp} {x : V} (h : FineV S H x) (s : ∀ a ∈ S', a ∈ S) : FineV S' H x := let ⟨d, a, f⟩ := h; ⟨d, a.sub s, f⟩
theorem FineV.ext {S : List Addr} {H : Hp} {x : V} {f : Addr} (h : FineV S H x) (hf : H f = none) : FineV (f :: S) H x := let ⟨d, a, q⟩ := h; ⟨d, a.ext hf, q⟩
theorem FineV.str {S : List Addr} {H : Hp} {s : Str} (h : fineS s) : FineV S H (.str s) := ⟨_, .v _, _, rfl, h, Nat.zero_le _⟩
theorem fine_oV {o : Option Str} (h : ∀ n, o = some n → fineS n) : fineD (.v (oV o)) := by
  cases o with
  | none => exact ⟨_, rfl, rfl, Nat.zero_le _⟩
  | some n => exact ⟨_, rfl, h n rfl, Nat.zero_le _⟩
theorem fine_encP {p : Str × Option Str} (h1 : fineS p.1) (h2 : ∀ n, p.2 = some n → fineS n) : fineD (encP p) := by
  obtain ⟨q, e, c, dq⟩ := fine_oV h2
  refine ⟨.tuple [.str p.1, q], ?_, ?_, ?_⟩
  · show (D.pys [.v (.str p.1), .v (oV p.2)]).map PyData.tuple = _
    show (((D.v (.str p.1)).py).bind fun p' => (((D.v (oV p.2)).py).bind fun q' => some (q' :: [])).map (p' :: ·)).map PyData.tuple = _
    rw [e]; rfl
  · show (PyData.strOk p.1 && (q.canLay0 && true)) = true
    rw [show PyData.strOk p.1 = true from h1, c]; rfl
  · show max (PyData.depth (.str p.1)) (max q.depth 0) + 1 ≤ 30
    have : q.depth = 0 := by
      cases h : p.2 <;> rw [h] at e <;> (cases e; rfl)
    rw [this]; exact (by decide : 0 + 1 ≤ 30)
theorem dp_fine {K : PySem.W.Frag} {S : List Addr} {H : Hp} : ∀ {vs : List V}, (∀ x ∈ vs, FineV S H x) → ∃ ps, DpAll K H vs ps ∧ PyData.canLayAll0 ps = true ∧ PyData.depthAll ps ≤ 30 ∧ ps.length = vs.length
  | [], _ => ⟨[], .nil, rfl, Nat.zero_le _, rfl⟩
  | x :: r, h => by
    obtain ⟨d, a, p, e, c, dd⟩ := h x (List.mem_cons_self ..)
    obtain ⟨ps, h1, h2, h3, h4⟩ := dp_fine (K := K) fun y hy => h y (List.mem_cons_of_mem _ hy)
    refine ⟨p :: ps, .cons (a.dp e) h1, ?_, ?_, ?_⟩
    · show (p.canLay0 && PyData.canLayAll0 ps) = true
      rw [c, h2]; rfl
    · show max p.depth (PyData.depthAll ps) ≤ 30
      omega
    · rw [List.length_cons, List.length_cons, h4]
theorem shaped_list {ps : List PyData} (h1 : PyData.canLayAll0 ps = true) (h2 : PyData.depthAll ps ≤ 60) : SeqAt.shaped (.list ps) = true := by
  unfold SeqAt.shaped
  rw [show PyData.canLay0 (.list ps) = true from h1, Bool.true_and]
  exact decide_eq_true (by show PyData.depthAll ps + 1 ≤ 64; omega)
section
variable {K : PySem.W.Frag} {H : Hp} {Q : VK} {a b : Addr} {xs : List V} {S : List Addr}
theorem g_neNilV (ha : H a = some (.lst xs)) (hb : H b = some (.lst [])) (f : ∀ x ∈ xs, FineV S H x) (q : Q (.bl (!xs.isEmpty)) H) : rNeU K (.ref a) (.ref b) H Q := by
  obtain ⟨ps, h1, h2, h3, h4⟩ := dp_fine (K := K) f
  refine g_neD (.lst (SqL.of ha) h1) (.lst (SqL.of hb) .nil) (shaped_list h2 (by omega)) (shaped_list rfl (Nat.zero_le _)) ?_
  have : PyData.eqv (.list ps) (.list []) = xs.isEmpty := by
    rw [PyData.eqv]
    cases xs with
    | nil => cases ps with
      | nil => rfl
      | cons p r => cases h4
    | cons x r => cases ps with
      | nil => cases h4
      | cons p r => rfl
  rw [this]; exact q
theorem g_eqAt {x y : V} {d : D} {S' : List Addr} (h1 : At S H x d) (h2 : At S' H y d) (f : fineD d) (q : Q (.bl true) H) : rEqU K x y H Q := by
  obtain ⟨p, e, c, dd⟩ := f
  have hs : SeqAt.shaped p = true := by
    unfold SeqAt.shaped
    rw [c, Bool.true_and]
    exact decide_eq_true (by omega)
  refine g_eqD (h1.dp e) (h2.dp e) hs hs ?_
  rw [SeqAt.eqv_refl p c]
  exact q
theorem g_neAt {x y : V} {d : D} {S' : List Addr} (h1 : At S H x d) (h2 : At S' H y d) (f : fineD d) (q : Q (.bl false) H) : rNeU K x y H Q := by
  obtain ⟨p, e, c, dd⟩ := f
  have hs : SeqAt.shaped p = true := by
    unfold SeqAt.shaped
    rw [c, Bool.true_and]
    exact decide_eq_true (by omega)
  refine g_neD (h1.dp e) (h2.dp e) hs hs ?_
  rw [SeqAt.eqv_refl p c]
  exact q
theorem g_popAt {i : Int} {y : V} (h : H a = some (.lst xs)) (h0 : 0 ≤ i) (h1 : i < xs.length) (hl : xs.length ≤ 100000) (hy : xs[i.toNat]? = some y) (q : Q y (upd H a (.lst (xs.eraseIdx i.toNat)))) : rPopAt (.ref a) [.int i] H Q := by
  refine ⟨a, xs, i, i.toNat, y, rfl, rfl, h, by omega, by omega, ?_, hy, q⟩
  unfold seqIndex?
  have h2 : ¬ i < 0 := by omega
  simp only [if_neg h2]
  rw [if_pos]
  simp only [Bool.and_eq_true, decide_eq_true_eq]
  exact ⟨h0, h1⟩
theorem g_pop {y : V} (h : H a = some (.lst xs)) (hy : xs[xs.length - 1]? = some y) (q : Q y (upd H a (.lst xs.dropLast))) : rPop (.ref a) [] H Q := ⟨a, xs, y, rfl, rfl, h, hy, q⟩
theorem g_while {c : TT} {tb : TS} {D : Ends} {σ : St} (W : Nat → St → Hp → Prop) (m : Nat) (w0 : W m σ H) (hs : ∀ m σ H, W m σ H →
  c σ H fun b H1 => if b = true then ∃ N : St → Hp → Prop, (∀ σ' H', N σ' H' → ∃ m', m' < m ∧ W m' σ' H') ∧ tb { D with nx := N, ct := N, bk := D.nx } σ H1 else D.nx σ H1) : tWhile c tb D σ H := ⟨W, ⟨m, w0⟩, hs⟩
theorem g_turn {N : (St → Hp → Prop) → Prop} {W : Nat → St → Hp → Prop} {m : Nat} (q : N fun σ' H' => ∃ m', m' < m ∧ W m' σ' H') : ∃ M : St → Hp → Prop, (∀ σ' H', M σ' H' → ∃ m', m' < m ∧ W m' σ' H') ∧ N M := ⟨_, fun _ _ h => h, q⟩
theorem g_listSeq {xs : List V} (h : SeqOf H a xs) (q : ∀ l, H l = none → Q (.ref l) (upd H l (.lst xs))) : rListU K [.ref a] H Q := by
  rcases h with h | ⟨kvs, h, rfl⟩
  · exact g_listL h q
  · exact g_listD h q
end
theorem SeqOf.kp {S : List Addr} {H H' : Hp} {a : Addr} {xs : List V} (h : SeqOf H a xs) (k : Kp S H H') (n : a ∉ S) : SeqOf H' a xs := by
  rcases h with h | ⟨kvs, h, e⟩
  · exact .inl (k.at h n)
  · exact .inr ⟨kvs, k.at h n, e⟩
def spTurnedV : Sp := fun vs H Q _ => ∃ (st a : Addr) (xs : List V), vs = [.ref st, .ref a] ∧ St1 H st ∧ SeqOf H a xs ∧ xs.length ≤ 1000 ∧ (∀ x ∈ xs, FineV [st] H x) ∧
  ∀ p ys H', H p = none → Kp [st] H H' → St1 H' st → H' p = some (.lst ys) → ys.Perm xs → Q (.ref p) H'
theorem perm_erase {xs : List V} {i : Nat} {y : V} (h : xs[i]? = some y) : (y :: xs.eraseIdx i).Perm xs := by
  obtain ⟨hi, e⟩ := List.getElem?_eq_some_iff.mp h
  have h1 : xs = xs.take i ++ y :: xs.drop (i + 1) := by
    conv => lhs; rw [← List.take_append_drop i xs]
    rw [List.drop_eq_getElem_cons hi, e]
  rw [List.eraseIdx_eq_take_drop_succ]
  conv => rhs; rw [h1]
  exact List.perm_middle.symm
end NN
namespace NN
open PySem L2
/-! ### a dict that is walked; new data -/
theorem g_lock {t : TS} {D : Ends} {σ : St} {H : Hp} {d : Addr} {u : HO} (h : H d = some u) (m : Mut (some u)) (q : ∀ od, t ⟨fun σ' H' => H' d = some (.frz od u) ∧ D.nx σ' (upd H' d u), fun v H' => H' d = some (.frz od u) ∧ D.rt v (upd H' d u), fun σ' H' => H' d = some (.frz od u) ∧ D.bk σ' (upd H' d u), fun σ' H' => H' d = some (.frz od u) ∧ D.ct σ' (upd H' d u)⟩ σ (upd H d (.frz od u))) : tLock t D σ H := ⟨d, u, h, m, q⟩
theorem g_lockE {t : TE} {σ : St} {H : Hp} {Q : VK} {d : Addr} {u : HO} (h : H d = some u) (m : Mut (some u)) (q : ∀ od, t σ (upd H d (.frz od u)) fun v H' => H' d = some (.frz od u) ∧ Q v (upd H' d u)) : tLockE t σ H Q := ⟨d, u, h, m, q⟩
theorem Kp.lock {S : List Addr} {H H' : Hp} {d : Addr} {u : HO} {o : Obj} (k : Kp S (L2.upd H d (.frz o u)) H') (h : H d = some u) : Kp S H (L2.upd H' d u) := fun a z e n => by
  by_cases c : a = d
  · subst c; rw [h] at e; cases e; exact upd_same
  · rw [upd_ne c]; exact k a z (by rw [upd_ne c]; exact e) n
theorem AtL.mem {S : List Addr} {H : Hp} : ∀ {vs : List V} {ds : List D}, AtL S H vs ds → ∀ x ∈ vs, ∃ d ∈ ds, At S H x d
  | _, _, .nil, _, h => by cases h
  | _, _, .cons a r, x, h => by
    rcases List.mem_cons.mp h with e | h
    · rw [e]; exact ⟨_, List.mem_cons_self .., a⟩
    · obtain ⟨d, hd, q⟩ := AtL.mem r x h; exact ⟨d, List.mem_cons_of_mem _ hd, q⟩
theorem At.newT {S : List Addr} {H : Hp} {p : Addr} {vs : List V} {ds : List D} (hp : H p = none) (l : Live S H) (a : AtL S H vs ds) : At S (upd H p (.tup vs)) (.ref p) (.t ds) := .t (l.fresh hp) upd_same (a.kp (Kp.new (S := []) hp) (by simp))
theorem At.newL {S : List Addr} {H : Hp} {p : Addr} {vs : List V} {ds : List D} (hp : H p = none) (l : Live S H) (a : AtL S H vs ds) : At S (upd H p (.lst vs)) (.ref p) (.l ds) := .l (l.fresh hp) upd_same (a.kp (Kp.new (S := []) hp) (by simp))
theorem AtL.two {S : List Addr} {H : Hp} (x y : V) : AtL S H [x, y] [.v x, .v y] := .cons (.v x) (.cons (.v y) .nil)
theorem AtL.snoc {S : List Addr} {H : Hp} {vs : List V} {ds : List D} {x : V} {d : D} (a : AtL S H vs ds) (b : At S H x d) : AtL S H (vs ++ [x]) (ds ++ [d]) := a.append (.cons b .nil)
theorem Live.upn {S : List Addr} {H : Hp} {p : Addr} {o : HO} (l : Live S H) : Live S (upd H p o) := fun s hs => by
  by_cases c : s = p
  · rw [c, upd_same]; intro q; cases q
  · rw [upd_ne c]; exact l s hs
theorem Live.cons {S : List Addr} {H : Hp} {p : Addr} (l : Live S H) (h : H p ≠ none) : Live (p :: S) H := fun s hs => (List.mem_cons.mp hs).elim (fun e => e ▸ h) (l s)
theorem live1 {H : Hp} {st : Addr} (h : St1 H st) : Live [st] H := fun s hs => by rw [List.mem_singleton.mp hs]; exact h.live
theorem ne_some {H : Hp} {a : Addr} {o : HO} (h : H a = some o) : H a ≠ none := by rw [h]; intro q; cases q
def encK (kv : Str × V) : D := .t [.v (.str kv.1), .v kv.2]
theorem paired_K {K : PySem.W.Frag} {S : List Addr} {H : Hp} : ∀ {vs : List V} {th : List (Str × V)}, AtL S H vs (th.map encK) → ∃ ps : List Addr, vs = ps.map V.ref ∧ Paired (fun p kv => SqT K H p [kV kv.1, kv.2]) ps (dS th)
  | [], [], _ => ⟨[], rfl, .nil⟩
  | [], _ :: _, h => by cases h
  | _ :: _, [], h => by cases h
  | x :: r, kv :: th, h => by
    cases h with
    | cons h1 h2 =>
      obtain ⟨a, vs, rfl, _, e, hv⟩ := h1.isT
      obtain ⟨ps, rfl, q⟩ := paired_K (K := K) h2
      have hv' : vs = [.str kv.1, kv.2] := AtL.vals_eq (ws := [.str kv.1, kv.2]) hv
      subst hv'
      exact ⟨a :: ps, rfl, .cons (SqT.of e) q⟩
theorem g_dictP {K : PySem.W.Frag} {S : List Addr} {H : Hp} {Q : VK} {a : Addr} {vs : List V} {th : List (Str × V)} (h : H a = some (.lst vs)) (hv : AtL S H vs (th.map encK)) (nd : (keys th).Nodup) (q : ∀ p, H p = none → Q (.ref p) (upd H p (.dK (dS th)))) : rDictU K [.ref a] H Q := by
  obtain ⟨ps, rfl, pr⟩ := paired_K (K := K) hv
  refine .inl ⟨a, ps, dS th, rfl, SqL.of h, pr, fun p hp => ?_⟩
  rw [merge_dS0 nd]
  exact q p hp
theorem encP_K (p : Str × Option Str) : encP p = encK (p.1, oV p.2) := rfl
theorem encPs_K (prs : Pr) : prs.map encP = (oldsD prs).map encK := by unfold oldsD; rw [List.map_map]; rfl
/-- a slice of a list from its start -/
theorem cutV_to {xs : List V} {i : Int} (h : 0 ≤ i) : cutV xs none (some i) = xs.take i.toNat := by
  unfold cutV
  have h1 : HT.sIx xs.length 0 none = 0 := rfl
  have h2 : HT.sIx xs.length xs.length (some i) = min i.toNat xs.length := by show (if i < 0 then (i + (xs.length : Int)).toNat else min i.toNat xs.length) = _; rw [if_neg (by omega)]
  rw [h1, h2, List.drop_zero, Nat.sub_zero, List.take_eq_take_iff]; omega
theorem cutV_from {xs : List V} {i : Int} (h : 0 ≤ i) : cutV xs (some i) none = xs.drop i.toNat := by
  unfold cutV
  have h1 : HT.sIx xs.length xs.length none = xs.length := rfl
  have h2 : HT.sIx xs.length 0 (some i) = min i.toNat xs.length := by show (if i < 0 then (i + (xs.length : Int)).toNat else min i.toNat xs.length) = _; rw [if_neg (by omega)]
  rw [h1, h2]
  by_cases hi : i.toNat ≤ xs.length
  · rw [Nat.min_eq_left hi, List.take_of_length_le (by rw [List.length_drop]; omega)]
  · rw [Nat.min_eq_right (by omega), List.drop_eq_nil_of_le (Nat.le_refl _), List.drop_eq_nil_of_le (by omega)]; simp
theorem inV_strs (k : Str) (ns : List Str) : inV (.str k) (ns.map V.str) = decide (k ∈ ns) := by
  unfold inV
  rw [List.any_map]
  induction ns with
  | nil => rfl
  | cons n r ih =>
    rw [List.any_cons, ih]
    show (n == k || decide (k ∈ r)) = decide (k ∈ n :: r)
    by_cases e : n = k
    · subst e; simp
    · have : k ≠ n := fun z => e z.symm
      simp [e, this]
theorem flat_strs (ns : List Str) : (ns.map V.str).all flatV = true := by rw [List.all_map]; exact List.all_eq_true.mpr fun _ _ => rfl
theorem perm_strs {ys : List V} {ns : List Str} (h : ys.Perm (ns.map V.str)) : ∃ nm : List Str, ys = nm.map V.str ∧ nm.Perm ns := by
  obtain ⟨nm, rfl⟩ : ∃ nm : List Str, ys = nm.map V.str := by
    have : ∀ y ∈ ys, ∃ n, y = V.str n := fun y hy => by
      obtain ⟨n, _, e⟩ := List.mem_map.mp (h.subset hy)
      exact ⟨n, e.symm⟩
    clear h
    induction ys with
    | nil => exact ⟨[], rfl⟩
    | cons y r ih =>
      obtain ⟨n, e⟩ := this y (List.mem_cons_self ..)
      obtain ⟨r', e'⟩ := ih fun z hz => this z (List.mem_cons_of_mem _ hz)
      exact ⟨n :: r', by rw [e, e']; rfl⟩
  refine ⟨nm, rfl, ?_⟩
  have := h.map (fun v => match v with | V.str n => n | _ => letters)
  simpa [List.map_map, Function.comp_def] using this
theorem pairs_ok {ns ms mv so so2 : List Str} {th : List (Str × V)} {prs : Pr} (hprs : mv.zip (so2.reverse.map some) = prs) (h1 : mv.Perm ms) (h2 : so2.Perm so) (hms : ms.Sublist (keys th)) (ht : ThOk ns th) (hso1 : so.Nodup)
    (hso2 : ∀ n ∈ so, n ∈ ns.take 12 ∧ (n ∈ keys th → n ∈ ms)) (hso3 : ms.length ≤ so.length) (hms3 : ms.length ≤ 7) : PrOk ns th prs := by
  have l1 := h1.length_eq
  have l2 := h2.length_eq
  have hk : keys prs = mv := by
    rw [← hprs]; unfold keys
    exact List.map_fst_zip (by rw [List.length_map, List.length_reverse]; omega)
  have hn : news prs = so2.reverse.take mv.length := by
    rw [← hprs]; unfold news
    have e : ∀ (a : List Str) (b : List Str), (a.zip (b.map some)).filterMap (·.2) = b.take a.length := by
      intro a
      induction a with
      | nil => intro b; simp
      | cons x r ih =>
        intro b
        cases b with
        | nil => rfl
        | cons y t => show (y :: ((r.zip (t.map some)).filterMap (·.2))) = y :: t.take r.length; rw [ih]
    exact e mv so2.reverse
  refine ⟨?_, ?_, ?_, ?_, ?_⟩
  · rw [hk]; exact h1.nodup_iff.mpr (ht.nd.sublist hms)
  · rw [hn]; exact (((List.reverse_perm so2).nodup_iff.mpr (h2.nodup_iff.mpr hso1))).sublist (List.take_sublist ..)
  · have : prs.length = (keys prs).length := by simp [keys]
    rw [this, hk]; omega
  · intro o ho; rw [hk] at ho; exact hms.subset (h1.subset ho)
  · intro n hnn
    rw [hn] at hnn
    have := hso2 n (h2.subset (List.mem_reverse.mp (List.mem_of_mem_take hnn)))
    exact ⟨this.1, fun z => by rw [hk]; exact h1.symm.subset (this.2 z)⟩
theorem g_sortedD {K : PySem.W.Frag} {H : Hp} {Q : VK} {a : Addr} {th : List (Str × V)} (h : H a = some (.dK (dS th))) (hl : (keys th).length < 64) (q : ∀ p, H p = none → Q (.ref p) (upd H p (.lst ((srt (keys th)).map V.str)))) : rSortedU K [.ref a] H Q :=
  .inr ⟨a, dS th, keys th, rfl, .inl h, dS_keys th, hl, fun ys p hp hs hn => by rw [srt_of hp hs]; exact q p hn⟩
theorem g_sortedS {K : PySem.W.Frag} {H : Hp} {Q : VK} {a : Addr} {xs : List Str} (h : H a = some (.lst (xs.map V.str))) (hl : xs.length < 64) (q : ∀ p, H p = none → Q (.ref p) (upd H p (.lst ((srt xs).map V.str)))) : rSortedU K [.ref a] H Q :=
  .inl ⟨a, xs, rfl, SqL.of h, hl, fun ys p hp hs hn => by rw [srt_of hp hs]; exact q p hn⟩
theorem g_fA {K : PySem.W.Frag} {H : Hp} {a C dx : Addr} {fs : List (Str × V)} {f : Str} {v : V} {R : V → Prop} (h : H a = some (.ins C dx fs)) (c : Cls K C) (n : NoAttr K C f) (l : fs.lookup f = some v) (q : R v) :
    ∃ a' C' dx fs v, V.ref a = .ref a' ∧ H a' = some (.ins C' dx fs) ∧ Cls K C' ∧ NoAttr K C' f ∧ fs.lookup f = some v ∧ R v := ⟨a, C, dx, fs, v, rfl, h, c, n, l, q⟩
theorem flds_no {a b : Addr} {m : Str} (h1 : m ≠ "by_olds") (h2 : m ≠ "by_news") : (flds a b).lookup m = none := by
  unfold flds
  have e1 : (m == ("by_olds" : Str)) = false := by simpa using h1
  have e2 : (m == ("by_news" : Str)) = false := by simpa using h2
  simp [List.lookup, e1, e2]
/-- some new names put away -/
def cutN (prs : Pr) (bs : List Bool) : Pr := (prs.zip bs).map fun q => (q.1.1, if q.2 = true then none else q.1.2)
theorem cutN_snoc {prs : Pr} {bs : List Bool} {p : Str × Option Str} {b : Bool} (h : prs.length = bs.length) : cutN (prs ++ [p]) (bs ++ [b]) = cutN prs bs ++ [(p.1, if b = true then none else p.2)] := by
  unfold cutN
  rw [List.zip_append h, List.map_append]; rfl
theorem cutN_keys : ∀ {prs : Pr} {bs : List Bool}, prs.length = bs.length → keys (cutN prs bs) = keys prs
  | [], _, _ => rfl
  | p :: r, [], h => by cases h
  | p :: r, b :: bs, h => by
    show p.1 :: keys (cutN r bs) = p.1 :: keys r
    rw [cutN_keys (by simpa using h)]
theorem cutN_news : ∀ {prs : Pr} {bs : List Bool}, (news (cutN prs bs)).Sublist (news prs)
  | [], _ => List.Sublist.refl _
  | p :: r, [] => List.nil_sublist _
  | (o, n) :: r, b :: bs => by
    have ih := cutN_news (prs := r) (bs := bs)
    have e : cutN ((o, n) :: r) (b :: bs) = (o, if b = true then none else n) :: cutN r bs := rfl
    rw [e]
    cases n with
    | none => cases b <;> exact ih
    | some n => cases b with
      | true => exact ih.cons n
      | false => exact ih.cons₂ n
theorem cutN_ok {ns : List Str} {th : List (Str × V)} {prs : Pr} {bs : List Bool} (h : prs.length = bs.length) (k : PrOk ns th prs) : PrOk ns th (cutN prs bs) := by
  refine ⟨by rw [cutN_keys h]; exact k.ndo, k.ndn.sublist cutN_news, ?_, by rw [cutN_keys h]; exact k.olds, fun n hn => by rw [cutN_keys h]; exact k.news n (cutN_news.subset hn)⟩
  have e1 : (cutN prs bs).length = (keys (cutN prs bs)).length := by simp [keys]
  have e2 : prs.length = (keys prs).length := by simp [keys]
  rw [e1, cutN_keys h, ← e2]; exact k.len
theorem DGet.s {H : Hp} {a : Addr} {th : List (Str × V)} (k : Str) (h : H a = some (.dK (dS th))) : DGet H a (.str k) (lk th k) := by rw [← valV_dS]; exact DGet.k (k := .inr k) h
theorem lk_isSome {α : Type} (th : List (Str × α)) (k : Str) : (lk th k).isSome = decide (k ∈ keys th) := by
  by_cases h : k ∈ keys th
  · obtain ⟨v, hv⟩ := lk_of_key h; simp [hv, h]
  · simp [lk_none.mpr h, h]
end NN
namespace NN
open PySem L2
/-! ### data that are alike -/
def okV (x : V) : Prop := x = .non ∨ (∃ b, x = .bl b) ∨ (∃ i, x = .int i) ∨ ∃ s, x = .str s ∧ fineS s
/-- data of a depth of n at most: texts, numbers, truths, None; lists and tuples of them; dicts of such values by texts -/
inductive okD : Nat → D → Prop
  | v {n : Nat} {x : V} : okV x → okD n (.v x)
  | l {n : Nat} {ds : List D} : ds.length ≤ 1000 → (∀ d ∈ ds, okD n d) → okD (n + 1) (.l ds)
  | t {n : Nat} {ds : List D} : ds.length ≤ 1000 → (∀ d ∈ ds, okD n d) → okD (n + 1) (.t ds)
  | d {n : Nat} {ks : List Str} {ws : List V} : ks.length = ws.length → ks.length ≤ 1000 → ks.Nodup → (∀ k ∈ ks, fineS k) → (∀ w ∈ ws, okV w) → okD (n + 1) (.d ks (ws.map D.v))
def spAlike (n : Nat) : Sp := fun vs H Q _ => ∃ (x y : V) (d : D), vs = [x, y] ∧ At [] H x d ∧ At [] H y d ∧ okD n d ∧ ∀ H', Kp [] H H' → Q (.bl true) H'
theorem ok_oV {o : Option Str} (h : ∀ n, o = some n → fineS n) : okV (oV o) := by
  cases o with
  | none => exact .inl rfl
  | some n => exact .inr (.inr (.inr ⟨n, rfl, h n rfl⟩))
theorem ok_encP {p : Str × Option Str} {n : Nat} (h1 : fineS p.1) (h2 : ∀ n, p.2 = some n → fineS n) : okD (n + 1) (encP p) := .t (by simp) fun d hd => by
  simp only [List.mem_cons, List.not_mem_nil, or_false] at hd
  rcases hd with rfl | rfl
  · exact .v (.inr (.inr (.inr ⟨_, rfl, h1⟩)))
  · exact .v (ok_oV h2)
theorem zipK_keys {ks : List Str} {vs : List V} (h : ks.length = vs.length) : (zipK ks vs).map (fun kv => kV kv.1) = ks.map V.str := by
  unfold zipK
  rw [List.map_map]
  show ((ks.zip vs).map fun p => V.str p.1) = _
  rw [show (ks.zip vs).map (fun p => V.str p.1) = ((ks.zip vs).map Prod.fst).map V.str by rw [List.map_map]; rfl, List.map_fst_zip (by omega)]
theorem zipK_dS (ks : List Str) (vs : List V) : zipK ks vs = dS (ks.zip vs) := rfl
theorem pys_encPs : ∀ l : Pr, (∀ p ∈ l, isName p.1 = true ∧ ∀ n, p.2 = some n → isName n = true) → ∃ ps, D.pys (l.map encP) = some ps ∧ PyData.canLayAll0 ps = true ∧ PyData.depthAll ps ≤ 20
  | [], _ => ⟨[], rfl, rfl, Nat.zero_le _⟩
  | p :: r, hr => by
    obtain ⟨ps, e1, e2, e3⟩ := pys_encPs r fun q hq => hr q (List.mem_cons_of_mem _ hq)
    obtain ⟨q, f1, f2, f3⟩ := fine_encP (p := p) (name_fine (hr p (List.mem_cons_self ..)).1) fun n hn => name_fine ((hr p (List.mem_cons_self ..)).2 n hn)
    refine ⟨q :: ps, ?_, ?_, ?_⟩
    · show ((encP p).py).bind (fun p' => (D.pys (r.map encP)).map (p' :: ·)) = _
      rw [f1, e1]; rfl
    · show (q.canLay0 && PyData.canLayAll0 ps) = true
      rw [f2, e2]; rfl
    · show max q.depth (PyData.depthAll ps) ≤ 20
      have : q.depth ≤ 20 := by
        have h1 : (encP p).py = some (.tuple [.str p.1, match p.2 with | none => .none | some n => .str n]) := by
          obtain ⟨o, n⟩ := p; cases n <;> rfl
        rw [f1] at h1
        have h2 := Option.some.inj h1
        rw [h2]
        obtain ⟨o, n⟩ := p; cases n <;> (show max 0 (max 0 0) + 1 ≤ 20; decide)
      omega
theorem PlOk.names {prs : Pr} (h : PlOk prs) : ∀ p ∈ prs, isName p.1 = true ∧ ∀ n, p.2 = some n → isName n = true := fun p hp =>
  ⟨h.olds p.1 (List.mem_map.mpr ⟨p, hp, rfl⟩), fun n hn => h.news n (List.mem_filterMap.mpr ⟨p, hp, hn⟩)⟩
theorem fine_encPs {prs : Pr} (h : ∀ p ∈ prs, isName p.1 = true ∧ ∀ n, p.2 = some n → isName n = true) : fineD (encPs prs) := by
  obtain ⟨ps, e1, e2, e3⟩ := pys_encPs prs h
  refine ⟨.list ps, ?_, e2, ?_⟩
  · show (D.pys (prs.map encP)).map PyData.list = _
    rw [e1]; rfl
  · show PyData.depthAll ps + 1 ≤ 30
    omega
theorem byOlds_names {prs : Pr} (h : PlOk prs) : ∀ p ∈ byOlds prs, isName p.1 = true ∧ ∀ n, p.2 = some n → isName n = true := fun p hp => by
  obtain ⟨o, ho, rfl⟩ := List.mem_map.mp hp
  have hok := mem_srt.mp ho
  refine ⟨h.olds o hok, fun n hn => ?_⟩
  obtain ⟨v, hv⟩ := lk_of_key hok
  have : v = some n := by simpa [hv] using hn
  exact h.news n (List.mem_filterMap.mpr ⟨_, lk_mem hv, this⟩)
/-- a new plan's place -/
theorem plan_new {C px dx a b : Addr} {H H6 H7 : Hp} {prs : Pr} {S : List Addr} (l : Live S H) (hpx : H px = none) (k6 : Kp [] H H6) (h6 : H6 px = some (.ins C dx [])) (fa : H6 a = none) (fb : H6 b = none) (e1 : H7 px = some (.ins C dx (flds a b))) (e2 : H7 a = some (.dK (dS (oldsD prs)))) (e3 : H7 b = some (.dK (dS (newsD prs)))) : PlanAt S C H7 px prs :=
  ⟨a, b, dx, e1, e2, e3, l.fresh hpx, l.fresh (k6.free fa (by simp)), l.fresh (k6.free fb (by simp))⟩
section
variable {K : PySem.W.Frag} {H : Hp} {Q : VK}
theorem g_isi2 {x : V} {t : String} {p : Addr} (b1 b2 : Bool) (hp : H p = some (.tup [.ty "tuple", .ty "list"])) (ty : TyX K H x (.type t)) (c1 : kitB t "tuple" = some b1) (c2 : kitB t "list" = some b2) (q : Q (.bl (b1 || b2)) H) : rIsiU K [x, .ref p] H Q := by
  refine .inr ⟨x, p, _, .type t, [.type "tuple", .type "list"], b1 || b2, rfl, hp, .cons (.ty _) (.cons (.ty _) .nil), ty, ?_, q⟩
  refine kitAny_cons (kit_ty c1) (fun e => ?_) (fun e => by rw [e]; rfl)
  rw [e, Bool.false_or]
  exact kitAny_cons (kit_ty c2) (fun e => by rw [kitAny_nil, e]) (fun e => e)
theorem g_notR {R : Bool → Prop} {b : Bool} (q : R b) : ∃ c, V.bl b = .bl c ∧ R c := ⟨b, rfl, q⟩
end
end NN
namespace NN
open PySem PySem.Spec PyProof.Rows L2
open PySem.W (minOf DatumOrd min_list_datum HoldAll str_of_holds)
/-! ### rings -/
/-- where a name is led to, if to a name -/
def nx (prs : Pr) (n : Str) : Option Str := (lk prs n).getD none
theorem nx_mem {prs : Pr} {a b : Str} (h : nx prs a = some b) : (a, some b) ∈ prs := by
  unfold nx at h
  cases e : lk prs a with
  | none => rw [e] at h; cases h
  | some v => rw [e] at h; exact lk_mem (by rw [e]; exact congrArg some h)
theorem nx_key {prs : Pr} {a b : Str} (h : nx prs a = some b) : a ∈ keys prs := List.mem_map.mpr ⟨_, nx_mem h, rfl⟩
theorem nx_new {prs : Pr} {a b : Str} (h : nx prs a = some b) : b ∈ news prs := List.mem_filterMap.mpr ⟨_, nx_mem h, rfl⟩
theorem news_inj {c : Str} : ∀ {prs : Pr}, (news prs).Nodup → ∀ {a b : Str}, (a, some c) ∈ prs → (b, some c) ∈ prs → a = b
  | [], _, a, b, h, _ => by cases h
  | (o, v) :: r, hn, a, b, ha, hb => by
    have hr : (news r).Nodup := by
      cases v with
      | none => exact hn
      | some n => exact (List.nodup_cons.mp (show (n :: news r).Nodup from hn)).2
    have no : ∀ {x : Str}, (x, some c) ∈ r → v ≠ some c := fun hx e => by
      subst e
      exact (List.nodup_cons.mp (show (c :: news r).Nodup from hn)).1 (List.mem_filterMap.mpr ⟨_, hx, rfl⟩)
    rcases List.mem_cons.mp ha with e | ha <;> rcases List.mem_cons.mp hb with e' | hb
    · exact (congrArg Prod.fst e).trans (congrArg Prod.fst e').symm
    · exact absurd (congrArg Prod.snd e).symm (no hb)
    · exact absurd (congrArg Prod.snd e').symm (no ha)
    · exact news_inj hr ha hb
theorem nx_inj {prs : Pr} (hn : (news prs).Nodup) {a b c : Str} (h : nx prs a = some c) (h' : nx prs b = some c) : a = b := news_inj hn (nx_mem h) (nx_mem h')
theorem nd_le {α : Type} [DecidableEq α] : ∀ {l m : List α}, l.Nodup → (∀ x ∈ l, x ∈ m) → l.length ≤ m.length
  | [], _, _, _ => Nat.zero_le _
  | x :: l, m, h, s => by
    obtain ⟨h1, h2⟩ := List.nodup_cons.mp h
    have hx := s x (List.mem_cons_self ..)
    have := nd_le (m := m.erase x) h2 fun y hy => (List.mem_erase_of_ne (fun e => h1 (by rw [← e]; exact hy))).mpr (s y (List.mem_cons_of_mem _ hy))
    rw [List.length_erase_of_mem hx] at this
    have := List.length_pos_of_mem hx
    simp only [List.length_cons]; omega
/-- each leads to the next, none twice -/
structure Way (prs : Pr) (r : List Str) : Prop where
  nd : r.Nodup
  st : ∀ i a b, r[i]? = some a → r[i + 1]? = some b → nx prs a = some b
theorem Way.one (prs : Pr) (n : Str) : Way prs [n] := ⟨by simp, fun i a b _ h => by simp at h⟩
theorem Way.nil (prs : Pr) : Way prs [] := ⟨by simp, fun i a b _ h => by simp at h⟩
theorem Way.snoc {prs : Pr} {r : List Str} {x y : Str} (h : Way prs r) (hx : r[r.length - 1]? = some x) (e : nx prs x = some y) (n : y ∉ r) : Way prs (r ++ [y]) := by
  refine ⟨nd_snoc h.nd n, fun i a b ha hb => ?_⟩
  have hi : i + 1 < (r ++ [y]).length := (List.getElem?_eq_some_iff.mp hb).1
  simp only [List.length_append, List.length_cons, List.length_nil] at hi
  have ha' : r[i]? = some a := by rw [List.getElem?_append_left (by omega)] at ha; exact ha
  by_cases e2 : i + 1 < r.length
  · rw [List.getElem?_append_left e2] at hb
    exact h.st i a b ha' hb
  · have e3 : i = r.length - 1 := by omega
    rw [List.getElem?_append_right (by omega), show i + 1 - r.length = 0 by omega] at hb
    rw [e3, hx] at ha'
    cases ha'; cases hb; exact e
theorem Way.len {prs : Pr} {r : List Str} (h : Way prs r) : r.length ≤ (news prs).length + 1 := by
  cases r with
  | nil => simp
  | cons n r =>
    have := nd_le (List.nodup_cons.mp h.nd).2 (m := news prs) fun x hx => by
      obtain ⟨i, hi⟩ := List.mem_iff_getElem?.mp hx
      obtain ⟨a, ha⟩ : ∃ a, (n :: r)[i]? = some a := ⟨(n :: r)[i]'(by have := (List.getElem?_eq_some_iff.mp hi).1; simp; omega), List.getElem?_eq_getElem _⟩
      exact nx_new (h.st i a x ha (by simpa using hi))
    simp; omega
/-- a ring, from n on -/
structure Cyc (prs : Pr) (n : Str) (r : List Str) : Prop where
  way : Way prs r
  hd : r[0]? = some n
  up : ∃ z, r[r.length - 1]? = some z ∧ nx prs z = some n
theorem Way.same {prs : Pr} {r r' : List Str} (h : Way prs r) (h' : Way prs r') (e : r[0]? = r'[0]?) : ∀ (i : Nat) (a b : Str), r[i]? = some a → r'[i]? = some b → a = b
  | 0, a, b, ha, hb => by rw [e, hb] at ha; exact (Option.some.inj ha).symm
  | i + 1, a, b, ha, hb => by
    have l1 := (List.getElem?_eq_some_iff.mp ha).1
    have l2 := (List.getElem?_eq_some_iff.mp hb).1
    obtain ⟨c, hc⟩ : ∃ c, r[i]? = some c := ⟨r[i]'(by omega), List.getElem?_eq_getElem _⟩
    obtain ⟨d, hd⟩ : ∃ d, r'[i]? = some d := ⟨r'[i]'(by omega), List.getElem?_eq_getElem _⟩
    have := Way.same h h' e i c d hc hd
    subst this
    have e1 := h.st i c a hc ha
    have e2 := h'.st i c b hd hb
    rw [e1] at e2
    exact Option.some.inj e2
theorem Cyc.pos {prs : Pr} {n : Str} {r : List Str} (h : Cyc prs n r) : 0 < r.length := (List.getElem?_eq_some_iff.mp h.hd).1
/-- a way from a ring's first name runs within the ring -/
theorem Cyc.pre {prs : Pr} {n : Str} {r r' : List Str} (h : Cyc prs n r) (h' : Way prs r') (e : r'[0]? = some n) : r'.length ≤ r.length ∧ r' = r.take r'.length := by
  have hl : r'.length ≤ r.length := by
    refine Nat.le_of_not_lt fun z => ?_
    obtain ⟨x, hx, ex⟩ := h.up
    have hp := h.pos
    obtain ⟨c, hc⟩ : ∃ c, r'[r.length - 1]? = some c := ⟨r'[r.length - 1]'(by omega), List.getElem?_eq_getElem _⟩
    have := Way.same h.way h' (h.hd.trans e.symm) _ _ _ hx hc
    subst this
    obtain ⟨d, hd⟩ : ∃ d, r'[r.length]? = some d := ⟨r'[r.length], List.getElem?_eq_getElem _⟩
    have := h'.st (r.length - 1) x d hc (by rw [show r.length - 1 + 1 = r.length by omega]; exact hd)
    rw [ex] at this
    cases this
    have := nd_ix h'.nd e hd
    omega
  refine ⟨hl, List.ext_getElem? fun i => ?_⟩
  by_cases hi : i < r'.length
  · rw [List.getElem?_take_of_lt hi]
    obtain ⟨c, hc⟩ : ∃ c, r'[i]? = some c := ⟨r'[i], List.getElem?_eq_getElem _⟩
    obtain ⟨d, hd⟩ : ∃ d, r[i]? = some d := ⟨r[i]'(by omega), List.getElem?_eq_getElem _⟩
    rw [hc, hd, Way.same h.way h' (h.hd.trans e.symm) _ _ _ hd hc]
  · rw [List.getElem?_eq_none (by omega), List.getElem?_eq_none (by simp; omega)]
theorem Cyc.uniq {prs : Pr} {n : Str} {r r' : List Str} (h : Cyc prs n r) (h' : Cyc prs n r') : r = r' := by
  obtain ⟨a1, a2⟩ := h.pre h'.way h'.hd
  obtain ⟨b1, b2⟩ := h'.pre h.way h.hd
  have : r'.length = r.length := by omega
  rw [a2, this, List.take_length]
/-- in a ring each has its forerunner in it -/
theorem Cyc.back {prs : Pr} {n : Str} {r : List Str} (hn : (news prs).Nodup) (h : Cyc prs n r) {a b : Str} (hb : b ∈ r) (e : nx prs a = some b) : a ∈ r := by
  obtain ⟨i, hi⟩ := List.mem_iff_getElem?.mp hb
  cases i with
  | zero =>
    obtain ⟨z, hz, ez⟩ := h.up
    rw [h.hd] at hi
    cases hi
    exact nx_inj hn e ez ▸ List.mem_of_getElem? hz
  | succ i =>
    obtain ⟨c, hc⟩ : ∃ c, r[i]? = some c := ⟨r[i]'(by have := (List.getElem?_eq_some_iff.mp hi).1; omega), List.getElem?_eq_getElem _⟩
    exact nx_inj hn e (h.way.st i c b hc hi) ▸ List.mem_of_getElem? hc
theorem Cyc.backs {prs : Pr} {n : Str} {r q : List Str} (hn : (news prs).Nodup) (h : Cyc prs n r) (w : Way prs q) : ∀ (i : Nat) (a b : Str), q[i]? = some b → b ∈ r → q[0]? = some a → a ∈ r
  | 0, a, b, hb, hr, ha => by rw [ha] at hb; cases hb; exact hr
  | i + 1, a, b, hb, hr, ha => by
    obtain ⟨c, hc⟩ : ∃ c, q[i]? = some c := ⟨q[i]'(by have := (List.getElem?_eq_some_iff.mp hb).1; omega), List.getElem?_eq_getElem _⟩
    exact Cyc.backs hn h w i a c hc (h.back hn hr (w.st i c b hc hb)) ha
/-- a set that holds each one's next holds the whole ring -/
theorem Cyc.fwd {prs : Pr} {n : Str} {r : List Str} (h : Cyc prs n r) {W : Str → Prop} (cl : ∀ x y, W x → nx prs x = some y → y ∈ keys prs → W y) {b : Str} (hb : b ∈ r) (hw : W b) : W n := by
  have key : ∀ m ∈ r, m ∈ keys prs := fun m hm => by
    obtain ⟨i, hi⟩ := List.mem_iff_getElem?.mp hm
    by_cases z : i + 1 < r.length
    · exact nx_key (h.way.st i m r[i + 1] hi (List.getElem?_eq_getElem _))
    · obtain ⟨x, hx, ex⟩ := h.up
      have : i = r.length - 1 := by have := (List.getElem?_eq_some_iff.mp hi).1; omega
      rw [this, hx] at hi
      cases hi
      exact nx_key ex
  obtain ⟨i, hi⟩ := List.mem_iff_getElem?.mp hb
  have : ∀ k i b, k = r.length - 1 - i → r[i]? = some b → W b → W n := fun k => by
    induction k with
    | zero =>
      intro i b hk hi hw
      have := (List.getElem?_eq_some_iff.mp hi).1
      have e : i = r.length - 1 := by omega
      obtain ⟨x, hx, ex⟩ := h.up
      rw [e, hx] at hi
      cases hi
      exact cl _ _ hw ex (key n (List.mem_of_getElem? h.hd))
    | succ k ih =>
      intro i b hk hi hw
      have hl : i + 1 < r.length := by omega
      have hq := List.getElem?_eq_getElem hl
      exact ih (i + 1) r[i + 1] (by omega) hq (cl _ _ hw (h.way.st i b _ hi hq) (key _ (List.mem_of_getElem? hq)))
  exact this _ i b rfl hi hw
/-- the ring that is told at n -/
def IsRing (prs : Pr) (n : Str) (r : List Str) : Prop := Cyc prs n r ∧ 1 < r.length ∧ ∀ m ∈ r, ¬ sl m n
open Classical in
noncomputable def ringAt (prs : Pr) (n : Str) : Option (List Str) := if h : ∃ r, IsRing prs n r then some h.choose else none
theorem ringAt_some {prs : Pr} {n : Str} {r : List Str} (h : IsRing prs n r) : ringAt prs n = some r := by
  unfold ringAt
  rw [dif_pos ⟨r, h⟩]
  exact congrArg some ((Exists.choose_spec (p := fun r => IsRing prs n r) ⟨r, h⟩).1.uniq h.1)
theorem ringAt_none {prs : Pr} {n : Str} (h : ∀ r, ¬ IsRing prs n r) : ringAt prs n = none := by
  unfold ringAt
  rw [dif_neg fun ⟨r, q⟩ => h r q]
theorem ringAt_is {prs : Pr} {n : Str} {r : List Str} (h : ringAt prs n = some r) : IsRing prs n r := by
  unfold ringAt at h
  split at h
  · rename_i q; cases h; exact q.choose_spec
  · cases h
noncomputable def rings (prs : Pr) : List (List Str) := (srt (keys prs)).filterMap (ringAt prs)
/-! the law's own going: r from n, as far as it goes -/
theorem law_yes {prs : Pr} {n z M : Str} {r : List Str} (w : Way prs r) (h0 : r[0]? = some n) (hz : r[r.length - 1]? = some z) (e : nx prs z = some n) (hl : 1 < r.length) (hM : ∀ m ∈ r, ¬ sl m M) (eM : M = n) : ringAt prs n = some r :=
  ringAt_some ⟨⟨w, h0, z, hz, e⟩, hl, eM ▸ hM⟩
theorem law_no {prs : Pr} {n z : Str} {r : List Str} (w : Way prs r) (h0 : r[0]? = some n) (hz : r[r.length - 1]? = some z) (full : ∀ y, nx prs z = some y → y ∈ r)
    (no : nx prs z ≠ some n ∨ ¬ 1 < r.length ∨ ∃ m ∈ r, sl m n) : ringAt prs n = none := by
  refine ringAt_none fun r2 hr => ?_
  obtain ⟨hl, he⟩ := hr.1.pre w h0
  have hp : 0 < r.length := (List.getElem?_eq_some_iff.mp h0).1
  by_cases z1 : r.length = r2.length
  · have : r = r2 := by rw [he, z1, List.take_length]
    subst this
    obtain ⟨z2, hz2, ez⟩ := hr.1.up
    rw [hz] at hz2; cases hz2
    rcases no with q | q | ⟨m, hm, q⟩
    · exact q ez
    · exact q hr.2.1
    · exact hr.2.2 m hm q
  · have l2 : r.length < r2.length := by omega
    have hz2 : r2[r.length - 1]? = some z := by
      have hz' := hz
      rw [he, List.length_take, Nat.min_eq_left hl, List.getElem?_take_of_lt (by omega)] at hz'
      exact hz'
    have hq := List.getElem?_eq_getElem l2
    have hn := hr.1.way.st (r.length - 1) z _ hz2 (by rw [show r.length - 1 + 1 = r.length by omega]; exact hq)
    have hm := full _ hn
    obtain ⟨j, hj, ej⟩ := List.mem_take_iff_getElem.mp ((congrArg (fun l => r2[r.length] ∈ l) he).mp hm)
    have := nd_ix hr.1.way.nd (List.getElem?_eq_some_iff.mpr ⟨_, ej⟩) hq
    omega
/-! the program's: seen so far W, the names gone through in order -/
structure Seen (prs : Pr) (i : Nat) (W : List Str) : Prop where
  nd : W.Nodup
  sub : ∀ x ∈ W, x ∈ keys prs
  cl : ∀ x y, x ∈ W → nx prs x = some y → y ∈ keys prs → y ∈ W
  all : ∀ j m, j < i → (srt (keys prs))[j]? = some m → m ∈ W
  frm : ∀ x ∈ W, ∃ j m q, j < i ∧ (srt (keys prs))[j]? = some m ∧ Way prs q ∧ q[0]? = some m ∧ x ∈ q
theorem Seen.zero (prs : Pr) : Seen prs 0 [] := ⟨by simp, by simp, by simp, fun j m h => by omega, by simp⟩
/-- at the end of a going from n, that was not seen: r is gone, here is behind it -/
theorem Seen.next {prs : Pr} {i : Nat} {W r : List Str} {n z : Str} (s : Seen prs i W) (hn : (srt (keys prs))[i]? = some n) (w : Way prs r) (h0 : r[0]? = some n) (rk : ∀ x ∈ r, x ∈ keys prs) (dj : ∀ x ∈ r, x ∉ W)
    (hz : r[r.length - 1]? = some z) (stop : ∀ y, nx prs z = some y → y ∈ keys prs → y ∈ W ++ r) : Seen prs (i + 1) (W ++ r) := by
  refine ⟨List.nodup_append.mpr ⟨s.nd, w.nd, fun a ha b hb e => dj b hb (e ▸ ha)⟩, fun x hx => (List.mem_append.mp hx).elim (s.sub x) (rk x), fun x y hx e hy => ?_, fun j m hj hm => ?_, fun x hx => ?_⟩
  · rcases List.mem_append.mp hx with q | q
    · exact List.mem_append_left _ (s.cl x y q e hy)
    · obtain ⟨k, hk⟩ := List.mem_iff_getElem?.mp q
      by_cases l : k + 1 < r.length
      · have := w.st k x r[k + 1] hk (List.getElem?_eq_getElem _)
        rw [e] at this
        cases this
        exact List.mem_append_right _ (List.getElem_mem _)
      · have : k = r.length - 1 := by have := (List.getElem?_eq_some_iff.mp hk).1; omega
        rw [this, hz] at hk
        cases hk
        exact stop y e hy
  · by_cases e : j = i
    · subst e
      rw [hn] at hm; cases hm
      exact List.mem_append_right _ (List.mem_of_getElem? h0)
    · exact List.mem_append_left _ (s.all j m (by omega) hm)
  · rcases List.mem_append.mp hx with q | q
    · obtain ⟨j, m, q, h1, h2⟩ := s.frm x q
      exact ⟨j, m, q, by omega, h2⟩
    · exact ⟨i, n, r, by omega, hn, w, h0, q⟩
theorem Seen.skip {prs : Pr} {i : Nat} {W : List Str} {n : Str} (s : Seen prs i W) (hn : (srt (keys prs))[i]? = some n) (h : n ∈ W) : Seen prs (i + 1) W := by
  refine ⟨s.nd, s.sub, s.cl, fun j m hj hm => ?_, fun x hx => ?_⟩
  · by_cases e : j = i
    · subst e
      rw [hn] at hm; cases hm
      exact h
    · exact s.all j m (by omega) hm
  · obtain ⟨j, m, q, h1, h2⟩ := s.frm x hx
    exact ⟨j, m, q, by omega, h2⟩
theorem srt_lt {l : List Str} (nd : l.Nodup) {i j : Nat} {a b : Str} (h : i < j) (ha : (srt l)[i]? = some a) (hb : (srt l)[j]? = some b) : sl a b := by
  obtain ⟨_, rfl⟩ := List.getElem?_eq_some_iff.mp ha
  obtain ⟨_, rfl⟩ := List.getElem?_eq_some_iff.mp hb
  exact List.pairwise_iff_getElem.mp (srt_strict nd) i j _ _ h
/-- a name seen before begins no ring -/
theorem Seen.old {prs : Pr} {i : Nat} {W : List Str} {n : Str} (s : Seen prs i W) (hk : (keys prs).Nodup) (hw : (news prs).Nodup) (hn : (srt (keys prs))[i]? = some n) (h : n ∈ W) : ringAt prs n = none := by
  refine ringAt_none fun r hr => ?_
  obtain ⟨j, m, q, hj, hm, wq, q0, hx⟩ := s.frm n h
  obtain ⟨k, hk'⟩ := List.mem_iff_getElem?.mp hx
  have := hr.1.backs hw wq k m n hk' (List.mem_of_getElem? hr.1.hd) q0
  exact hr.2.2 m this (srt_lt hk hj hm hn)
/-- round -/
theorem Seen.ring {prs : Pr} {i : Nat} {W r : List Str} {n z : Str} (s : Seen prs i W) (hk : (keys prs).Nodup) (hn : (srt (keys prs))[i]? = some n) (w : Way prs r) (h0 : r[0]? = some n) (rk : ∀ x ∈ r, x ∈ keys prs) (dj : ∀ x ∈ r, x ∉ W)
    (hz : r[r.length - 1]? = some z) (e : nx prs z = some n) (hl : 1 < r.length) : ringAt prs n = some r := by
  refine ringAt_some ⟨⟨w, h0, z, hz, e⟩, hl, fun m hm q => ?_⟩
  obtain ⟨j, hj⟩ := List.mem_iff_getElem?.mp (mem_srt.mpr (rk m hm))
  by_cases e1 : j < i
  · exact dj m hm (s.all j m e1 hj)
  · by_cases e2 : j = i
    · subst e2
      rw [hn] at hj; cases hj
      exact sl_irr _ q
    · exact sl_irr _ (sl_trans q (srt_lt hk (by omega) hn hj))
/-- not round -/
theorem Seen.noring {prs : Pr} {i : Nat} {W r : List Str} {n z : Str} (s : Seen prs i W) (hn : (srt (keys prs))[i]? = some n) (w : Way prs r) (h0 : r[0]? = some n) (dj : ∀ x ∈ r, x ∉ W)
    (hz : r[r.length - 1]? = some z) (stop : ∀ y, nx prs z = some y → y ∈ keys prs → y ∈ W ++ r) (no : nx prs z ≠ some n ∨ ¬ 1 < r.length) : ringAt prs n = none := by
  refine ringAt_none fun r2 hr => ?_
  obtain ⟨hl, he⟩ := hr.1.pre w h0
  have hp : 0 < r.length := (List.getElem?_eq_some_iff.mp h0).1
  by_cases z1 : r.length = r2.length
  · have : r = r2 := by rw [he, z1, List.take_length]
    subst this
    obtain ⟨z2, hz2, ez⟩ := hr.1.up
    rw [hz] at hz2; cases hz2
    rcases no with q | q
    · exact q ez
    · exact q hr.2.1
  · have l2 : r.length < r2.length := by omega
    have hz2 : r2[r.length - 1]? = some z := by
      have hz' := hz
      rw [he, List.length_take, Nat.min_eq_left hl, List.getElem?_take_of_lt (by omega)] at hz'
      exact hz'
    have hq := List.getElem?_eq_getElem l2
    have hnx := hr.1.way.st (r.length - 1) z _ hz2 (by rw [show r.length - 1 + 1 = r.length by omega]; exact hq)
    have hkey : r2[r.length] ∈ keys prs := by
      by_cases l3 : r.length + 1 < r2.length
      · exact nx_key (hr.1.way.st r.length _ _ hq (List.getElem?_eq_getElem l3))
      · obtain ⟨x, hx, ex⟩ := hr.1.up
        rw [show r2.length - 1 = r.length by omega, hq] at hx
        cases hx
        exact nx_key ex
    rcases List.mem_append.mp (stop _ hnx hkey) with q | q
    · exact dj n (List.mem_of_getElem? h0) (hr.1.fwd (W := fun x => x ∈ W) s.cl (List.mem_of_getElem? hq) q)
    · obtain ⟨j, hj, ej⟩ := List.mem_take_iff_getElem.mp ((congrArg (fun l => r2[r.length] ∈ l) he).mp q)
      have := nd_ix hr.1.way.nd (List.getElem?_eq_some_iff.mpr ⟨_, ej⟩) hq
      omega
/-! ### min of a list of texts -/
def rMinS (K : PySem.W.Frag) : List V → Hp → VK → Prop := fun vs H Q => ∃ (a : Addr) (xs : List Str), vs = [.ref a] ∧ SqL K H a (xs.map V.str) ∧ 0 < xs.length ∧ ∀ M, M ∈ xs → (∀ y ∈ xs, ¬ sl y M) → Q (.str M) H
theorem minOf_is (x : Str) : ∀ xs : List Str, minOf x xs ∈ x :: xs ∧ ∀ y ∈ x :: xs, ¬ sl y (minOf x xs)
  | [] => ⟨List.mem_cons_self .., fun y hy => by rw [List.mem_singleton.mp hy]; exact sl_irr _⟩
  | y :: r => by
    have e : minOf x (y :: r) = minOf (if DatumOrd.lt y x = true then y else x) r := rfl
    have hlt : DatumOrd.lt y x = true ↔ sl y x := by
      show decide (y.cps.toList < x.cps.toList) = true ↔ _
      rw [← PyProof.Rows.ltCps_eq]; exact Iff.rfl
    by_cases c : sl y x
    · rw [e, if_pos (hlt.mpr c)]
      obtain ⟨h1, h2⟩ := minOf_is y r
      refine ⟨List.mem_cons_of_mem _ h1, fun z hz => ?_⟩
      rcases List.mem_cons.mp hz with q | q
      · intro q2
        rw [q] at q2
        exact h2 y (List.mem_cons_self ..) (sl_trans c q2)
      · exact h2 z q
    · rw [e, if_neg fun z => c (hlt.mp z)]
      obtain ⟨h1, h2⟩ := minOf_is x r
      refine ⟨?_, fun z hz => ?_⟩
      · rcases List.mem_cons.mp h1 with q | q
        · rw [q]; exact List.mem_cons_self ..
        · exact List.mem_cons_of_mem _ (List.mem_cons_of_mem _ q)
      · rcases List.mem_cons.mp hz with q | q
        · rw [q]; exact h2 x (List.mem_cons_self ..)
        · rcases List.mem_cons.mp q with q | q
          · intro q2
            rw [q] at q2
            have := h2 x (List.mem_cons_self ..)
            exact sle_not (sle_trans (sle_of_not this) (sle_of_not c)) q2
          · exact h2 z (List.mem_cons_of_mem _ q)
section
variable {X : Cx} {K : PySem.W.Frag}
theorem strs_vals : ∀ {xs : List Str} {its : List Value}, Vals (xs.map V.str) its → PyProof.Rows.StrsAre its xs
  | [], _, h => by cases h; exact .nil
  | x :: r, _, h => by
    cases h with
    | cons a b => obtain ⟨t, rfl⟩ := a; exact .cons _ t (strs_vals b)
theorem call_minK (h : X.K = K) (hc : X.calm = true) (hu : X.A.units + 64 < cLine) : CallR X (.builtin "min") (rMinS K) := by
  subst h
  intro pins s σ H vs us Q I r h
  obtain ⟨a, xs, rfl, hs, hne, q⟩ := h
  obtain ⟨its, rv, hl, _⟩ := I.list hs
  rw [Vals.ref1 r]
  cases xs with
  | nil => simp at hne
  | cons x xs =>
    refine min_list_datum (x := x) (xs := xs) (I.ok.hd hc) hl.isList (HoldAll.of_strs (strs_vals rv)) (by show X.A.units + 1 + 0 < _; omega) fun i v h' tk hv hh hk => ?_
    obtain ⟨t, e⟩ := str_of_holds hh
    subst e
    exact ⟨.str _, H, I.kept hk, ⟨_, rfl⟩, q _ (minOf_is x xs).1 (minOf_is x xs).2⟩
theorem g_minS {H : Hp} {Q : VK} {a : Addr} {xs : List Str} (h : H a = some (.lst (xs.map V.str))) (hl : 0 < xs.length) (q : ∀ M, M ∈ xs → (∀ y ∈ xs, ¬ sl y M) → Q (.str M) H) : rMinS K [.ref a] H Q := ⟨a, xs, rfl, SqL.of h, hl, q⟩
end
end NN
namespace NN
open PySem L2
def strsD (r : List Str) : List D := r.map fun n => D.v (.str n)
def ringsD (rs : List (List Str)) : List D := rs.map fun r => .t (strsD r)
def spPlanRings (C : Addr) : Sp := fun vs H Q _ => ∃ (p : Addr) (prs : Pr), vs = [.ref p] ∧ PlanAt [] C H p prs ∧ PlOk prs ∧
  ∀ q ws H' , H q = none → Kp [] H H' → H' q = some (.lst ws) → (∀ S, Live S H → AtL (q :: S) H' ws (ringsD (rings prs))) → Q (.ref q) H'
def seenD (W : List Str) : List (Str × V) := W.map fun n => (n, V.bl true)
theorem keys_seenD (W : List Str) : keys (seenD W) = W := by unfold keys seenD; rw [List.map_map]; exact List.map_id _
theorem put_seenD {W : List Str} {n : Str} (h : n ∉ W) : put (seenD W) n (.bl true) = seenD (W ++ [n]) := by rw [put_new _ (by rw [keys_seenD]; exact h)]; simp [seenD]
theorem AtL.strsD {S : List Addr} {H : Hp} : ∀ (ns : List Str), AtL S H (ns.map V.str) (NN.strsD ns)
  | [] => .nil
  | n :: r => .cons (.v _) (AtL.strsD r)
end NN
namespace NN
open PySem L2
theorem at_last {α : Type} {xs : List α} {v : α} (h : xs[xs.length - 1]? = some v) : atI xs (-1) = some v := by
  have hl : 0 < xs.length := by have := (List.getElem?_eq_some_iff.mp h).1; omega
  unfold atI ixN
  rw [if_neg (by omega), if_pos (by omega)]
  show xs[((-1 : Int) + xs.length).toNat]? = some v
  rw [show ((-1 : Int) + xs.length).toNat = xs.length - 1 by omega]
  exact h
theorem get_nx (prs : Pr) (z : Str) : ((lk prs z).map oV).getD .non = oV (nx prs z) := by
  unfold nx
  cases lk prs z <;> rfl
theorem lk_nx {prs : Pr} {z y : Str} (h : nx prs z = some y) : lk prs z = some (some y) := by
  unfold nx at h
  cases e : lk prs z with
  | none => rw [e] at h; cases h
  | some v => rw [e] at h; exact congrArg some h
end NN
namespace NN
open PySem L2
/-- a statement and what is behind it, kept apart -/
theorem g_thenO {t u : TS} {D : Ends} {σ : St} {H : Hp} (P : St → Hp → Prop) (h2 : ∀ σ H, P σ H → u D σ H) (h1 : ∀ nx : St → Hp → Prop, (∀ σ H, P σ H → nx σ H) → t { D with nx := nx } σ H) : tSeq t u D σ H := h1 _ h2
end NN
namespace NN
open PySem L2
/-- a comprehension within a comprehension that reads nothing from outside -/
theorem blkOk_own {N : List Str} {sc scope : Scope} {own : List (Str × Nat)} (h : blkC N scope scope own = true) (hf : (scope.names.all fun y => match y.2 with | .free => false | _ => true) = true) : BlkOk N sc scope own := by
  obtain ⟨a, b, c, d, e⟩ := blkOk_by h
  refine ⟨a, b, c, fun y hy z => ?_, e⟩
  have := List.all_eq_true.mp hf y hy
  rw [z] at this
  cases this
end NN
namespace NN
open PySem L2
theorem inV_append (x : V) (a b : List V) : inV x (a ++ b) = (inV x a || inV x b) := by unfold inV; rw [List.any_append]
theorem inV_news (k : Str) (prs : Pr) : inV (.str k) (prs.map fun p => oV p.2) = decide (k ∈ news prs) := by
  induction prs with
  | nil => rfl
  | cons p r ih =>
    have e : inV (.str k) ((p :: r).map fun p => oV p.2) = (inV (.str k) [oV p.2] || inV (.str k) (r.map fun p => oV p.2)) := by
      rw [List.map_cons, ← List.singleton_append, inV_append]
    rw [e, ih]
    obtain ⟨o, n⟩ := p
    cases n with
    | none => show (false || _) = _; rw [Bool.false_or]; rfl
    | some n =>
      have := inV_strs k [n]
      rw [show [oV (some n)] = [n].map V.str from rfl, this]
      show (decide (k ∈ [n]) || decide (k ∈ news r)) = decide (k ∈ n :: news r)
      by_cases h : k = n <;> simp [h]
theorem flat_oVs (prs : Pr) : (prs.map fun p => oV p.2).all flatV = true := by
  rw [List.all_map]
  exact List.all_eq_true.mpr fun p _ => by show flatV (oV p.2) = true; cases p.2 <;> rfl
/-- pairs that stay -/
def stays (l : List Str) : Pr := l.map fun n => (n, some n)
theorem keys_append (a b : Pr) : keys (a ++ b) = keys a ++ keys b := by simp [keys]
theorem news_append (a b : Pr) : news (a ++ b) = news a ++ news b := by simp [news]
theorem keys_stays (l : List Str) : keys (stays l) = l := by unfold keys stays; rw [List.map_map]; exact List.map_id _
theorem news_stays (l : List Str) : news (stays l) = l := by
  induction l with
  | nil => rfl
  | cons n r ih => show n :: news (stays r) = _; rw [ih]
theorem pl_stays {prs : Pr} {l : List Str} (h : PlOk prs) (nd : l.Nodup) (hn : ∀ n ∈ l, isName n = true) (d : ∀ n ∈ l, n ∉ news prs ∧ n ∉ keys prs) (hl : prs.length + l.length ≤ 40) : PlOk (prs ++ stays l) := by
  refine ⟨?_, ?_, ?_, ?_, by simpa [stays] using hl⟩
  · rw [keys_append, keys_stays]
    exact List.nodup_append.mpr ⟨h.ndo, nd, fun a ha b hb e => (d b hb).2 (e ▸ ha)⟩
  · rw [news_append, news_stays]
    exact List.nodup_append.mpr ⟨h.ndn, nd, fun a ha b hb e => (d b hb).1 (e ▸ ha)⟩
  · intro o ho
    rw [keys_append, keys_stays] at ho
    exact (List.mem_append.mp ho).elim (h.olds o) (hn o)
  · intro o ho
    rw [news_append, news_stays] at ho
    exact (List.mem_append.mp ho).elim (h.news o) (hn o)
end NN
namespace NN
open PySem L2
theorem live_one {H : Hp} {p : Addr} (h : H p ≠ none) : Live [p] H := fun s hs => by rw [List.mem_singleton.mp hs]; exact h
theorem rings_mem {prs : Pr} {r : List Str} (h : r ∈ rings prs) : ∃ n, IsRing prs n r := by
  obtain ⟨n, _, e⟩ := List.mem_filterMap.mp h
  exact ⟨n, ringAt_is e⟩
theorem Cyc.keys {prs : Pr} {n : Str} {r : List Str} (h : Cyc prs n r) : ∀ m ∈ r, m ∈ NN.keys prs := fun m hm => by
  obtain ⟨i, hi⟩ := List.mem_iff_getElem?.mp hm
  by_cases z : i + 1 < r.length
  · exact nx_key (h.way.st i m r[i + 1] hi (List.getElem?_eq_getElem _))
  · obtain ⟨x, hx, ex⟩ := h.up
    have : i = r.length - 1 := by have := (List.getElem?_eq_some_iff.mp hi).1; omega
    rw [this, hx] at hi
    cases hi
    exact nx_key ex
theorem rings_len {prs : Pr} (h : PlOk prs) : (rings prs).length ≤ 40 := by
  have h1 : (rings prs).length ≤ (srt (NN.keys prs)).length := List.length_filterMap_le ..
  rw [len_srt] at h1
  have := h.len
  have h2 : (NN.keys prs).length = prs.length := by simp [NN.keys]
  omega
theorem ring_len {prs : Pr} (h : PlOk prs) {r : List Str} (hr : r ∈ rings prs) : r.length ≤ 40 := by
  obtain ⟨n, q⟩ := rings_mem hr
  have h1 := nd_le q.1.way.nd q.1.keys
  have := h.len
  have h2 : (NN.keys prs).length = prs.length := by simp [NN.keys]
  omega
theorem ok_strsD {n : Nat} {l : List Str} (hl : l.length ≤ 1000) (h : ∀ z ∈ l, isName z = true) : okD (n + 1) (.l (strsD l)) ∧ okD (n + 1) (.t (strsD l)) := by
  have : ∀ d ∈ strsD l, okD n d := fun d hd => by
    obtain ⟨z, hz, rfl⟩ := List.mem_map.mp hd
    exact .v (.inr (.inr (.inr ⟨z, rfl, name_fine (h z hz)⟩)))
  exact ⟨.l (by simpa [strsD] using hl) this, .t (by simpa [strsD] using hl) this⟩
theorem okD_rings {n : Nat} {prs : Pr} (h : PlOk prs) : okD (n + 2) (.l (ringsD (rings prs))) := by
  refine .l (by have := rings_len h; simp [ringsD]; omega) fun d hd => ?_
  obtain ⟨r, hr, rfl⟩ := List.mem_map.mp hd
  obtain ⟨m, q⟩ := rings_mem hr
  exact (ok_strsD (by have := ring_len h hr; omega) fun z hz => h.olds z (q.1.keys z hz)).2
end NN
/-! errors: made, raised, caught and kept, asked for their class, read -/
namespace NN
open PySem PySem.Spec PyProof.Rows L2
/-! ### an error that stands -/
/-- at a: an error of the class cls, d its dict -/
def exk (a : Addr) (cls : Value) (d : Option Addr) : HO := .ext fun h => ∃ o vs, h.get? a = some o ∧ Zc cls d o ∧ o.data = .fields vs
theorem exk_ok {P : Program} {w : World} {H : Hp} {h : Heap} {a : Addr} {cls : Value} {d : Option Addr} {o : Obj} {vs : Array Value} (e : h.get? a = some o) (z : Zc cls d o) (q : o.data = .fields vs) : ObjOk P w H h a (exk a cls d) :=
  ⟨⟨o, vs, e, z, q⟩, ⟨o, e⟩, fun _ _ ⟨o', v', e', r⟩ k => ⟨o', v', k o' e', r⟩⟩
def IsE (H : Hp) (a : Addr) (cls : Value) (d : Option Addr) : Prop := H a = some (exk a cls d) ∨ ∃ C, cls = .ref C ∧ H a = some (exo a C d)
def HasF (H : Hp) (d : Option Addr) (fs : List (Str × V)) : Prop := match d with
  | none => fs = []
  | some x => H x = some (.xd fs) ∨ H x = some (exd x fs)
theorem IsE.kp {S : List Addr} {H H' : Hp} {a : Addr} {cls : Value} {d : Option Addr} (e : IsE H a cls d) (k : Kp S H H') (n : a ∉ S) : IsE H' a cls d := by
  rcases e with e | ⟨C, e1, e2⟩
  · exact .inl (k.at e n)
  · exact .inr ⟨C, e1, k.at e2 n⟩
theorem HasF.kp {S : List Addr} {H H' : Hp} {d : Option Addr} {fs : List (Str × V)} (e : HasF H d fs) (k : Kp S H H') (n : ∀ x, d = some x → x ∉ S) : HasF H' d fs := by
  cases d with
  | none => exact e
  | some x =>
    rcases e with e | e
    · exact .inl (k.at e (n x rfl))
    · exact .inr (k.at e (n x rfl))
theorem IsE.obj {P : Program} {w : World} {H : Hp} {h : Heap} {a : Addr} {cls : Value} {d : Option Addr} (e : IsE H a cls d) (k : HOk P w H h) : ∃ o vs, h.get? a = some o ∧ Zc cls d o ∧ o.data = .fields vs := by
  rcases e with e | ⟨C, rfl, e⟩
  · have x : ObjOk P w H h a (.ext fun h => ∃ o vs, h.get? a = some o ∧ Zc cls d o ∧ o.data = .fields vs) := k a _ e
    exact x.1
  · obtain ⟨t, q⟩ := exo_at k e
    exact ⟨_, _, q, ⟨rfl, rfl⟩, rfl⟩
theorem HasF.ns {P : Program} {w : World} {H : Hp} {h : Heap} {x : Addr} {fs : List (Str × V)} (e : HasF H (some x) fs) (k : HOk P w H h) : ∃ mA, h.Ns1 x mA ∧ ∀ f, RelO (fs.lookup f) (mA f) := by
  rcases e with e | e
  · have q : ObjOk P w H h x (.xd fs) := k x _ e
    exact q
  · exact exd_at k e
/-- as the library speaks of instances -/
theorem IsE.inst {P : Program} {w : World} {H : Hp} {h : Heap} {a C : Addr} {d : Option Addr} {fs : List (Str × V)} (e : IsE H a (.ref C) d) (f : HasF H d fs) (k : HOk P w H h) :
    ∃ ox od, PySem.W.InstAt h a ox C od ∧ ∀ n v, fs.lookup n = some v → ∃ ob u, od = some ob ∧ PySem.W.lookIn n ob = some (some u) ∧ RelV v u := by
  obtain ⟨o, vs, ho, ⟨z1, z2⟩, hd⟩ := e.obj k
  have nc : PySem.W.notCls o = true := by unfold PySem.W.notCls; rw [hd] <;> rfl
  cases d with
  | none =>
    refine ⟨o, none, ⟨ho, z1, nc, ?_⟩, fun n v q => ?_⟩
    · rw [z2]; trivial
    · have e0 : fs = [] := f
      rw [e0] at q; cases q
  | some x =>
    obtain ⟨mA, hns, hr⟩ := f.ns k
    obtain ⟨ob, hob, hl⟩ := lookIn_ns hns
    refine ⟨o, some ob, ⟨ho, z1, nc, ?_⟩, fun n v q => ?_⟩
    · rw [z2]; exact hob
    · obtain ⟨u, hu, ru⟩ := RelO.some_of (v := v) (o := mA n) (by rw [← q]; exact hr n)
      exact ⟨ob, u, rfl, by rw [hl, hu], ru⟩
/-! ### isinstance, fields -/
theorem kit_own {K : PySem.W.Frag} {D C : Addr} {b : Bool} (hc : PySem.W.isClsIn K C = true) (ht : PySem.W.typeIn K (.ref C) = some (.type "type")) (hd : PySem.W.subIn K (.ref D) (.ref D) = some true) (h : PySem.W.subIn K (.ref D) (.ref C) = some b) :
    PySem.W.kitOne K (.ref D) (.ref C) = some b := by
  unfold PySem.W.kitOne
  by_cases e : (Value.ref D == Value.ref C) = true
  · rw [if_pos e]
    have e' : D = C := Value.ref.inj (beq_iff_eq.mp e)
    rw [← e', hd] at h
    exact h
  · rw [if_neg e]
    unfold PySem.W.kitCls
    have q : ((PySem.W.clsIn K C).isSome && PySem.W.typeIn K (.ref C) == some (.type "type")) = true := by rw [ht, show (PySem.W.clsIn K C).isSome = true from hc]; rfl
    simp only [q, if_true]
    exact h
theorem kit_ve {K : PySem.W.Frag} {D : Addr} (h : PySem.W.subIn K (.ref D) (.type "ValueError") = some true) : PySem.W.kitOne K (.ref D) (.type "ValueError") = some true := by
  unfold PySem.W.kitOne
  rw [if_neg (by intro z; cases beq_iff_eq.mp z)]
  unfold PySem.W.kitCls
  have q : PySem.W.kitMeta "ValueError" = true := by decide +kernel
  simp only [q, if_true]
  exact h
def rIsX (K : PySem.W.Frag) : List V → Hp → VK → Prop := fun xs H Q => ∃ (a D : Addr) (d : Option Addr) (fs : List (Str × V)) (c : V) (cv : Value) (b : Bool), xs = [.ref a, c] ∧ IsE H a (.ref D) d ∧ HasF H d fs ∧ ExcC K D ∧ (∀ u, RelV c u → u = cv) ∧ PySem.W.kitOne K (.ref D) cv = some b ∧ Q (.bl b) H
theorem call_isX {X : Cx} {K : PySem.W.Frag} (hK : X.K = K) : CallR X (.builtin "isinstance") (rIsX K) := by
  subst hK
  intro pins s σ H xs us Q I r h
  obtain ⟨a, D, d, fs, c, cv, b, rfl, he, hf, T, hcv, e, q⟩ := h
  cases r with
  | cons rx rr =>
    cases rr with
    | cons rt rr =>
      cases rr
      cases rx
      cases hcv _ rt
      obtain ⟨ox, od, J, _⟩ := he.inst hf I.hok
      exact PySem.W.kia_one (PySem.W.kitx_exc (by obtain ⟨cd, hc, _⟩ := PySem.W.any_some T.hd; rw [hc]; rfl) T.hg T.hk T.hs T.ha T.hn T.ht T.hm) I.kIn J e (fun z => nomatch z) fun tk => ⟨.bl b, H, I.kept (t' := tk) fun _ _ z => z, rfl, q⟩
/-- err.f -/
def tXfd (K : PySem.W.Frag) (te : TE) (f : Str) : TE := fun σ H Q => te σ H fun x H1 => ∃ (a C : Addr) (d : Option Addr) (fs : List (Str × V)) (v : V), x = .ref a ∧ IsE H1 a (.ref C) d ∧ HasF H1 d fs ∧ XfC K C ∧ PySem.W.findIn K (.ref C) f = some none ∧ fs.lookup f = some v ∧ Q v H1
theorem pe_xfd {X : Cx} {K : PySem.W.Frag} (hK : X.K = K) {e : Expr} {te : TE} {pos : Pos} {n : Str} (he : PE X e te) (hb : attributeBase e n X.env (eval e X.env) = eval e X.env := by rfl) : PE X (.Attribute e n pos) (tXfd K te n) := by
  subst hK
  refine ⟨fun pins s σ H Q I h => attr_of hb (thn (he.run pins s σ H _ I h) fun u s1 hh => ?_)⟩
  obtain ⟨x, H1, I1, rx, a, C, d, fs, v, rfl, ee, ef, T, hno, l, q⟩ := hh
  cases rx
  obtain ⟨ox, od, J, hl⟩ := ee.inst ef I1.hok
  obtain ⟨ob, u, rfl, hu, ru⟩ := hl n v l
  exact HandSPX.exc_get I1.kIn J T.ga T.gg T.exC (PySem.W.findObj_own T.hdC hno rfl hu) (handed_of ru) ⟨v, H1, I1.tok _, ru, q⟩
/-! ### C.__init__(self, ..), C over ValueError -/
structure InC (K : PySem.W.Frag) (C : Addr) : Prop where
  ga : PySem.W.specialIn K (.ref C) "__getattribute__" = some (some (.builtin "type.__getattribute__"))
  rd : PySem.W.readsIn K C (.type "type") = true
  at_ : PySem.W.findCls K (.ref C) (.type "type") "__init__" = some (.val (.builtin "ValueError.__init__"))
theorem pe_base {X : Cx} {x : Str} {C : Addr} {e : Expr} {es : List Expr} {ta : TA} {p1 p2 pos : Pos} {pl : Sem Bool} (hm : X.mg x = some (.ref C)) (T : InC X.K C) (ha : PA X (e :: es) ta) (hg : Gl X x := by rfl)
    (hdb : (x == ("__debug__" : Str)) = false := by decide)
    (hc : eval (.Call (.Attribute (.Name x p1) "__init__" p2) (e :: es) [] pos) X.env = (do
      let ov ← eval (.Name x p1) X.env
      standAt p2.atName
      let (f, first) ← holding [ov] (getMethod ov "__init__" pl)
      callWith pos f first (backTo pos (starEach (e :: es) X.env)) (backToKw pos (keywordEach [] X.env))) := by rfl)
    (he : starEach (e :: es) X.env = (false, eval e X.env) :: starEach es X.env := by rfl) (hpl : (backTo pos (starEach es X.env)).any (·.1) = false := by rfl) :
    PE X (.Call (.Attribute (.Name x p1) "__init__" p2) (e :: es) [] pos) (tVeI X.K ta) := by
  refine ⟨fun pins s σ H Q I h => PySem.W.methodCall_KW (ld_glob I hg hm ?_ hdb) hc⟩
  refine PySem.W.method_cls I.kIn T.ga (PySem.W.cls_value I.kIn T.rd T.at_ (by decide +kernel) ?_)
  show wpAny _ _ (callWith pos (Value.builtin "ValueError.__init__") [] (backTo pos (starEach (e :: es) X.env)) []) _ _ _
  refine PyProof.Rows.callWith_method1 (thn (ha.run pos pins _ σ H _ (I.tok _) h) fun us s1 hh => ?_) he hpl
  obtain ⟨vs, H1, I1, r1, a, D, ws, rfl, hl, TD, ea, q⟩ := hh
  cases r1 with
  | cons ra rw' =>
    cases ra
    have hlen := Paired.length rw'
    exact oinit_ok TD I1 ea (by rw [← hlen, sizeLine_eq]; omega) fun s' J => ⟨.non, H1, J, rfl, q⟩
end NN
namespace NN
open PySem PySem.Spec PyProof.Rows L2
section
variable {X : Cx} {pins : List (Addr × Obj)} {σ : L2.St} {H : Hp}
/-- back on the ground, the error tracked -/
theorem land_kept {a : Addr} {B : Heap} {u v : Shared} {cls : Value} {d : Option Addr} {o : Obj} {rec : Array Value} (J : Inv X pins σ H u) (ground : ∀ c q, u.heap.get? c = some q → c ∉ frs X.stack → B.get? c = some q) (stays : B.StaysIn v.heap) (slots : u.heap.UpToSlots v.heap)
    (hos : v.os = u.os) (hbare : AllBare v.gens) (na : H a = none) (nB : B.get? a = none) (hv : v.heap.get? a = some o) (z : Zc cls d o) (dt : o.data = .fields rec) (nf : a ∉ frs X.stack) : Inv X pins σ (upd H a (exk a cls d)) v := by
  have nu : u.heap.get? a = none := by
    cases q : u.heap.get? a with
    | none => rfl
    | some ob =>
      have y := ground a ob q nf
      rw [nB] at y; cases y
  have other : ∀ {c : Addr} {q : Obj}, u.heap.get? c = some q → c ≠ a := fun {c q} e x => by rw [x, nu] at e; cases e
  have there : ∀ c q, u.heap.get? c = some q → ∃ sl, v.heap.get? c = some { q with slots := sl } := fun c q e => by
    by_cases hc : c ∈ frs X.stack
    · obtain ⟨_, q', e', hq⟩ := J.stack.mem hc
      rw [e] at e'; cases e'
      exact slots c q e hq
    · exact ⟨q.slots, stays c q (ground c q e hc)⟩
  have tr : ∀ {c : Addr} {q : HO}, H c = some q → upd H a (exk a cls d) c = some q := fun {c q} e => by rw [upd_ne (ne_of_none e na)]; exact e
  have U : Un (frs X.stack) [] H (upd H a (exk a cls d)) u.heap v.heap := {
    keep := fun c q e _ hc _ => stays c q (ground c q e hc)
    slot := fun c q e _ _ _ => there c q e
    free := fun c q e n _ => by rw [upd_ne (other e)]; exact n
    there := fun c q e _ => (there c q e).elim fun sl y => ⟨_, y⟩
    tups := fun _ _ e => tr e
    frzs := fun _ _ _ e => tr e
    tbls := fun _ ps e => ⟨#[], by rw [tr e]; simp⟩ }
  have K1 : HOk X.prog X.w H v.heap := HOk.kept (J.inGround ground) stays
  refine J.call' hos U (fun c q e => ?_) hbare fun _ y => nomatch y
  by_cases hc : c = a
  · subst hc
    rw [upd_same] at e; cases e
    exact exk_ok hv z dt
  · rw [upd_ne hc] at e
    exact (K1 c q e).stay (fun _ _ _ y => y) (fun _ y => tr y) fun _ _ y => tr y
theorem into_suite {s : Shared} (I : Inv X pins σ H s) (a : Addr) : Inv (X.suite a (X.pn ++ pins)) [] σ H s :=
  ⟨I.ok.suite a _, I.os, I.bare, I.base, I.loc, I.cell, I.free, I.freeC, fun p hp => I.pin p (by simpa using hp), I.hok, I.len⟩
theorem out_suite {s : Shared} {a : Addr} {more : List (Addr × Obj)} (ok : X.Ok) (I : Inv (X.suite a (X.pn ++ pins)) more σ H s) : Inv X pins σ H s :=
  ⟨ok, I.os, I.bare, I.base, I.loc, I.cell, I.free, I.freeC, fun p hp => I.pin p (List.mem_append_left more hp), I.hok, I.len⟩
end
/-- what a clause «except c as n» wishes of an error of the body; n in slot i; the error is tracked from there on -/
def wKeep (K : PySem.W.Frag) (c : Value) (i : Nat) (ts : TS) (Wout : WX) (D : Ends) : WX := fun cls d σ H =>
  ∃ b, PySem.W.exmOne K cls c = some b ∧
    (b = true → ∀ a, H a = none → ts ⟨fun σ1 H1 => D.nx (σ1.set i none) H1, D.rt, fun σ1 H1 => D.bk (σ1.set i none) H1, fun σ1 H1 => D.ct (σ1.set i none) H1⟩ (σ.set i (some (.ref a))) (upd H a (exk a cls d))) ∧
    (b = false → Wout cls d σ H)
section
variable {X : Cx} {x n : Str} {c : Value} {i : Nat} {body suite : List Stmt} {st0 : Stmt} {np pos cpos : Pos} {tb : WX → TS} {ts : TS} {Wout : WX}
theorem ps_keep (hc : Names X x c) (tk : Takes X Wout) (hN : X.N.Nodup) (hi : X.N[i]? = some n)
    (hb : ∀ (W : WX) (pn : List (Addr × Obj)) (xe : Value → Shared → Prop), Takes (X.tr pn xe) W → PassesOwn (model X.prog X.w) X.A X.env xe → PSs (X.tr pn xe) body (tb W))
    (hsu : ∀ (a : Addr) (pn : List (Addr × Obj)), PSs (X.suite a pn) (st0 :: suite) ts) (hln : X.env.kindOf n = some .local := by rfl) (hs : X.stack = X.env :: X.outer := by rfl) (hf : X.env.frame = some X.env.locals := by rfl) :
    PS X (.Try body [.ExceptHandler (some (.Name x np)) (some n) (st0 :: suite) cpos] [] [] pos) (fun D σ H => tb (wKeep X.K c i ts Wout D) D σ H) := by
  refine ⟨fun pins s σ H D I h => ?_⟩
  have ok := I.ok
  have frames : X.A.frames = some (X.env :: X.outer) := ok.frames.trans (congrArg some hs)
  refine wpAny_Try_except ?_
  let later := fun e s1 => wpAny (model X.prog X.w) X.A (noteFrame e X.env) (fun _ s2 => wpAny (model X.prog X.w) X.A (setFlight e none) (fun _ s3 =>
    wpAny (model X.prog X.w) X.A (handleBy e X.env [.ExceptHandler (some (.Name x np)) (some n) (st0 :: suite) cpos]) (SP X pins D) X.xe s3) X.xe s2) X.xe s1
  have taken : Takes (X.tr (X.pn ++ pins) later) (wKeep X.K c i ts Wout D) := fun u s1 air => by
    obtain ⟨a, B, sI, pins1, σ1, H1, cls, d, rfl, J1, nb, up, sky, na, os, ag, b, e1, yes, no⟩ := air
    have J : Inv X pins σ1 H1 sI := J1.ofTry ok
    show wpAny (model X.prog X.w) X.A (noteFrame (.ref a) X.env) _ _ _
    refine Sky.land Zc.steady frames hf (by rw [← hs]; exact sky) fun h3 f3 up3 => ?_
    have notF : a ∉ frs X.stack := fun hm => by
      obtain ⟨o3, r3, g3, _, d3⟩ := f3.there
      rw [hs] at hm
      obtain ⟨_, o', e', nfl⟩ := f3.2.2.1.mem hm
      rw [g3] at e'; cases e'
      exact nfl _ d3
    have kept : ∀ {h}, HandSPX.FlyingZ B (X.env :: X.outer) a (Zc cls d) h → s1.heap.UpToSlots h → Inv X pins σ1 (upd H1 a (exk a cls d)) { s1 with heap := h } := fun {h} f up' => by
      obtain ⟨o, r, g, z, dd⟩ := f.there
      exact land_kept J nb f.1 (up.trans up') os ag na f.2.1 g z dd notF
    have T3 := into_suite (kept f3 up3) a
    refine wpAny_handleBy_cons (codeAny_handlers_test ?_) (by intro q; cases q)
    obtain ⟨o3, r3, g3, z3, _⟩ := f3.there
    have ty : PySem.W.Looks (model X.prog X.w) h3 (typeOf (.ref a)) cls := fun A Q E s k q => wpAny_typeOf_ref (k _ _ g3) (by rw [z3.1]; exact q)
    have named : ∀ {Q E : Value → Shared → Prop}, Q c { s1 with heap := h3 } → wpAny (model X.prog X.w) (X.A.mark (some (.ref a))) (eval (.Name x np) X.env) Q E { s1 with heap := h3 } := fun {Q E} q => by
      obtain ⟨hg, hdb, hm | ⟨hm, hv, hnn⟩⟩ := hc
      · exact ld_glob (X := X.suite a (X.pn ++ pins)) T3 hg hm q hdb
      · exact ld_blt (X := X.suite a (X.pn ++ pins)) T3 hg hm hv q hnn hdb
    refine named (PySem.W.exm_one (M := model X.prog X.w) T3.kIn ty e1 |>.here ?_)
    cases b with
    | true =>
      refine codeAny_handlers_suite_as (HandSPX.lands_againZ f3 fun h4 f4 up4 => ?_)
      refine store_ok (X := X.suite a (X.pn ++ pins)) (v := .ref a) (into_suite (kept f4 (up3.trans up4)) a) hN hi (.inl hln) rfl (fun s5 S5 => ?_) (.inr hln)
      refine wpAny_mono ((hsu a (X.pn ++ pins)).run [] s5 _ _ _ S5 (yes rfl a na)) (fun f s6 out => ?_) fun _ _ z => False.elim z
      have away : ∀ {σ6 : L2.St} {H6 : Hp} {Q : Shared → Prop}, Inv (X.suite a (X.pn ++ pins)) [] σ6 H6 s6 → (∀ s7, Inv X pins (σ6.set i none) H6 s7 → Q s7) →
          wpAny (model X.prog X.w) X.A (do bindName X.env n .none; unbindBehindTheSuite X.env n cpos) (fun _ s7 => Q s7) X.xe s6 := fun {_ _ _} S hq => gone_ok (out_suite ok S) hN hi hln hq
      cases f with
      | ret w => exact let ⟨v, _, _, S, r, q⟩ := out; away S fun _ J7 => ⟨v, _, _, J7, r, q⟩
      | next => exact let ⟨_, _, S, q⟩ := out; away S fun _ J7 => ⟨_, _, J7, q⟩
      | brk => exact let ⟨_, _, S, q⟩ := out; away S fun _ J7 => ⟨_, _, J7, q⟩
      | cont => exact let ⟨_, _, S, q⟩ := out; away S fun _ J7 => ⟨_, _, J7, q⟩
    | false =>
      refine wpAny_handleBy_nil ?_
      obtain ⟨_, _, _, oe, rec, tb1, _, _, he, _, hd, hr1, _⟩ := id f3
      unfold PySem.passOn
      refine wpAny_bind (wpAny_field he hd hr1 ?_)
      rw [if_neg (by simp)]
      have onward : wpAny (model X.prog X.w) X.A (setFlight (.ref a) X.env.frame) (fun _ s4 => wpAny (model X.prog X.w) X.A (throw (.ref a) : Sem Flow) (SP X pins D) X.xe s4) X.xe { s1 with heap := h3 } := by
        rw [hf]
        refine HandSPX.setFlight_upZ f3 fun h4 hh up4 => wpAny_throw (tk _ _ ⟨a, B, sI, pins, σ1, H1, cls, d, rfl, J, nb, (up.trans up3).trans up4, .inr (.inr (by rw [hs]; exact hh)), na, os, ag, no rfl⟩)
      first
        | exact wpAny_bind onward
        | exact wpAny_bind (wpAny_pure (wpAny_bind onward))
  refine wpAny_mono ((hb _ (X.pn ++ pins) later taken PassesOwn.looking).run [] s σ H D (I.toTry _) h) (fun f s1 out => ?_) fun _ _ z => z
  cases f with
  | ret w => exact let ⟨v, _, _, J, r, q⟩ := out; ⟨v, _, _, J.ofTry ok, r, q⟩
  | next => exact let ⟨_, _, J, q⟩ := out; wpAny_execs_nil ⟨_, _, J.ofTry ok, q⟩
  | brk => exact let ⟨_, _, J, q⟩ := out; ⟨_, _, J.ofTry ok, q⟩
  | cont => exact let ⟨_, _, J, q⟩ := out; ⟨_, _, J.ofTry ok, q⟩
end
end NN
namespace NN
open PySem PySem.Spec PyProof.Rows L2
/-! ### calls that may raise -/
section
variable {P : Program} {w : World} {K : PySem.W.Frag} {mg : Str → Option Value} {base : Heap} {k : Nat} {f C : Addr} {fd : FuncData} {ps : List Str} {sp : Sp} {x m : Str}
/-- a promise whose raising way can't be -/
def qt (sp : Sp) : Sp := fun vs H Q _ => sp vs H Q E0
theorem quietF (F : FnOk P w K mg base (L2.CX P w) k f fd ps sp) : FnOk P w K mg base CX0 k f fd ps (qt sp) :=
  ⟨fun vs H Q _ q => F.len vs H Q E0 q, fun A outer s H args us vs Q _ hr he hb hv hs => codeAny_mono (F.run A outer s H args us vs Q E0 hr he hb hv hs) fun r s' q => by
    cases r with
    | error e => exact let ⟨_, _, _, _, _, _, _, _, _, _, _, _, z⟩ := q; z.elim
    | ok fl => cases fl <;> exact q⟩
theorem FnAt.quiet (F : FnAt P w K mg base (L2.CX P w) k x ps sp) : FnAt P w K mg base CX0 k x ps (qt sp) := let ⟨f, fd, a, b, c, d⟩ := F; ⟨f, fd, a, b, c, quietF d⟩
theorem MtAt.quiet (F : MtAt P w K mg base (L2.CX P w) k C m ps sp) : MtAt P w K mg base CX0 k C m ps (qt sp) := let ⟨f, fd, a, b, c, d⟩ := F; ⟨f, fd, a, b, c, quietF d⟩
theorem MkAt.quiet (F : MkAt P w K mg base (L2.CX P w) k x C ps sp) : MkAt P w K mg base CX0 k x C ps (qt sp) := let ⟨f, fd, a, b, c, d⟩ := F; ⟨f, fd, a, b, c, quietF d⟩
theorem FnAt.imp {sp' : Sp} {CX : CXT} (F : FnAt P w K mg base CX k x ps sp) (h : ∀ vs H Q E, sp' vs H Q E → sp vs H Q E) : FnAt P w K mg base CX k x ps sp' := let ⟨f, fd, a, b, c, d⟩ := F; ⟨f, fd, a, b, c, d.imp h⟩
theorem MtAt.imp {sp' : Sp} {CX : CXT} (F : MtAt P w K mg base CX k C m ps sp) (h : ∀ vs H Q E, sp' vs H Q E → sp vs H Q E) : MtAt P w K mg base CX k C m ps sp' := let ⟨f, fd, a, b, c, d⟩ := F; ⟨f, fd, a, b, c, d.imp h⟩
theorem MkAt.imp {sp' : Sp} {CX : CXT} (F : MkAt P w K mg base CX k x C ps sp) (h : ∀ vs H Q E, sp' vs H Q E → sp vs H Q E) : MkAt P w K mg base CX k x C ps sp' := let ⟨f, fd, a, b, c, d⟩ := F; ⟨f, fd, a, b, c, d.imp h⟩
end
section
variable {X : Cx} {k : Nat} {x m : Str} {C f : Addr} {fd : FuncData} {ps : List Str} {sp : Sp} {e o : Expr} {es : List Expr} {t : TA} {ta : TE} {p pos apos : Pos} {E : XK} {W : WX}
/-! #### in a def that lets it out -/
theorem pe_fnX (F : FnAt X.prog X.w X.K X.mg X.base (L2.CX X.prog X.w) k x ps sp) (hr : Room k X.A) (tk : Takes X fun c d _ H => E c d H) (ha : PA X (e :: es) t) (hg : Gl X x := by rfl) (hdb : (x == ("__debug__" : Str)) = false := by decide)
    (he : starEach (e :: es) X.env = (false, eval e X.env) :: starEach es X.env := by rfl) (hpl : (backTo pos (starEach es X.env)).any (·.1) = false := by rfl) : PE X (.Call (.Name x p) (e :: es) [] pos) (tCall sp [] E t) :=
  let ⟨_, _, h1, h2, h3, h4⟩ := F
  pe_call h4 hr hg h1 h2 h3 .nil (passes_call tk fun _ _ _ _ h => h) ha hdb he hpl
theorem pe_mkX (F : MkAt X.prog X.w X.K X.mg X.base (L2.CX X.prog X.w) k x C ps sp) (hr : Room (k + 1) X.A) (tk : Takes X fun c d _ H => E c d H) (ha : PA X (e :: es) t) (hg : Gl X x := by rfl) (hdb : (x == ("__debug__" : Str)) = false := by decide)
    (he : starEach (e :: es) X.env = (false, eval e X.env) :: starEach es X.env := by rfl) (hpl : (backTo pos (starEach es X.env)).any (·.1) = false := by rfl) : PE X (.Call (.Name x p) (e :: es) [] pos) (tMake C sp [] E t) :=
  let ⟨_, _, h1, h2, h3, h4⟩ := F
  pe_make h2 h4 hr hg h1 h3 .nil (passes_call tk fun _ _ _ _ h => h) ha hdb he hpl
theorem pe_mtX {pl : Sem Bool} (F : MtAt X.prog X.w X.K X.mg X.base (L2.CX X.prog X.w) k C m ps sp) (ho : PE X o ta) (hr : Room k X.A) (tk : Takes X fun c d _ H => E c d H) (ha : PA X (e :: es) t)
    (hst : starEach (e :: es) X.env = (false, eval e X.env) :: starEach es X.env := by rfl) (hpl : (backTo pos (starEach es X.env)).any (·.1) = false := by rfl)
    (ht : eval (.Call (.Attribute o m apos) (e :: es) [] pos) X.env = (do
      let ov ← eval o X.env
      standAt apos.atName
      let (f, first) ← holding [ov] (getMethod ov m pl)
      callWith pos f first (backTo pos (starEach (e :: es) X.env)) (backToKw pos (keywordEach [] X.env))) := by rfl) : PE X (.Call (.Attribute o m apos) (e :: es) [] pos) (tMeth C m sp [] E ta t) :=
  let ⟨_, _, h1, h2, h3, h4⟩ := F
  pe_meth (pl := pl) ho h1 h2 h4 hr h3 .nil (passes_call tk fun _ _ _ _ h => h) ha hst hpl ht
theorem pe_mtX0 {pl : Sem Bool} (F : MtAt X.prog X.w X.K X.mg X.base (L2.CX X.prog X.w) k C m ps sp) (ho : PE X o ta) (hr : Room k X.A) (tk : Takes X fun c d _ H => E c d H)
    (ht : eval (.Call (.Attribute o m apos) [] [] pos) X.env = (do
      let ov ← eval o X.env
      standAt apos.atName
      let (f, first) ← holding [ov] (getMethod ov m pl)
      callWith pos f first (backTo pos (starEach [] X.env)) (backToKw pos (keywordEach [] X.env))) := by rfl) : PE X (.Call (.Attribute o m apos) [] [] pos) (tMeth C m sp [] E ta tNil) :=
  let ⟨_, _, h1, h2, h3, h4⟩ := F
  pe_meth0 (pl := pl) ho h1 h2 h4 hr h3 .nil (passes_call tk fun _ _ _ _ h => h) ht
/-! #### in a try's body -/
theorem pe_fnS (F : FnAt X.prog X.w X.K X.mg X.base (L2.CX X.prog X.w) k x ps sp) (hr : Room k X.A) (tk : Takes X W) (ha : PA X (e :: es) t) (hg : Gl X x := by rfl) (hdb : (x == ("__debug__" : Str)) = false := by decide)
    (he : starEach (e :: es) X.env = (false, eval e X.env) :: starEach es X.env := by rfl) (hpl : (backTo pos (starEach es X.env)).any (·.1) = false := by rfl) : PE X (.Call (.Name x p) (e :: es) [] pos) (tCallS sp (WE W) t) :=
  let ⟨_, _, h1, h2, h3, h4⟩ := F
  pe_callS h4 hr hg h1 h2 h3 (fun σ => passAt tk σ) ha hdb he hpl
def tMakeS (C : Addr) (sp : Sp) (W : WX) (t : TA) : TE := fun σ H Q => t σ H fun vs H1 => ∀ x dx, H1 x = none → H1 dx = none → dx ≠ x → sp (.ref x :: vs) (upd (upd H1 dx (.own x)) x (.ins C dx [])) (fun v H2 => v = .non ∧ Q (.ref x) H2) (WE W σ)
def tMethS (C : Addr) (m : Str) (sp : Sp) (W : WX) (ta : TE) (t : TA) : TE := fun σ H Q => ta σ H fun x H1 => ∃ a dx fs, x = .ref a ∧ H1 a = some (.ins C dx fs) ∧ fs.lookup m = none ∧ t σ H1 fun vs H2 => sp (x :: vs) H2 Q (WE W σ)
theorem mk_run {pins : List (Addr × Obj)} {σ : L2.St} {H : Hp} {s : Shared} {Q : VK} {us : List Value} {vs : List V} (M : Mk X.K C f) (F : FnOk X.prog X.w X.K X.mg X.base (L2.CX X.prog X.w) k f fd ps sp) (hr : Room (k + 1) X.A) (bd : Binds X.K fd ps [])
    (tk : Takes X W) (I : Inv X pins σ H s) (rv : Vals vs us)
    (h : ∀ x dx, H x = none → H dx = none → dx ≠ x → sp (.ref x :: vs) (upd (upd H dx (.own x)) x (.ins C dx [])) (fun v H2 => v = .non ∧ Q (.ref x) H2) (WE W σ)) : wpAny (model X.prog X.w) X.A (call (.ref C) us) (EP X pins σ Q) X.xe s := by
  let n := s.heap.objs.size
  have todo := h (n + 1) n (I.hok.fresh (Nat.le_succ n)) (I.hok.fresh (Nat.le_refl n)) (Nat.ne_of_lt (Nat.lt_succ_self n))
  have J := Inv.made (C := C) I
  have rv' : Vals (V.ref (n + 1) :: vs) (Value.ref (n + 1) :: us) := .cons rfl rv
  have many : (Value.ref (n + 1) :: us).length = ps.length := by rw [← rv'.length]; exact F.len _ _ _ _ todo
  have bound := bd _ (Value.ref (n + 1) :: us) J.kIn (by rw [List.append_nil]; exact many)
  rw [List.append_nil] at bound
  refine wpAny_call (make_map (f := f) I.kIn M.makes M.init (beq_iff_eq.mp M.fn) (codeAny_mono (F.run _ X.stack _ _ ⟨Value.ref (n + 1) :: us, []⟩ _ _ _ (WE W σ) (hr.make C us []) (J.env0.make C us []) bound rv' todo) fun r s1 out => ?_))
  match r, out with
  | .error e, out => exact passAt tk σ pins _ _ e s1 J out
  | .ok (.ret u), out =>
    obtain ⟨_, H1, J1, r1, rfl, q⟩ := J.after out
    exact ⟨r1, ⟨V.ref (n + 1), H1, J1, rfl, q⟩⟩
theorem pe_mkS (F : MkAt X.prog X.w X.K X.mg X.base (L2.CX X.prog X.w) k x C ps sp) (hr : Room (k + 1) X.A) (tk : Takes X W) (ha : PA X (e :: es) t) (hg : Gl X x := by rfl) (hdb : (x == ("__debug__" : Str)) = false := by decide)
    (he : starEach (e :: es) X.env = (false, eval e X.env) :: starEach es X.env := by rfl) (hpl : (backTo pos (starEach es X.env)).any (·.1) = false := by rfl) : PE X (.Call (.Name x p) (e :: es) [] pos) (tMakeS C sp W t) := by
  obtain ⟨_, _, h1, h2, h3, h4⟩ := F
  refine ⟨fun pins s σ H Q I h => wpAny_Call_Name_kw (ld_glob I hg h1 ?_ hdb)⟩
  exact PySem.W.callWith_K (h₀ := X.base) I.ok.mod.kin h2.kp (thn (ha.run pos pins s σ H _ I h) fun us s1 ⟨vs, H1, I1, r, q⟩ => ⟨I1.kIn, mk_run h2 h4 hr h3 tk I1 r q⟩) he hpl
theorem pe_mtS {pl : Sem Bool} (F : MtAt X.prog X.w X.K X.mg X.base (L2.CX X.prog X.w) k C m ps sp) (ho : PE X o ta) (hr : Room k X.A) (tk : Takes X W) (ha : PA X (e :: es) t)
    (hst : starEach (e :: es) X.env = (false, eval e X.env) :: starEach es X.env := by rfl) (hpl : (backTo pos (starEach es X.env)).any (·.1) = false := by rfl)
    (ht : eval (.Call (.Attribute o m apos) (e :: es) [] pos) X.env = (do
      let ov ← eval o X.env
      standAt apos.atName
      let (f, first) ← holding [ov] (getMethod ov m pl)
      callWith pos f first (backTo pos (starEach (e :: es) X.env)) (backToKw pos (keywordEach [] X.env))) := by rfl) : PE X (.Call (.Attribute o m apos) (e :: es) [] pos) (tMethS C m sp W ta t) := by
  obtain ⟨_, _, h1, h2, h3, h4⟩ := F
  refine ⟨fun pins s σ H Q I h => PySem.W.methodCall_KW (pl := pl) (thn (ho.run pins s σ H _ I h) fun u s1 y => ?_) ht⟩
  obtain ⟨_, H1, I1, rx, a, dx, fs, rfl, ea, l, q⟩ := y
  cases rx
  refine getmeth_ok I1 ea h1 h2 l (PySem.W.callWith_K (first := [.ref a]) (h₀ := X.base) I.ok.mod.kin h2.kp (thn (ha.run pos pins s1 σ H1 _ I1 q) fun us s2 ⟨vs, H2, I2, r, q2⟩ => ⟨I2.kIn, ?_⟩) hst hpl)
  exact run_fnS (us := .ref a :: us) (vs := .ref a :: vs) (E := WE W) h4 hr h3 (passAt tk σ) I2 (.cons rfl r) q2
theorem pe_mtS0 {pl : Sem Bool} (F : MtAt X.prog X.w X.K X.mg X.base (L2.CX X.prog X.w) k C m ps sp) (ho : PE X o ta) (hr : Room k X.A) (tk : Takes X W)
    (ht : eval (.Call (.Attribute o m apos) [] [] pos) X.env = (do
      let ov ← eval o X.env
      standAt apos.atName
      let (f, first) ← holding [ov] (getMethod ov m pl)
      callWith pos f first (backTo pos (starEach [] X.env)) (backToKw pos (keywordEach [] X.env))) := by rfl) : PE X (.Call (.Attribute o m apos) [] [] pos) (tMethS C m sp W ta tNil) := by
  obtain ⟨_, _, h1, h2, h3, h4⟩ := F
  refine ⟨fun pins s σ H Q I h => PySem.W.methodCall_KW (pl := pl) (thn (ho.run pins s σ H _ I h) fun u s1 y => ?_) ht⟩
  obtain ⟨_, H1, I1, rx, a, dx, fs, rfl, ea, l, q⟩ := y
  cases rx
  exact getmeth_ok I1 ea h1 h2 l (PySem.W.callWith_K0 (first := [.ref a]) I1.kIn h2.kp (run_fnS (us := [.ref a]) (vs := [.ref a]) (E := WE W) h4 hr h3 (passAt tk σ) I1 (.cons rfl .nil) q))
end
/-! ### raise C(e), C's own __init__ storing one field -/
section
variable (P : Program) (w : World) (K : PySem.W.Frag) (mg : Str → Option Value) (base : Heap) (k : Nat)
def XmAt (x : Str) (C : Addr) (ps : List Str) (sp : Sp) : Prop := ∃ f fd, mg x = some (.ref C) ∧ OexC K C ∧ PySem.W.findIn K (.ref C) "__init__" = some (some (.ref f)) ∧ PySem.W.typeIn K (.ref f) = some (.type "function") ∧ Binds K fd ps [] ∧ FnOk P w K mg base CX0 k f fd ps sp
end
/-- C.__init__: it takes y, of which ok holds, and stores it under f -/
def spXm (C : Addr) (f : Str) (ok : V → Hp → Prop) : Sp := fun vs H Q _ => ∃ a y, vs = [.ref a, y] ∧ H a = some (exo a C none) ∧ ok y H ∧ ∀ dx, H dx = none → dx ≠ a → Q .non (upd (upd H dx (exd dx [(f, y)])) a (exo a C (some dx)))
section
variable {X : Cx} {k : Nat} {x : Str} {C : Addr} {ps : List Str} {sp : Sp} {e : Expr} {es : List Expr} {t : TA} {p pos : Pos}
theorem pmk_x (F : XmAt X.prog X.w X.K X.mg X.base k x C ps sp) (hr : Room (k + 1) X.A) (ha : PA X (e :: es) t) (hg : Gl X x := by rfl) (hdb : (x == ("__debug__" : Str)) = false := by decide)
    (he : starEach (e :: es) X.env = (false, eval e X.env) :: starEach es X.env := by rfl) (hpl : (backTo pos (starEach es X.env)).any (·.1) = false := by rfl) : PMk X (.Call (.Name x p) (e :: es) [] pos) (tMkO C sp [] t) :=
  let ⟨_, _, h1, h2, h3, h4, h5, h6⟩ := F
  pmk_oex h2 h3 h4 h6 hr h5 .nil (fun _ _ _ _ _ _ _ h => h.elim) hg h1 ha hdb he hpl
def cl (t : TA) : TA := fun σ H R => ∃ Q, t σ H Q ∧ ∀ vs H1, Q vs H1 → R vs H1
theorem pa_cl (ha : PA X es t) : PA X es (cl t) := ⟨fun pos pins s σ H R I h => thn (ha.run pos pins s σ H h.choose I h.choose_spec.1) fun us s1 y => let ⟨vs, H1, I1, r, q⟩ := y; ⟨vs, H1, I1, r, h.choose_spec.2 vs H1 q⟩⟩
/-- the reading of C(e) behind «raise»: dx is the error's own dict, new -/
def tXm (C : Addr) (f : Str) (ok : V → Hp → Prop) (t : TA) : L2.St → Hp → XK → Prop := fun σ H Q => t σ H fun vs H1 => ∃ y, vs = [y] ∧ (∀ a, H1 a = none → ok y (upd H1 a (exo a C none))) ∧ ∀ dx, H1 dx = none → Q (.ref C) (some dx) (upd H1 dx (.xd [(f, y)]))
theorem pmk_xm {f : Str} {ok : V → Hp → Prop} (F : XmAt X.prog X.w X.K X.mg X.base k x C ps (spXm C f ok)) (hr : Room (k + 1) X.A) (ha : PA X (e :: es) t) (hg : Gl X x := by rfl) (hdb : (x == ("__debug__" : Str)) = false := by decide)
    (he : starEach (e :: es) X.env = (false, eval e X.env) :: starEach es X.env := by rfl) (hpl : (backTo pos (starEach es X.env)).any (·.1) = false := by rfl) : PMk X (.Call (.Name x p) (e :: es) [] pos) (tXm C f ok t) := by
  intro pins s σ H Q I h
  refine pmk_x F hr (pa_cl ha) hg hdb he hpl pins s σ H Q I ⟨_, h, fun vs H1 h => ?_⟩
  obtain ⟨y, rfl, ho, h⟩ := h
  refine ⟨by simp, fun a na => ⟨a, y, rfl, upd_same, ho a na, fun dx ndx ne => ⟨rfl, dx, [(f, y)], upd_same, ?_, ?_, ?_⟩⟩⟩
  · rw [upd_ne ne]; exact upd_same
  · rw [upd_ne ne] at ndx; exact ndx
  · rw [upd_ne ne] at ndx
    have z := h dx ndx
    have e : upd (del (upd (upd (upd H1 a (exo a C none)) dx (exd dx [(f, y)])) a (exo a C (some dx))) a) dx (.xd [(f, y)]) = upd H1 dx (.xd [(f, y)]) := by
      funext b
      by_cases hb : b = dx
      · rw [hb, upd_same, upd_same]
      · rw [upd_ne hb, upd_ne hb]
        by_cases hba : b = a
        · rw [hba, del_same, na]
        · rw [del_ne hba, upd_ne hba, upd_ne hb, upd_ne hba]
    rw [e]; exact z
end
end NN
namespace NN
open PySem PySem.Spec PyProof.Rows L2
/-! ### list.count of plain values -/
def rCntF (K : PySem.W.Frag) : V → List V → Hp → VK → Prop := fun x xs H Q => ∃ (a : Addr) (ys : List V) (y : V), x = .ref a ∧ xs = [y] ∧ SqL K H a ys ∧ flatV y = true ∧ ys.all flatV = true ∧ Q (.int (ys.countP fun z => eqV z y : Nat)) H
theorem count_vals {y : V} : ∀ {ys : List V} {us : List Value}, Vals ys us → ys.all flatV = true → us.countP (eqU y) = ys.countP (fun z => eqV z y)
  | _, _, .nil, _ => rfl
  | _ :: _, _ :: _, .cons r rs, f => by
    rw [List.all_cons, Bool.and_eq_true] at f
    rw [List.countP_cons, List.countP_cons, count_vals rs f.2, eqU_of r f.1]
theorem mt_countF {X : Cx} : MtR X "list.count" (rCntF X.K) := by
  intro pins s σ H x xs v us Q I rx rxs h
  obtain ⟨a, ys, y, rfl, rfl, hs, fy, fys, q⟩ := h
  cases rx
  cases rxs with
  | cons ry rt =>
    rename_i uy ut
    cases rt
    obtain ⟨its, rv, ⟨⟨cls, dd, data, sl⟩, n, ho, hc, hdn, hd⟩, hlen⟩ := I.list hs
    simp only at hc hd
    subst hc hd
    refine call_meets PySem.F.slot_list_count ⟨_, ho, rfl⟩ PySem.F.entry_list_count (PySem.F.args_list_count_2 _ _)
      (SeqAt.list_countAt a its.toArray n dd sl uy (eqU y)) ⟨ho, fun u' hu' => mem_eqAt ry fy rv fys u' (by simpa using hu'), ?_⟩
    have ec : its.toArray.toList.countP (eqU y) = ys.countP fun z => eqV z y := by
      rw [List.toList_toArray]
      exact count_vals rv fys
    refine ⟨.int (ys.countP fun z => eqV z y : Nat), H, I.tok _, ⟨s.toks, ?_⟩, q⟩
    show Value.int ((its.toArray.toList.countP (eqU y) : Nat) : Int) s.toks = _
    rw [ec]
theorem mt_countK {X : Cx} {K : PySem.W.Frag} (h : X.K = K) : MtR X "list.count" (rCntF K) := by subst h; exact mt_countF
end NN
namespace NN
open PySem PySem.Spec PyProof.Rows L2
section
variable {K : PySem.W.Frag} {σ : L2.St} {H : Hp} {Q : VK} {D : Ends} {ta te : TE} {t : TA} {sp : Sp} {W : WX} {C : Addr} {m f : Str}
theorem e_callS {E : L2.St → XK} : tCallS sp E t σ H Q = t σ H (fun vs H1 => sp vs H1 Q (E σ)) := rfl
theorem e_makeS : tMakeS C sp W t σ H Q = t σ H (fun vs H1 => ∀ x dx, H1 x = none → H1 dx = none → dx ≠ x → sp (.ref x :: vs) (upd (upd H1 dx (.own x)) x (.ins C dx [])) (fun v H2 => v = .non ∧ Q (.ref x) H2) (WE W σ)) := rfl
theorem e_methS : tMethS C m sp W ta t σ H Q = ta σ H (fun x H1 => ∃ a dx fs, x = .ref a ∧ H1 a = some (.ins C dx fs) ∧ fs.lookup m = none ∧ t σ H1 fun vs H2 => sp (x :: vs) H2 Q (WE W σ)) := rfl
theorem e_xm {ok : V → Hp → Prop} {QX : XK} : tXm C f ok t σ H QX = t σ H (fun vs H1 => ∃ y, vs = [y] ∧ (∀ a, H1 a = none → ok y (upd H1 a (exo a C none))) ∧ ∀ dx, H1 dx = none → QX (.ref C) (some dx) (upd H1 dx (.xd [(f, y)]))) := rfl
theorem e_veI : tVeI K t σ H Q = t σ H (fun vs H1 => ∃ (a C : Addr) (ws : List V), vs = .ref a :: ws ∧ ws.length ≤ 1000 ∧ OexC K C ∧ H1 a = some (exo a C none) ∧ Q .non H1) := rfl
theorem e_xfd : tXfd K te f σ H Q = te σ H (fun x H1 => ∃ (a C : Addr) (d : Option Addr) (fs : List (Str × V)) (v : V), x = .ref a ∧ IsE H1 a (.ref C) d ∧ HasF H1 d fs ∧ XfC K C ∧ PySem.W.findIn K (.ref C) f = some none ∧ fs.lookup f = some v ∧ Q v H1) := rfl
theorem g_callS {E : L2.St → XK} (q : t σ H fun vs H1 => sp vs H1 Q (E σ)) : tCallS sp E t σ H Q := q
end
/-! ### the seven classes -/
structure Er (K : PySem.W.Frag) (mg : Str → Option Value) (CN : Addr) (n fl : Str) (C : Addr) : Prop where
  mg : mg n = some (.ref C)
  ex : ExcC K C
  cls : PySem.W.isClsIn K C = true
  ty : PySem.W.typeIn K (.ref C) = some (.type "type")
  ve : PySem.W.subIn K (.ref C) (.type "ValueError") = some true
  no : PySem.W.findIn K (.ref C) fl = some none
  me : PySem.W.subIn K (.ref C) (.ref C) = some true
  sn : PySem.W.subIn K (.ref C) (.ref CN) = some true
theorem Er.xf {K : PySem.W.Frag} {mg : Str → Option Value} {CN C : Addr} {n fl : Str} (e : Er K mg CN n fl C) : XfC K C := ⟨e.ex.hg, e.ex.hk, e.ex.hs, e.ex.hd⟩
structure Ne (K : PySem.W.Frag) (mg : Str → Option Value) (CN : Addr) : Prop where
  mg : mg "NewError" = some (.ref CN)
  sb : PySem.W.subIn K (.ref CN) (.type "BaseException") = some true
  hd : PySem.W.hasDictIn K CN = true
  ty : PySem.W.typeIn K (.ref CN) = some (.type "type")
  ini : InC K CN
theorem Er.exm {K : PySem.W.Frag} {mg : Str → Option Value} {CN C : Addr} {n fl : Str} (e : Er K mg CN n fl C) (N : Ne K mg CN) : PySem.W.exmOne K (.ref C) (.ref CN) = some true := PySem.W.exm_ref N.sb N.hd N.ty e.sn
def Kits (K : PySem.W.Frag) (D : Addr) : List Addr → List Bool → Prop
  | C :: Cs, b :: bs => PySem.W.kitOne K (.ref D) (.ref C) = some b ∧ Kits K D Cs bs
  | _, _ => True
/-- word, field's name -/
def wrds : List Str := ["name", "twice", "missing", "held", "letgo", "spare", "row"]
def fldn : List Str := ["name", "name", "name", "name", "name", "ring", "row"]
def marks (i : Nat) : List Bool := (List.range 7).map (· == i)
structure ErrX (K : PySem.W.Frag) (mg : Str → Option Value) (CN : Addr) (L : List Addr) : Prop where
  n : Ne K mg CN
  at_ : ∀ i C, L[i]? = some C → ∃ nm fl, fldn[i]? = some fl ∧ Er K mg CN nm fl C ∧ Kits K C L (marks i)
/-- _law_word_of: the error of the i-th class at a, v the value of its field -/
def spWordOf (L : List Addr) : Sp := fun vs H Q _ => ∃ (a : Addr) (i : Nat) (C : Addr) (d : Option Addr) (fs : List (Str × V)) (v : V), vs = [.ref a] ∧ L[i]? = some C ∧ i < 7 ∧ IsE H a (.ref C) d ∧ HasF H d fs ∧
  (∀ f, fldn[i]? = some f → (i = 0 ∧ v = .non) ∨ (i ≠ 0 ∧ fs.lookup f = some v)) ∧ ∀ p H' w, wrds[i]? = some w → H p = none → Kp [] H H' → H' p = some (.tup [.str w, v]) → Q (.ref p) H'
end NN
namespace NN
open PySem PySem.Spec PyProof.Rows L2
theorem mk7 {K : PySem.W.Frag} {mg : Str → Option Value} {CN C0 C1 C2 C3 C4 C5 C6 : Addr} (n : Ne K mg CN)
    (e0 : Er K mg CN "NoName" "name" C0) (e1 : Er K mg CN "Twice" "name" C1) (e2 : Er K mg CN "Missing" "name" C2) (e3 : Er K mg CN "Held" "name" C3) (e4 : Er K mg CN "LetGo" "name" C4) (e5 : Er K mg CN "NoSpare" "ring" C5) (e6 : Er K mg CN "NoRow" "row" C6)
    (k0 : Kits K C0 [C0, C1, C2, C3, C4, C5, C6] (marks 0)) (k1 : Kits K C1 [C0, C1, C2, C3, C4, C5, C6] (marks 1)) (k2 : Kits K C2 [C0, C1, C2, C3, C4, C5, C6] (marks 2)) (k3 : Kits K C3 [C0, C1, C2, C3, C4, C5, C6] (marks 3))
    (k4 : Kits K C4 [C0, C1, C2, C3, C4, C5, C6] (marks 4)) (k5 : Kits K C5 [C0, C1, C2, C3, C4, C5, C6] (marks 5)) (k6 : Kits K C6 [C0, C1, C2, C3, C4, C5, C6] (marks 6)) : ErrX K mg CN [C0, C1, C2, C3, C4, C5, C6] :=
  ⟨n, fun i C h => match i, h with
    | 0, h => by cases h; exact ⟨_, _, rfl, e0, k0⟩
    | 1, h => by cases h; exact ⟨_, _, rfl, e1, k1⟩
    | 2, h => by cases h; exact ⟨_, _, rfl, e2, k2⟩
    | 3, h => by cases h; exact ⟨_, _, rfl, e3, k3⟩
    | 4, h => by cases h; exact ⟨_, _, rfl, e4, k4⟩
    | 5, h => by cases h; exact ⟨_, _, rfl, e5, k5⟩
    | 6, h => by cases h; exact ⟨_, _, rfl, e6, k6⟩
    | i + 7, h => by simp at h⟩
/-- an own class without own __init__ -/
structure OwnX (K : PySem.W.Frag) (C : Addr) : Prop where
  x : PySem.W.excIn K C [.type "ValueError", .type "Exception", .type "BaseException", .type "object"] "ValueError.__new__" = true
  k : PySem.W.keepIn K (.ref C) = true
  b : PySem.W.subIn K (.ref C) (.type "BaseException") = some true
  t : PySem.W.typeIn K (.ref C) = some (.type "type")
theorem pmk_o {X : Cx} {C : Addr} {x m : Str} {j : Nat} {p p2 pos : Pos} (T : OwnX X.K C) (g : X.mg x = some (.ref C)) (hg : Gl X x := by rfl) (hdb : (x == ("__debug__" : Str)) = false := by decide) :
    PMk X (.Call (.Name x p) [.Constant (.str m) j p2] [] pos) (fun _ H Q => Q (.ref C) none H) := pmk_own PySem.F.excBase_ValueError T.x g T.k (raises_own T.b T.t) hg hdb
/-- an error: which class, what its field has -/
abbrev Err := Nat × D
/-- all ways to leave by the error e, all but S being as in H -/
def Leave (L : List Addr) (e : Err) (S : List Addr) (E : XK) (H : Hp) : Prop := ∀ C d fs H', L[e.1]? = some C → Kp S H H' → HasF H' d fs →
  (∀ f, fldn[e.1]? = some f → (e.1 = 0 ∧ e.2 = .v .non) ∨ (e.1 ≠ 0 ∧ ∃ v, fs.lookup f = some v ∧ ∀ S', Live S' H → At S' H' v e.2)) → E (.ref C) d H'
theorem Leave.no {L : List Addr} {d : D} {S : List Addr} {E : XK} {H H' : Hp} {C : Addr} (h : Leave L (0, d) S E H) (hd : d = .v .non) (hC : L[0]? = some C) (k : Kp S H H') : E (.ref C) none H' :=
  h C none [] H' hC k rfl fun f _ => .inl ⟨rfl, hd⟩
theorem Leave.one {L : List Addr} {e : Err} {S : List Addr} {E : XK} {H H' : Hp} {C dx : Addr} {f : Str} {y : V} (h : Leave L e S E H) (h0 : e.1 ≠ 0) (hf : fldn[e.1]? = some f) (hC : L[e.1]? = some C) (k : Kp S H H') (hd : H' dx = none) (at_ : ∀ S', Live S' H → At S' H' y e.2) : E (.ref C) (some dx) (upd H' dx (.xd [(f, y)])) :=
  h C (some dx) [(f, y)] _ hC (fun a o q n => (Kp.new (S := S) hd) a o (k a o q n) n) (.inl upd_same) fun g hg => .inr (by
    rw [hf] at hg; cases hg
    exact ⟨h0, y, by simp [List.lookup], fun S' l => (at_ S' l).kp (Kp.new (S := []) hd) (by simp)⟩)
end NN
namespace NN
open PySem L2
def okName : V → Hp → Prop := fun _ _ => True
def okRing : V → Hp → Prop := fun y H => ∃ t x xs, y = .ref t ∧ H t = some (.tup (x :: xs))
def okRow : V → Hp → Prop := fun y _ => ∃ i : Int, y = .int i ∧ i.natAbs.log2 < 1920
end NN
namespace NN
open PySem L2
theorem g_isX {K : PySem.W.Frag} {H : Hp} {Q : VK} {a D C : Addr} {d : Option Addr} {fs : List (Str × V)} {b : Bool} (he : IsE H a (.ref D) d) (hf : HasF H d fs) (ex : ExcC K D) (k : PySem.W.kitOne K (.ref D) (.ref C) = some b) (q : Q (.bl b) H) : rIsX K [.ref a, .ref C] H Q :=
  ⟨a, D, d, fs, .ref C, .ref C, b, rfl, he, hf, ex, fun _ h => h, k, q⟩
theorem g_isVE {K : PySem.W.Frag} {H : Hp} {Q : VK} {a D : Addr} {d : Option Addr} {fs : List (Str × V)} (he : IsE H a (.ref D) d) (hf : HasF H d fs) (ex : ExcC K D) (k : PySem.W.subIn K (.ref D) (.type "ValueError") = some true) (q : Q (.bl true) H) : rIsX K [.ref a, .ty "ValueError"] H Q :=
  ⟨a, D, d, fs, .ty "ValueError", .type "ValueError", true, rfl, he, hf, ex, fun _ h => h, kit_ve k, q⟩
end NN
namespace NN
open PySem L2
theorem g_addLk {H : Hp} {Q : VK} {a b : Addr} {xs ys : List V} (ha : H a = some (.lst xs)) (hb : H b = some (.lst ys)) (hs : xs.length + ys.length ≤ sizeLine) (q : ∀ p H', H p = none → Kp [] H H' → H' p = some (.lst (xs ++ ys)) → Q (.ref p) H') : rAddU (.ref a) (.ref b) H Q :=
  g_addL ha hb hs fun p hp => q p _ hp (Kp.new hp) upd_same
theorem g_count {K : PySem.W.Frag} {H : Hp} {Q : VK} {a : Addr} {ys : List V} {y : V} (h : H a = some (.lst ys)) (fy : flatV y = true) (f : ys.all flatV = true) (n : Nat) (hn : (ys.countP fun z => eqV z y) = n) (q : Q (.int n) H) : rCntF K (.ref a) [y] H Q :=
  ⟨a, ys, y, rfl, rfl, SqL.of h, fy, f, by rw [hn]; exact q⟩
theorem g_index {K : PySem.W.Frag} {H : Hp} {Q : VK} {a : Addr} {ys : List V} {y z : V} (h : H a = some (.lst ys)) (fy : flatV y = true) (f : ys.all flatV = true) (j : Nat) (hj : ys[j]? = some z) (he : eqV z y = true) (hno : ∀ (m : Nat) (z' : V), m < j → ys[m]? = some z' → eqV z' y = false) (q : Q (.int j) H) : rIndex K (.ref a) [y] H Q :=
  ⟨a, ys, y, j, z, rfl, rfl, SqL.of h, fy, f, hj, he, hno, q⟩
end NN
namespace NN
open PySem L2
theorem g_mark {K : PySem.W.Frag} {H : Hp} {Q : VK} {a : Addr} {i : Nat} (hi : i < 7) (h : H a = some (.lst ((marks i).map V.bl))) (q : Q (.int i) H) : rIndex K (.ref a) [.bl true] H Q := by
  have : i = 0 ∨ i = 1 ∨ i = 2 ∨ i = 3 ∨ i = 4 ∨ i = 5 ∨ i = 6 := by omega
  have f : ∀ m z' j, j < 7 → m < j → ((marks j).map V.bl)[m]? = some z' → eqV z' (.bl true) = false := fun m z' j hj hm e => by
    have hm7 : m < 7 := by omega
    rw [List.getElem?_map, marks, List.getElem?_map, List.getElem?_range hm7] at e
    cases e
    have : (m == j) = false := by simp; omega
    simp [this, eqV]
  rcases this with rfl | rfl | rfl | rfl | rfl | rfl | rfl
  all_goals exact g_index h rfl rfl _ (z := .bl true) rfl rfl (fun m z' hm e => f m z' _ (by decide) hm e) q
end NN
namespace NN
open PySem L2
/-- an error that is caught and kept -/
theorem leave_kept {K : PySem.W.Frag} {mg : Str → Option Value} {CN : Addr} {L : List Addr} {e : Err} {S : List Addr} {H : Hp} {σ : L2.St} {i : Nat} {ts : TS} {Wout : WX} {D : Ends} (T : ErrX K mg CN L) (hL : L.length = 7)
    (h : ∀ (a C : Addr) (d : Option Addr) (fs : List (Str × V)) (v : V) (H2 : Hp), L[e.1]? = some C → e.1 < 7 → Kp S H H2 → IsE H2 a (.ref C) d → HasF H2 d fs → (∀ f, fldn[e.1]? = some f → (e.1 = 0 ∧ v = .non) ∨ (e.1 ≠ 0 ∧ fs.lookup f = some v)) → (∀ S', Live S' H → At S' H2 v e.2) →
      ts ⟨fun σ1 H1 => D.nx (σ1.set i none) H1, D.rt, fun σ1 H1 => D.bk (σ1.set i none) H1, fun σ1 H1 => D.ct (σ1.set i none) H1⟩ (σ.set i (some (.ref a))) H2) : Leave L e S (WE (wKeep K (.ref CN) i ts Wout D) σ) H := fun C d fs H' hC k hf hv => by
  obtain ⟨nm, fl, hfl, er, _⟩ := T.at_ e.1 C hC
  refine ⟨true, er.exm T.n, fun _ a ha => ?_, fun z => nomatch z⟩
  have h7 : e.1 < 7 := by have := (List.getElem?_eq_some_iff.mp hC).1; omega
  have ka : Kp [] H' (upd H' a (exk a (.ref C) d)) := Kp.new ha
  rcases hv fl hfl with ⟨h0, he⟩ | ⟨h0, v, hl, hat⟩
  · exact h a C d fs .non _ hC h7 (k.upn ha) (.inl upd_same) (hf.kp ka (by simp)) (fun f _ => .inl ⟨h0, rfl⟩) (fun S' _ => by rw [he]; exact .v _)
  · exact h a C d fs v _ hC h7 (k.upn ha) (.inl upd_same) (hf.kp ka (by simp)) (fun f hf' => by rw [hfl] at hf'; cases hf'; exact .inr ⟨h0, hl⟩) (fun S' l => (hat S' l).kp ka (by simp))
def wrdOf (i : Nat) : Str := wrds.getD i ""
theorem wrd_at {i : Nat} {w : Str} (h : wrds[i]? = some w) : w = wrdOf i := by unfold wrdOf; rw [List.getD_eq_getElem?_getD, h]; rfl
end NN
/-! the first fault of some pairs -/
namespace NN
open PySem L2
def badN (p : Str × Option Str) : Bool := !isName p.1 || (match p.2 with | none => false | some n => !isName n)
def fault (seen : Pr) (p : Str × Option Str) : Option Err :=
  if badN p = true then some (0, .v .non) else if p.1 ∈ keys seen then some (1, .v (.str p.1)) else match p.2 with
    | none => none
    | some n => if n ∈ NN.news seen then some (1, .v (.str n)) else none
def firstF (prs : Pr) : Option Err := (List.range prs.length).findSome? fun i => (prs[i]?).bind (fault (prs.take i))
def NoF (prs : Pr) (i : Nat) : Prop := ∀ j p, j < i → prs[j]? = some p → fault (prs.take j) p = none
theorem NoF.zero (prs : Pr) : NoF prs 0 := fun _ _ h => absurd h (Nat.not_lt_zero _)
theorem NoF.next {prs : Pr} {i : Nat} {p : Str × Option Str} (h : NoF prs i) (hp : prs[i]? = some p) (e : fault (prs.take i) p = none) : NoF prs (i + 1) := fun j q hj hq => by
  by_cases z : j = i
  · subst z; rw [hp] at hq; cases hq; exact e
  · exact h j q (by omega) hq
theorem firstF_at {prs : Pr} {i : Nat} {p : Str × Option Str} {e : Err} (h : NoF prs i) (hp : prs[i]? = some p) (he : fault (prs.take i) p = some e) : firstF prs = some e := by
  have hi := (List.getElem?_eq_some_iff.mp hp).1
  unfold firstF
  have : List.range prs.length = List.range i ++ (i :: (List.range (prs.length - i - 1)).map (· + (i + 1))) := by
    have e1 : prs.length = i + (1 + (prs.length - i - 1)) := by omega
    conv => lhs; rw [e1, List.range_add, List.range_add, List.map_append, List.map_map]
    simp [Function.comp_def, Nat.add_comm, Nat.add_left_comm]
  rw [this, List.findSome?_append, List.findSome?_eq_none_iff.mpr, List.findSome?_cons, hp]
  · simp [he]
  · intro j hj
    have hj := List.mem_range.mp hj
    rw [List.getElem?_eq_getElem (by omega)]
    exact h j _ hj (List.getElem?_eq_getElem (by omega))
theorem firstF_none {prs : Pr} (h : NoF prs prs.length) : firstF prs = none := by
  unfold firstF
  rw [List.findSome?_eq_none_iff]
  intro j hj
  have hj := List.mem_range.mp hj
  rw [List.getElem?_eq_getElem hj]
  exact h j _ hj (List.getElem?_eq_getElem hj)
theorem noF_of {prs : Pr} (h : firstF prs = none) : NoF prs prs.length := fun j p hj hp => by
  unfold firstF at h
  rw [List.findSome?_eq_none_iff] at h
  have := h j (List.mem_range.mpr hj)
  rw [hp] at this
  exact this
theorem fault_none {seen : Pr} {p : Str × Option Str} (h : fault seen p = none) : isName p.1 = true ∧ (∀ n, p.2 = some n → isName n = true) ∧ p.1 ∉ keys seen ∧ ∀ n, p.2 = some n → n ∉ NN.news seen := by
  unfold fault at h
  obtain ⟨o, n⟩ := p
  by_cases b : badN (o, n) = true
  · rw [if_pos b] at h; cases h
  · rw [if_neg b] at h
    unfold badN at b
    simp only [Bool.or_eq_true, not_or, Bool.not_eq_true'] at b
    have b1 : isName o = true := by simpa using b.1
    by_cases k : o ∈ keys seen
    · rw [if_pos k] at h; cases h
    · rw [if_neg k] at h
      cases n with
      | none => exact ⟨b1, (fun _ z => nomatch z), k, (fun _ z => nomatch z)⟩
      | some m =>
        have b2 : isName m = true := by simpa using b.2
        by_cases q : m ∈ NN.news seen
        · simp [q] at h
        · exact ⟨b1, fun _ z => by cases z; exact b2, k, fun _ z => by cases z; exact q⟩
theorem plOk_of {prs : Pr} (h : NoF prs prs.length) (hl : prs.length ≤ 40) : PlOk prs := by
  have each : ∀ i p, prs[i]? = some p → isName p.1 = true ∧ (∀ n, p.2 = some n → isName n = true) ∧ p.1 ∉ keys (prs.take i) ∧ ∀ n, p.2 = some n → n ∉ NN.news (prs.take i) :=
    fun i p hp => fault_none (h i p (List.getElem?_eq_some_iff.mp hp).1 hp)
  have nd : ∀ i, i ≤ prs.length → (keys (prs.take i)).Nodup ∧ (NN.news (prs.take i)).Nodup := by
    intro i
    induction i with
    | zero => intro _; simp [keys, NN.news]
    | succ i ih =>
      intro hi
      obtain ⟨a, b⟩ := ih (by omega)
      have hp : prs[i]? = some prs[i] := List.getElem?_eq_getElem (by omega)
      obtain ⟨_, _, c, d⟩ := each i _ hp
      rw [List.take_add_one, hp]
      constructor
      · unfold keys at a c ⊢
        rw [List.map_append]
        exact List.nodup_append.mpr ⟨a, by simp, fun x hx y hy e => c (by simp at hy; rw [← hy, ← e]; exact hx)⟩
      · unfold NN.news at b d ⊢
        rw [List.filterMap_append]
        refine List.nodup_append.mpr ⟨b, ?_, fun x hx y hy e => ?_⟩
        · rw [Option.toList, List.filterMap_cons]
          cases prs[i].2 <;> simp
        · have hy' : prs[i].2 = some y := by
            simpa using hy
          exact d y hy' (e ▸ hx)
  have := nd prs.length (Nat.le_refl _)
  rw [List.take_length] at this
  refine ⟨this.1, this.2, fun o ho => ?_, fun n hn => ?_, hl⟩
  · obtain ⟨p, hp, rfl⟩ := List.mem_map.mp ho
    obtain ⟨i, hi⟩ := List.mem_iff_getElem?.mp hp
    exact (each i p hi).1
  · obtain ⟨p, hp, e⟩ := List.mem_filterMap.mp hn
    obtain ⟨i, hi⟩ := List.mem_iff_getElem?.mp hp
    exact (each i p hi).2.1 n e
/-- pairs of texts that are not long -/
def Shrt (prs : Pr) : Prop := ∀ p ∈ prs, p.1.length ≤ 100 ∧ ∀ n, p.2 = some n → n.length ≤ 100
def spPlanInitX (C : Addr) (L : List Addr) : Sp := fun vs H Q E => ∃ (x dx : Addr) (y : V) (prs : Pr), vs = [.ref x, y] ∧ H x = some (.ins C dx []) ∧ At [x] H y (encPs prs) ∧ Shrt prs ∧ prs.length ≤ 40 ∧
  (firstF prs = none → ∀ a b H', Kp [x] H H' → H a = none → H b = none → H' x = some (.ins C dx (flds a b)) → H' a = some (.dK (dS (oldsD prs))) → H' b = some (.dK (dS (newsD prs))) → Q .non H') ∧
  (∀ e, firstF prs = some e → Leave L e [x] E H)
end NN
namespace NN
open PySem L2
/-! ### data that == can be asked of, by depth -/
def FineN (n : Nat) (d : D) : Prop := ∃ p, d.py = some p ∧ p.canLay0 = true ∧ p.depth ≤ n
theorem FineN.fine {n : Nat} {d : D} (h : FineN n d) (hn : n ≤ 30) : fineD d := let ⟨p, a, b, c⟩ := h; ⟨p, a, b, Nat.le_trans c hn⟩
theorem FineN.str {n : Nat} {z : Str} (h : fineS z) : FineN n (.v (.str z)) := ⟨_, rfl, h, Nat.zero_le _⟩
theorem FineN.non {n : Nat} : FineN n (.v .non) := ⟨_, rfl, rfl, Nat.zero_le _⟩
theorem FineN.int {n : Nat} {i : Int} : FineN n (.v (.int i)) := ⟨_, rfl, rfl, Nat.zero_le _⟩
theorem FineN.bl {n : Nat} {b : Bool} : FineN n (.v (.bl b)) := ⟨_, rfl, rfl, Nat.zero_le _⟩
theorem FineN.oV {n : Nat} {o : Option Str} (h : ∀ z, o = some z → fineS z) : FineN n (.v (NN.oV o)) := by
  cases o with
  | none => exact .non
  | some z => exact .str (h z rfl)
theorem fineN_pys {n : Nat} : ∀ {ds : List D}, (∀ d ∈ ds, FineN n d) → ∃ ps, D.pys ds = some ps ∧ PyData.canLayAll0 ps = true ∧ PyData.depthAll ps ≤ n
  | [], _ => ⟨[], rfl, rfl, Nat.zero_le _⟩
  | d :: r, h => by
    obtain ⟨ps, e1, e2, e3⟩ := fineN_pys fun q hq => h q (List.mem_cons_of_mem _ hq)
    obtain ⟨q, f1, f2, f3⟩ := h d (List.mem_cons_self ..)
    refine ⟨q :: ps, ?_, ?_, ?_⟩
    · show (d.py).bind (fun p' => (D.pys r).map (p' :: ·)) = _
      rw [f1, e1]; rfl
    · show (q.canLay0 && PyData.canLayAll0 ps) = true
      rw [f2, e2]; rfl
    · show max q.depth (PyData.depthAll ps) ≤ n
      omega
theorem FineN.l {n : Nat} {ds : List D} (h : ∀ d ∈ ds, FineN n d) : FineN (n + 1) (.l ds) := by
  obtain ⟨ps, e1, e2, e3⟩ := fineN_pys h
  refine ⟨.list ps, ?_, e2, ?_⟩
  · show (D.pys ds).map PyData.list = _
    rw [e1]; rfl
  · show PyData.depthAll ps + 1 ≤ n + 1
    omega
theorem FineN.t {n : Nat} {ds : List D} (h : ∀ d ∈ ds, FineN n d) : FineN (n + 1) (.t ds) := by
  obtain ⟨ps, e1, e2, e3⟩ := fineN_pys h
  refine ⟨.tuple ps, ?_, e2, ?_⟩
  · show (D.pys ds).map PyData.tuple = _
    rw [e1]; rfl
  · show PyData.depthAll ps + 1 ≤ n + 1
    omega
/-- a pair of texts (or None), not long -/
def ShP (p : Str × Option Str) : Prop := (p.1.length ≤ 100 ∧ fineS p.1) ∧ ∀ n, p.2 = some n → n.length ≤ 100 ∧ fineS n
theorem fine_P {p : Str × Option Str} (h : ShP p) : FineN 1 (encP p) := FineN.t (n := 0) fun d hd => by
  rcases List.mem_cons.mp hd with rfl | hd
  · exact .str h.1.2
  · rw [List.mem_singleton.mp hd]; exact .oV fun z hz => (h.2 z hz).2
theorem fine_Ps {prs : Pr} (h : ∀ p ∈ prs, ShP p) : FineN 2 (encPs prs) := FineN.l fun d hd => by
  obtain ⟨p, hp, rfl⟩ := List.mem_map.mp hd
  exact fine_P (h p hp)
theorem shrt_of {prs : Pr} (h : ∀ p ∈ prs, ShP p) : Shrt prs := fun p hp => ⟨(h p hp).1.1, fun n hn => ((h p hp).2 n hn).1⟩
def spBad : Sp := fun vs H Q _ => ∃ (st pl ax : Addr) (nn : List Str) (prs : Pr), vs = [.ref st, .ref pl, .ref ax] ∧ St1 H st ∧ H pl = some (.lst (nn.map V.str)) ∧ PoolOk nn ∧ At [st] H (.ref ax) (encPs prs) ∧ prs.length ≤ 40 ∧ (∀ p ∈ prs, ShP p) ∧
  ∀ r p H', Kp [st] H H' → St1 H' st → At [st] H' (.ref r) (encP p) → ShP p → Q (.ref r) H'
def spIsNm : Sp := fun vs H Q _ => ∃ z, vs = [.str z] ∧ z.length ≤ 100000 ∧ fineS z ∧ ∀ H', Kp [] H H' → Q (.bl (isName z)) H'
def dueD (prs : Pr) : D := match firstF prs with
  | none => .t [.v (.str "good"), .l ((byOlds prs).map encP)]
  | some e => .t [.v (.str (wrdOf e.1)), e.2]
def spDue : Sp := fun vs H Q _ => ∃ (ax : Addr) (prs : Pr), vs = [.ref ax] ∧ At [] H (.ref ax) (encPs prs) ∧ prs.length ≤ 40 ∧ (∀ p ∈ prs, ShP p) ∧
  ∀ r H', Kp [] H H' → (∀ S, Live S H → At S H' (.ref r) (dueD prs)) → Q (.ref r) H'
theorem ShP.name {o : Str} {n : Option Str} (h1 : isName o = true) (h2 : ∀ z, n = some z → isName z = true) : ShP (o, n) :=
  ⟨⟨by have := name_len h1; show o.length ≤ 100; omega, name_fine h1⟩, fun z hz => ⟨by have := name_len (h2 z hz); omega, name_fine (h2 z hz)⟩⟩
def odds : List Str := ["", "A", "abcdefghi", "a b", "a1", "-", "a-", "\n"]
theorem odd_ok : ∀ z ∈ odds, z.length ≤ 100 ∧ fineS z := by
  intro z hz
  have : odds.all (fun z => decide (z.length ≤ 100) && PyData.strOk z) = true := by decide +kernel
  have := List.all_eq_true.mp this z hz
  rw [Bool.and_eq_true] at this
  exact ⟨of_decide_eq_true this.1, this.2⟩
theorem ne_st {H : Hp} {st a : Addr} {xs : List V} (h : St1 H st) (ha : H a = some (.lst xs)) (hl : 2 ≤ xs.length) : a ≠ st := fun z => by
  obtain ⟨w, e⟩ := h
  rw [z, e] at ha
  have e2 : HO.lst [V.int w] = HO.lst xs := Option.some.inj ha
  cases e2
  simp at hl
end NN
namespace NN
open PySem L2
theorem letters_iff (c : Nat) : c ∈ letters.cps.toList ↔ 97 ≤ c ∧ c ≤ 122 := by
  have e : letters.cps.toList = List.range' 97 26 := by decide +kernel
  rw [e, List.mem_range'_1]
  omega
theorem one_lt (a b : Nat) : ([a] : List Nat) < [b] ↔ a < b := by
  rw [List.cons_lt_cons_iff]
  simp
/-- no letter -/
def noLet (c : Nat) : Bool := !decide (c ∈ letters.cps.toList)
theorem noLet_all (l : List Nat) : (l.filter noLet).isEmpty = l.all fun c => decide (c ∈ letters.cps.toList) := by
  induction l with
  | nil => rfl
  | cons c r ih =>
    rw [List.filter_cons, List.all_cons, ← ih]
    by_cases h : c ∈ letters.cps.toList <;> simp [noLet, h]
end NN
namespace NN
open PySem L2
theorem fine_lt {z : Str} (h : fineS z) : ∀ c ∈ z.cps.toList, c < 1114112 := fun c hc => by
  have h : (z.cps.all fun x => decide (x < 0x110000)) = true := h
  rw [Array.all_eq_true'] at h
  exact of_decide_eq_true (h c (by simpa using hc))
theorem g_eqSigns {K : PySem.W.Frag} {H : Hp} {Q : VK} {a b : Addr} {cs : List Nat} (ha : H a = some (.lst (cs.map fun c => V.str ⟨#[c]⟩))) (hb : H b = some (.lst [])) (hf : ∀ c ∈ cs, c < 1114112) (q : Q (.bl cs.isEmpty) H) : rEqU K (.ref a) (.ref b) H Q := by
  have e : (cs.map fun c => V.str ⟨#[c]⟩) = (cs.map fun c => (⟨#[c]⟩ : Str)).map V.str := by rw [List.map_map]; rfl
  rw [e] at ha
  refine g_eqStrs (ys := []) ha hb (fun y hy => ?_) (fun y hy => nomatch hy) ?_
  · obtain ⟨c, hc, rfl⟩ := List.mem_map.mp hy
    exact fine_of fun x hx => by simp at hx; rw [hx]; exact hf c hc
  · cases cs <;> exact q
end NN
namespace NN
open PySem L2
theorem fault_fine {seen : Pr} {p : Str × Option Str} {e : Err} (h : ShP p) (he : fault seen p = some e) (n : Nat) : FineN n e.2 := by
  unfold fault at he
  obtain ⟨o, m⟩ := p
  split at he
  · cases he; exact .non
  · split at he
    · cases he; exact .str h.1.2
    · cases m with
      | none => cases he
      | some m =>
        dsimp only at he
        split at he
        · cases he; exact .str (h.2 m rfl).2
        · cases he
theorem firstF_fine {prs : Pr} {e : Err} (h : ∀ p ∈ prs, ShP p) (he : firstF prs = some e) (n : Nat) : FineN n e.2 := by
  unfold firstF at he
  obtain ⟨i, _, hi⟩ := List.exists_of_findSome?_eq_some he
  obtain ⟨p, hp, hf⟩ := Option.bind_eq_some_iff.mp hi
  exact fault_fine (h p (List.mem_of_getElem? hp)) hf n
theorem fine_due {prs : Pr} (h : ∀ p ∈ prs, ShP p) (hl : prs.length ≤ 40) : fineD (dueD prs) := by
  unfold dueD
  cases e : firstF prs with
  | none =>
    have pl := plOk_of (noF_of e) hl
    refine FineN.fine (n := 3) (FineN.t fun d hd => ?_) (by decide)
    rcases List.mem_cons.mp hd with rfl | hd
    · exact .str (show PyData.strOk "good" = true by decide +kernel)
    · rw [List.mem_singleton.mp hd]
      exact fine_Ps fun p hp => ShP.name (o := p.1) (n := p.2) (byOlds_names pl p hp).1 (byOlds_names pl p hp).2
  | some e' =>
    have h7 : wrdOf e'.1 ∈ wrds ∨ wrdOf e'.1 = "" := by
      unfold wrdOf
      rw [List.getD_eq_getElem?_getD]
      cases q : wrds[e'.1]? with
      | none => exact .inr rfl
      | some w => exact .inl (List.mem_of_getElem? q)
    have hw : fineS (wrdOf e'.1) := by
      rcases h7 with h7 | h7
      · have : wrds.all PyData.strOk = true := by decide +kernel
        exact List.all_eq_true.mp this _ h7
      · rw [h7]; exact (show PyData.strOk "" = true by decide +kernel)
    refine FineN.fine (n := 3) (FineN.t fun d hd => ?_) (by decide)
    rcases List.mem_cons.mp hd with rfl | hd
    · exact .str hw
    · rw [List.mem_singleton.mp hd]
      exact firstF_fine h e 2
theorem PlOk.sh {prs : Pr} (h : PlOk prs) : ∀ p ∈ prs, ShP p := fun p hp => ShP.name (o := p.1) (n := p.2) (h.names p hp).1 (h.names p hp).2
end NN
/-! whether a plan fits some names, and what is held behind it -/
namespace NN
open PySem L2
abbrev E7 (a b c d e f g : Addr) : List Addr := [a, b, c, d, e, f, g]
def toO (prs : Pr) (n : Str) : Option Str := (lk prs n).getD (some n)
theorem toV_O (prs : Pr) (n : Str) : toV prs n = oV (toO prs n) := by
  unfold toV toO
  cases lk prs n <;> rfl
def behL (prs : Pr) (nm : List Str) : List Str := srt (nm.filterMap (toO prs))
def lostOf (prs : Pr) (nm : List Str) : Option Str := (srt (keys prs)).find? fun o => decide (o ∉ nm)
def takenOf (prs : Pr) (nm : List Str) : Option Str := (srt (news prs)).find? fun n => decide (n ∈ nm) && decide (n ∉ keys prs)
def fitE (prs : Pr) (nm : List Str) : Option Err := match lostOf prs nm with
  | some o => some (2, .v (.str o))
  | none => match takenOf prs nm with
    | some n => some (3, .v (.str n))
    | none => none
/-- the first of a list that is wanted, place by place -/
theorem find_at {α : Type} {p : α → Bool} {l : List α} {i : Nat} {x : α} (h : ∀ j y, j < i → l[j]? = some y → p y = false) (hx : l[i]? = some x) (hp : p x = true) : l.find? p = some x := by
  induction l generalizing i with
  | nil => cases hx
  | cons a r ih =>
    cases i with
    | zero => cases hx; rw [List.find?_cons, hp]
    | succ i =>
      rw [List.find?_cons, h 0 a (by omega) rfl]
      exact ih (fun j y hj hy => h (j + 1) y (Nat.succ_lt_succ hj) (by simpa using hy)) (by simpa using hx)
theorem find_no {α : Type} {p : α → Bool} {l : List α} (h : ∀ j y, j < l.length → l[j]? = some y → p y = false) : l.find? p = none := by
  rw [List.find?_eq_none]
  intro x hx
  obtain ⟨j, hj⟩ := List.mem_iff_getElem?.mp hx
  rw [h j x (List.getElem?_eq_some_iff.mp hj).1 hj]
  exact Bool.false_ne_true
theorem srt_filter (p : Str → Bool) (l : List Str) : srt (l.filter p) = (srt l).filter p :=
  (perm_sorted (((srt_perm l).filter p).trans (srt_perm _).symm) ((srt_pw l).filter p) (srt_pw _)).symm
theorem find_filter {α : Type} (p : α → Bool) (l : List α) : l.find? p = (l.filter p)[0]? := by
  rw [← List.head?_filter, List.head?_eq_getElem?]
theorem lost_srt (prs : Pr) (nm : List Str) : lostOf prs nm = (srt ((keys prs).filter fun o => decide (o ∉ nm)))[0]? := by
  unfold lostOf; rw [srt_filter, find_filter]
theorem taken_srt (prs : Pr) (nm : List Str) : takenOf prs nm = (srt ((news prs).filter fun n => decide (n ∈ nm) && decide (n ∉ keys prs)))[0]? := by
  unfold takenOf; rw [srt_filter, find_filter]
theorem lost_mem {prs : Pr} {nm : List Str} {o : Str} (h : lostOf prs nm = some o) : o ∈ keys prs ∧ o ∉ nm := by
  unfold lostOf at h
  have h1 := List.mem_of_find?_eq_some h
  have h2 := List.find?_some h
  exact ⟨mem_srt.mp h1, by simpa using h2⟩
theorem taken_mem {prs : Pr} {nm : List Str} {n : Str} (h : takenOf prs nm = some n) : n ∈ news prs ∧ n ∈ nm ∧ n ∉ keys prs := by
  unfold takenOf at h
  have h1 := List.mem_of_find?_eq_some h
  have h2 := List.find?_some h
  simp only [Bool.and_eq_true, decide_eq_true_eq] at h2
  exact ⟨mem_srt.mp h1, h2.1, h2.2⟩
theorem fit_none {prs : Pr} {nm : List Str} (h : fitE prs nm = none) : (∀ o ∈ keys prs, o ∈ nm) ∧ ∀ n ∈ news prs, n ∈ nm → n ∈ keys prs := by
  unfold fitE at h
  cases e : lostOf prs nm with
  | some o => rw [e] at h; cases h
  | none =>
    rw [e] at h
    cases e2 : takenOf prs nm with
    | some n => simp [e2] at h
    | none =>
      constructor
      · intro o ho
        unfold lostOf at e
        rw [List.find?_eq_none] at e
        have := e o (mem_srt.mpr ho)
        simpa using this
      · intro n hn hm
        unfold takenOf at e2
        rw [List.find?_eq_none] at e2
        have := e2 n (mem_srt.mpr hn)
        simp only [Bool.and_eq_true, decide_eq_true_eq, not_and, Classical.not_not] at this
        exact this hm
theorem fit_fine {prs : Pr} {nm : List Str} {e : Err} (pl : PlOk prs) (h : fitE prs nm = some e) (n : Nat) : FineN n e.2 := by
  unfold fitE at h
  cases e1 : lostOf prs nm with
  | some o => rw [e1] at h; cases h; exact .str (name_fine (pl.olds o (lost_mem e1).1))
  | none =>
    rw [e1] at h
    cases e2 : takenOf prs nm with
    | some m => simp only [e2] at h; cases h; exact .str (name_fine (pl.news m (taken_mem e2).1))
    | none => simp [e2] at h
/-- where a plan fits, no two names are led to one -/
theorem to_nd {prs : Pr} {nm : List Str} (pl : PlOk prs) (hn : nm.Nodup) (h : fitE prs nm = none) : (nm.filterMap (toO prs)).Nodup := by
  obtain ⟨h1, h2⟩ := fit_none h
  have inj : ∀ a ∈ nm, ∀ b ∈ nm, ∀ x, toO prs a = some x → toO prs b = some x → a = b := by
    have one : ∀ a ∈ nm, ∀ b ∈ nm, ∀ x, a ∈ keys prs → b ∉ keys prs → toO prs a = some x → toO prs b = some x → False := by
      intro a ha b hb x ka kb e1 e2
      obtain ⟨v, hv⟩ := lk_of_key ka
      have hv' : v = some x := by unfold toO at e1; rw [hv] at e1; exact e1
      have hbx : b = x := by unfold toO at e2; rw [lk_none.mpr kb] at e2; exact Option.some.inj e2
      have : x ∈ news prs := List.mem_filterMap.mpr ⟨(a, v), lk_mem hv, hv'⟩
      exact kb (hbx ▸ h2 x this (hbx ▸ hb))
    intro a ha b hb x e1 e2
    by_cases ka : a ∈ keys prs <;> by_cases kb : b ∈ keys prs
    · obtain ⟨v, hv⟩ := lk_of_key ka
      obtain ⟨w, hw⟩ := lk_of_key kb
      have hv' : v = some x := by unfold toO at e1; rw [hv] at e1; exact e1
      have hw' : w = some x := by unfold toO at e2; rw [hw] at e2; exact e2
      subst hv'; subst hw'
      obtain ⟨i, hi⟩ := List.mem_iff_getElem?.mp (lk_mem hv)
      obtain ⟨j, hj⟩ := List.mem_iff_getElem?.mp (lk_mem hw)
      have key : ∀ {l : Pr} {i j : Nat} {a b : Str}, (news l).Nodup → l[i]? = some (a, some x) → l[j]? = some (b, some x) → a = b := by
        intro l
        induction l with
        | nil => intro i j a b _ h; cases h
        | cons p r ih =>
          intro i j a b nd hi hj
          have tail : ∀ {k c}, r[k]? = some (c, some x) → x ∈ news r := fun hk => List.mem_filterMap.mpr ⟨_, List.mem_of_getElem? hk, rfl⟩
          have ndr : (news r).Nodup := by
            unfold news at nd ⊢
            rw [List.filterMap_cons] at nd
            cases h : p.2 with
            | none => rw [h] at nd; exact nd
            | some z => rw [h] at nd; exact (List.nodup_cons.mp nd).2
          have hd : ∀ {c}, p = (c, some x) → x ∉ news r := fun hp => by
            unfold news at nd ⊢
            rw [List.filterMap_cons, hp] at nd
            exact (List.nodup_cons.mp nd).1
          cases i with
          | zero =>
            cases j with
            | zero => cases hi; cases hj; rfl
            | succ j => cases hi; exact absurd (tail (by simpa using hj)) (hd rfl)
          | succ i =>
            cases j with
            | zero => cases hj; exact absurd (tail (by simpa using hi)) (hd rfl)
            | succ j => exact ih ndr (by simpa using hi) (by simpa using hj)
      exact key pl.ndn hi hj
    · exact (one a ha b hb x ka kb e1 e2).elim
    · exact (one b hb a ha x kb ka e2 e1).elim
    · unfold toO at e1 e2
      rw [lk_none.mpr ka] at e1
      rw [lk_none.mpr kb] at e2
      exact (Option.some.inj e1).trans (Option.some.inj e2).symm
  clear h h1 h2
  induction nm with
  | nil => exact List.nodup_nil
  | cons a r ih =>
    rw [List.filterMap_cons]
    have ihr := ih (List.nodup_cons.mp hn).2 fun a' ha b hb x => inj a' (List.mem_cons_of_mem _ ha) b (List.mem_cons_of_mem _ hb) x
    cases e : toO prs a with
    | none => exact ihr
    | some x =>
      refine List.nodup_cons.mpr ⟨fun hx => ?_, ihr⟩
      obtain ⟨b, hb, e2⟩ := List.mem_filterMap.mp hx
      have := inj a (List.mem_cons_self ..) b (List.mem_cons_of_mem _ hb) x e e2
      exact (List.nodup_cons.mp hn).1 (this ▸ hb)
/-- things behind a plan -/
def behD (th : List (Str × V)) (prs : Pr) : List (Str × V) := th.foldl (fun (acc : List (Str × V)) (kv : Str × V) => match toO prs kv.1 with
  | none => acc
  | some n => put acc n kv.2) []
theorem behD_snoc (th : List (Str × V)) (kv : Str × V) (prs : Pr) : behD (th ++ [kv]) prs = match toO prs kv.1 with
  | none => behD th prs
  | some n => put (behD th prs) n kv.2 := by
  unfold behD
  rw [List.foldl_append]
  rfl
theorem put_len {α : Type} (th : List (Str × α)) (k : Str) (v : α) : (put th k v).length ≤ th.length + 1 := by
  unfold put
  split <;> simp
theorem behD_len (th : List (Str × V)) (prs : Pr) : (behD th prs).length ≤ th.length := by
  unfold behD
  have : ∀ (l : List (Str × V)) acc, (l.foldl (fun (acc : List (Str × V)) (kv : Str × V) => match toO prs kv.1 with
  | none => acc
  | some n => put acc n kv.2) acc).length ≤ acc.length + l.length := by
    intro l
    induction l with
    | nil => intro acc; simp
    | cons kv r ih =>
      intro acc
      rw [List.foldl_cons]
      refine Nat.le_trans (ih _) ?_
      cases toO prs kv.1 with
      | none => simp
      | some n => have := put_len acc n kv.2; simp; omega
  have := this th []
  simpa using this
/-- where no two names are led to one, in order -/
theorem behD_eq {th : List (Str × V)} {prs : Pr} (h : ((keys th).filterMap (toO prs)).Nodup) : behD th prs = th.filterMap fun kv => (toO prs kv.1).map fun n => (n, kv.2) := by
  unfold behD
  have : ∀ (l acc : List (Str × V)), (keys acc ++ (keys l).filterMap (toO prs)).Nodup → l.foldl (fun (acc : List (Str × V)) (kv : Str × V) => match toO prs kv.1 with
  | none => acc
  | some n => put acc n kv.2) acc = acc ++ l.filterMap fun kv => (toO prs kv.1).map fun n => (n, kv.2) := by
    intro l
    induction l with
    | nil => intro acc _; simp
    | cons kv r ih =>
      intro acc nd
      rw [List.foldl_cons, List.filterMap_cons]
      have ek : keys (kv :: r) = kv.1 :: keys r := rfl
      rw [ek, List.filterMap_cons] at nd
      cases e : toO prs kv.1 with
      | none => rw [e] at nd; exact ih acc nd
      | some n =>
        rw [e] at nd
        have hn : n ∉ keys acc := fun hm => (List.nodup_append.mp nd).2.2 n hm n (List.mem_cons_self ..) rfl
        dsimp only
        rw [put_new _ hn, ih]
        · simp
        · simp only [keys, List.map_append, List.map_cons, List.map_nil, List.append_assoc, List.singleton_append] at nd ⊢
          exact nd
  have := this th [] (by simpa [keys] using h)
  simpa using this
theorem keys_behD {th : List (Str × V)} {prs : Pr} (h : ((keys th).filterMap (toO prs)).Nodup) : keys (behD th prs) = (keys th).filterMap (toO prs) := by
  rw [behD_eq h]
  unfold keys
  rw [List.map_filterMap, List.filterMap_map]
  congr 1
  funext kv
  simp only [Function.comp]
  cases toO prs kv.1 <;> rfl
/-! ### promises -/
def spFits (C : Addr) (L : List Addr) : Sp := fun vs H Q E => ∃ (p a : Addr) (prs : Pr) (nm : List Str), vs = [.ref p, .ref a] ∧ PlanAt [] C H p prs ∧ PlOk prs ∧ H a = some (.lst (nm.map V.str)) ∧
  (fitE prs nm = none → ∀ H', Kp [] H H' → Q .non H') ∧ ∀ e, fitE prs nm = some e → Leave L e [] E H
def spBehind (C : Addr) (L : List Addr) : Sp := fun vs H Q E => ∃ (p a : Addr) (prs : Pr) (nm : List Str), vs = [.ref p, .ref a] ∧ PlanAt [] C H p prs ∧ PlOk prs ∧ H a = some (.lst (nm.map V.str)) ∧ nm.length ≤ 40 ∧
  (fitE prs nm = none → ∀ r H', H r = none → Kp [] H H' → H' r = some (.lst ((behL prs nm).map V.str)) → Q (.ref r) H') ∧ ∀ e, fitE prs nm = some e → Leave L e [] E H
def spLBehind : Sp := fun vs H Q _ => ∃ (d ax : Addr) (th : List (Str × V)) (prs : Pr), vs = [.ref d, .ref ax] ∧ H d = some (.dK (dS th)) ∧ (keys th).Nodup ∧ th.length ≤ 40 ∧ At [] H (.ref ax) (encPs prs) ∧ (keys prs).Nodup ∧ prs.length ≤ 40 ∧
  ∀ r H', H r = none → Kp [] H H' → H' r = some (.dK (dS (behD th prs))) → Q (.ref r) H'
end NN
namespace NN
open PySem L2
/-! ### k05: what is due -/
theorem fit_str {prs : Pr} {nm : List Str} {e : Err} (h : fitE prs nm = some e) : ∃ n, e.2 = .v (.str n) ∧ (e.1 = 2 ∨ e.1 = 3) := by
  unfold fitE at h
  cases e1 : lostOf prs nm with
  | some o => rw [e1] at h; cases h; exact ⟨o, rfl, .inl rfl⟩
  | none =>
    rw [e1] at h
    cases e2 : takenOf prs nm with
    | some m => simp only [e2] at h; cases h; exact ⟨m, rfl, .inr rfl⟩
    | none => simp [e2] at h
def dueF (prs : Pr) (nm : List Str) : D := match fitE prs nm with
  | none => .t [.v (.str "good"), .l ((behL prs nm).map fun n => .v (.str n))]
  | some e => .t [.v (.str (wrdOf e.1)), e.2]
def Nms (nm : List Str) : Prop := nm.Nodup ∧ nm.length ≤ 40 ∧ ∀ n ∈ nm, isName n = true
def spDueF : Sp := fun vs H Q _ => ∃ (ax b : Addr) (prs : Pr) (nm : List Str), vs = [.ref ax, .ref b] ∧ At [] H (.ref ax) (encPs prs) ∧ PlOk prs ∧ H b = some (.lst (nm.map V.str)) ∧ Nms nm ∧
  ∀ r H', Kp [] H H' → (∀ S, Live S H → At S H' (.ref r) (dueF prs nm)) → Q (.ref r) H'
/-- what is told at one asking: 0 fits, else behind -/
def ToldF (H H' : Hp) (r : Addr) (w : Int) (prs : Pr) (nm : List Str) : Prop := match fitE prs nm with
  | some e => ∃ n, e.2 = .v (.str n) ∧ H' r = some (.tup [.str (wrdOf e.1), .str n])
  | none => if w = 0 then H' r = some (.tup [.str "good", .non]) else ∃ l, H l = none ∧ H' l = some (.lst ((behL prs nm).map V.str)) ∧ H' r = some (.tup [.str "good", .ref l])
def spToldF (C : Addr) : Sp := fun vs H Q _ => ∃ (w : Int) (p b : Addr) (prs : Pr) (nm : List Str), vs = [.int w, .ref p, .ref b] ∧ PlanAt [] C H p prs ∧ PlOk prs ∧ H b = some (.lst (nm.map V.str)) ∧ nm.length ≤ 40 ∧
  ∀ r H', H r = none → Kp [] H H' → ToldF H H' r w prs nm → Q (.ref r) H'
def spRightF (C : Addr) : Sp := fun vs H Q _ => ∃ (p ax b : Addr) (f : Int) (prs : Pr) (nm : List Str), vs = [.ref p, .ref ax, .ref b, .int f] ∧ PlanAt [] C H p prs ∧ PlOk prs ∧ At [] H (.ref ax) (encPs prs) ∧ H b = some (.lst (nm.map V.str)) ∧ Nms nm ∧ 0 ≤ f ∧ f < 100 ∧
  ∀ H', Kp [] H H' → Q (.bl true) H'
theorem behL_dict {prs : Pr} {nm : List Str} (pl : PlOk prs) (hn : nm.Nodup) (h : fitE prs nm = none) (u : V) : srt (keys (behD (nm.map fun n => (n, u)) prs)) = behL prs nm := by
  have e : keys (nm.map fun n => (n, u)) = nm := by unfold keys; rw [List.map_map]; exact List.map_id _
  rw [keys_behD (by rw [e]; exact to_nd pl hn h), e]; rfl
theorem behL_name {prs : Pr} {nm : List Str} (pl : PlOk prs) (hn : ∀ n ∈ nm, isName n = true) : ∀ n ∈ behL prs nm, isName n = true := fun n h => by
  obtain ⟨m, hm, e⟩ := List.mem_filterMap.mp (mem_srt.mp h)
  unfold toO at e
  cases q : lk prs m with
  | none => rw [q] at e; cases e; exact hn _ hm
  | some v => rw [q] at e; exact pl.news n (List.mem_filterMap.mpr ⟨_, lk_mem q, e⟩)
theorem wrd_fine (i : Nat) : fineS (wrdOf i) := by
  have h7 : wrdOf i ∈ wrds ∨ wrdOf i = "" := by
    unfold wrdOf
    rw [List.getD_eq_getElem?_getD]
    cases q : wrds[i]? with
    | none => exact .inr rfl
    | some w => exact .inl (List.mem_of_getElem? q)
  rcases h7 with h7 | h7
  · have : wrds.all PyData.strOk = true := by decide +kernel
    exact List.all_eq_true.mp this _ h7
  · rw [h7]; exact (show PyData.strOk "" = true by decide +kernel)
theorem fine_strs {l : List Str} (h : ∀ n ∈ l, isName n = true) : FineN 1 (.l (l.map fun n => .v (.str n))) := FineN.l (n := 0) fun d hd => by
  obtain ⟨n, hn, rfl⟩ := List.mem_map.mp hd
  exact .str (name_fine (h n hn))
theorem fine_dueF {prs : Pr} {nm : List Str} (pl : PlOk prs) (hn : ∀ n ∈ nm, isName n = true) : fineD (dueF prs nm) := by
  unfold dueF
  cases e : fitE prs nm with
  | none =>
    refine FineN.fine (n := 2) (FineN.t fun d hd => ?_) (by decide)
    rcases List.mem_cons.mp hd with rfl | hd
    · exact .str (show PyData.strOk "good" = true by decide +kernel)
    · rw [List.mem_singleton.mp hd]; exact fine_strs (behL_name pl hn)
  | some e' =>
    refine FineN.fine (n := 2) (FineN.t fun d hd => ?_) (by decide)
    rcases List.mem_cons.mp hd with rfl | hd
    · exact .str (wrd_fine _)
    · rw [List.mem_singleton.mp hd]; exact fit_fine pl e 1
end NN
namespace NN
open PySem L2
theorem item_P {S S' : List Addr} {H H' : Hp} {vx : List V} {prs : Pr} {i : Nat} {z : V} (hvx : AtL S H vx (prs.map encP)) (hz : vx[i]? = some z) (k : Kp S' H H') (hs : ∀ a ∈ S', a ∈ S) : ∃ t o n, z = .ref t ∧ prs[i]? = some (o, n) ∧ H' t = some (.tup [.str o, oV n]) := by
  obtain ⟨d, hd, hzd⟩ := (hvx.kp k hs).get' hz
  rw [List.getElem?_map] at hd
  obtain ⟨⟨o, n⟩, hpp, rfl⟩ := Option.map_eq_some_iff.mp hd
  obtain ⟨t, ws, rfl, _, ht, hws⟩ := hzd.isT
  have e : ws = [.str o, oV n] := AtL.vals_eq (ws := [.str o, oV n]) hws
  subst e
  exact ⟨t, o, n, rfl, hpp, ht⟩
end NN
namespace NN
open PySem L2
theorem dS_keyV (th : List (Str × V)) : (dS th).map (fun kv => kV kv.1) = (keys th).map V.str := by
  unfold dS keys
  rw [List.map_map, List.map_map]
  rfl
theorem cut_sub (nm : List Str) (lo hi : Option Int) : ∃ ms : List Str, cutV (nm.map V.str) lo hi = ms.map V.str ∧ ms.Sublist nm := by
  unfold cutV
  exact ⟨(nm.drop _).take _, by rw [List.map_take, List.map_drop], (List.take_sublist ..).trans (List.drop_sublist ..)⟩
theorem thN {nn : List Str} {th : List (Str × V)} (hp : PoolOk nn) (ht : ThOk nn th) : ∀ n ∈ keys th, isName n = true := fun n hn => hp.2.2 n (List.mem_of_mem_take (ht.sub n hn))
theorem Nms.perm {a b : List Str} (h : Nms a) (p : b.Perm a) : Nms b := ⟨p.nodup_iff.mpr h.1, by rw [p.length_eq]; exact h.2.1, fun n hn => h.2.2 n (p.mem_iff.mp hn)⟩
theorem Nms.of_th {nn : List Str} {th : List (Str × V)} (hp : PoolOk nn) (ht : ThOk nn th) : Nms (keys th) := ⟨ht.nd, by have := ht.len; simp [keys]; omega, thN hp ht⟩
theorem Nms.fine {a : List Str} (h : Nms a) {S : List Addr} {H : Hp} : ∀ x ∈ a.map V.str, FineV S H x := fun x hx => by
  obtain ⟨n, hn, rfl⟩ := List.mem_map.mp hx
  exact FineV.str (name_fine (h.2.2 n hn))
end NN
/-! plans drawn of any names -/
namespace NN
open PySem L2
structure PoolG (ns : List Str) : Prop where
  two : 2 ≤ ns.length
  len : ns.length ≤ 40
  nd : ns.Nodup
  names : ∀ n ∈ ns, isName n = true
structure ThG (th : List (Str × V)) : Prop where
  nd : (keys th).Nodup
  names : ∀ k ∈ keys th, isName k = true
  len : th.length ≤ 20
structure PrG (ns : List Str) (th : List (Str × V)) (prs : Pr) : Prop where
  ndo : (keys prs).Nodup
  ndn : (news prs).Nodup
  len : prs.length ≤ th.length
  olds : ∀ o ∈ keys prs, o ∈ keys th
  news : ∀ n ∈ news prs, isName n = true ∧ (n ∈ keys th ∨ n ∈ ns.take 12) ∧ (n ∈ keys th → n ∈ keys prs)
theorem PoolOk.g {ns : List Str} (h : PoolOk ns) : PoolG ns := ⟨by rw [h.1]; decide, by rw [h.1]; decide, h.2.1, h.2.2⟩
theorem ThOk.g {ns : List Str} {th : List (Str × V)} (hp : PoolOk ns) (h : ThOk ns th) : ThG th := ⟨h.nd, thN hp h, by have := h.len; omega⟩
theorem PrG.pl {ns : List Str} {th : List (Str × V)} {prs : Pr} (h : PrG ns th prs) (ht : ThG th) : PlOk prs :=
  ⟨h.ndo, h.ndn, fun o ho => ht.names o (h.olds o ho), fun n hn => (h.news n hn).1, by have := h.len; have := ht.len; omega⟩
/-- such a plan fits the things -/
theorem PrG.fit {ns : List Str} {th : List (Str × V)} {prs : Pr} (h : PrG ns th prs) {nm : List Str} (hp : nm.Perm (keys th)) : fitE prs nm = none := by
  have e1 : lostOf prs nm = none := by
    unfold lostOf
    rw [List.find?_eq_none]
    intro o ho
    simpa using hp.mem_iff.mpr (h.olds o (mem_srt.mp ho))
  have e2 : takenOf prs nm = none := by
    unfold takenOf
    rw [List.find?_eq_none]
    intro n hn
    simp only [Bool.and_eq_true, decide_eq_true_eq, not_and, Classical.not_not]
    exact fun hm => (h.news n (mem_srt.mp hn)).2.2 (hp.mem_iff.mp hm)
  unfold fitE
  rw [e1]; dsimp only; rw [e2]
def spPairsG : Sp := fun vs H Q _ => ∃ (st a b : Addr) (ns : List Str) (th : List (Str × V)) (S : List Addr), vs = [.ref st, .ref a, .ref b] ∧ St1 H st ∧ H a = some (.lst (ns.map V.str)) ∧ H b = some (.dK (dS th)) ∧ PoolG ns ∧ ThG th ∧ Live S H ∧ st ∈ S ∧
  ∀ x prs H', Kp [st] H H' → St1 H' st → At S H' x (encPs prs) → PrG ns th prs → Q x H'
theorem pairs_okG {ns ms mv so so2 : List Str} {th : List (Str × V)} {prs : Pr} (hprs : mv.zip (so2.reverse.map some) = prs) (h1 : mv.Perm ms) (h2 : so2.Perm so) (hms : ms.Sublist (keys th)) (ht : ThG th) (hso1 : so.Nodup)
    (hso2 : ∀ n ∈ so, isName n = true ∧ (n ∈ keys th ∨ n ∈ ns.take 12) ∧ (n ∈ keys th → n ∈ ms)) (hso3 : ms.length ≤ so.length) : PrG ns th prs := by
  have l1 := h1.length_eq
  have l2 := h2.length_eq
  have hk : keys prs = mv := by
    rw [← hprs]; unfold keys
    exact List.map_fst_zip (by rw [List.length_map, List.length_reverse]; omega)
  have hn : news prs = so2.reverse.take mv.length := by
    rw [← hprs]; unfold news
    have e : ∀ (a : List Str) (b : List Str), (a.zip (b.map some)).filterMap (·.2) = b.take a.length := by
      intro a
      induction a with
      | nil => intro b; simp
      | cons x r ih =>
        intro b
        cases b with
        | nil => rfl
        | cons y t => show (y :: ((r.zip (t.map some)).filterMap (·.2))) = y :: t.take r.length; rw [ih]
    exact e mv so2.reverse
  refine ⟨?_, ?_, ?_, ?_, ?_⟩
  · rw [hk]; exact h1.nodup_iff.mpr (ht.nd.sublist hms)
  · rw [hn]; exact (((List.reverse_perm so2).nodup_iff.mpr (h2.nodup_iff.mpr hso1))).sublist (List.take_sublist ..)
  · have e1 : prs.length = (keys prs).length := by simp [keys]
    have e2 : th.length = (keys th).length := by simp [keys]
    have := hms.length_le
    rw [e1, hk, e2]; omega
  · intro o ho; rw [hk] at ho; exact hms.subset (h1.subset ho)
  · intro n hnn
    rw [hn] at hnn
    have := hso2 n (h2.subset (List.mem_reverse.mp (List.mem_of_mem_take hnn)))
    exact ⟨this.1, this.2.1, fun z => by rw [hk]; exact h1.symm.subset (this.2.2 z)⟩
theorem cutN_okG {ns : List Str} {th : List (Str × V)} {prs : Pr} {bs : List Bool} (h : prs.length = bs.length) (k : PrG ns th prs) : PrG ns th (cutN prs bs) := by
  refine ⟨by rw [cutN_keys h]; exact k.ndo, k.ndn.sublist cutN_news, ?_, by rw [cutN_keys h]; exact k.olds, fun n hn => by rw [cutN_keys h]; exact k.news n (cutN_news.subset hn)⟩
  have e1 : (cutN prs bs).length = (keys (cutN prs bs)).length := by simp [keys]
  have e2 : prs.length = (keys prs).length := by simp [keys]
  rw [e1, cutN_keys h, ← e2]; exact k.len
theorem pairs_of_g {vs : List V} {H : Hp} {Q : VK} {E : XK} (h : spPairs vs H Q E) : spPairsG vs H Q E := by
  obtain ⟨st, a, b, ns, th, S, rfl, hst, ha, hb, hp, ht, hl, hS, q⟩ := h
  refine ⟨st, a, b, ns, th, S, rfl, hst, ha, hb, hp.g, ht.g hp, hl, hS, fun x prs H' k hst' hx hpr => q x prs H' k hst' hx ⟨hpr.ndo, hpr.ndn, by have := hpr.len; have := ht.len; omega, hpr.olds, fun n hn => ⟨?_, (hpr.news n hn).2.2⟩⟩⟩
  rcases (hpr.news n hn).2.1 with h | h
  · have h2 := ht.sub n h
    have h3 : ns.take 10 = (ns.take 12).take 10 := by rw [List.take_take]; rfl
    rw [h3] at h2
    exact List.mem_of_mem_take h2
  · exact h
end NN
/-! texts cut at a sign -/
namespace NN
open PySem L2
def cutL (c : Nat) : List Nat → List (List Nat)
  | [] => [[]]
  | y :: r => if y = c then [] :: cutL c r else match cutL c r with
    | [] => [[y]]
    | p :: q => (y :: p) :: q
theorem cutL_ne (c : Nat) (l : List Nat) : cutL c l ≠ [] := by
  cases l with
  | nil => exact List.cons_ne_nil _ _
  | cons y r =>
    unfold cutL
    split
    · exact List.cons_ne_nil _ _
    · split <;> exact List.cons_ne_nil _ _
theorem cutL_hit (c : Nat) (r : List Nat) : cutL c (c :: r) = [] :: cutL c r := by rw [cutL, if_pos rfl]
theorem cutL_miss {c y : Nat} {r p : List Nat} {q : List (List Nat)} (h : y ≠ c) (e : cutL c r = p :: q) : cutL c (y :: r) = (y :: p) :: q := by rw [cutL, if_neg h, e]
theorem occ_one (x : Str) (c limit : Nat) : ∀ (l : List Nat) (st : Array Nat × Nat), (∀ i ∈ l, st.2 ≤ i) → l.Pairwise (· < ·) → st.1.size + l.length ≤ limit →
    (forIn l st (StrLaws.occBody x ⟨#[c]⟩ x.length limit)).run.fst.toList = st.1.toList ++ l.filter fun i => decide (x.cps.toList[i]? = some c)
  | [], st, _, _, _ => by simp
  | a :: l, st, h1, h2, h3 => by
    rw [List.forIn_cons]
    unfold StrLaws.occBody
    have ha := h1 a (List.mem_cons_self ..)
    rw [List.length_cons] at h3
    have tl := (List.pairwise_cons.mp h2)
    by_cases e : x.cps.toList[a]? = some c
    · have q := (StrLaws.subAt_one x c a).mpr e
      rw [if_pos ⟨⟨⟨by omega, ha⟩, q.1⟩, q.2⟩]
      refine (occ_one x c limit l (st.1.push a, a + 1) (fun i hi => ?_) tl.2 (by simp; omega)).trans ?_
      · have := tl.1 i hi
        show a + 1 ≤ i
        omega
      · rw [Array.toList_push, List.filter_cons, if_pos (by simp [e])]; simp
    · rw [if_neg fun z => e ((StrLaws.subAt_one x c a).mp ⟨z.1.2, z.2⟩)]
      refine (occ_one x c limit l (st.1, st.2) (fun i hi => h1 i (List.mem_cons_of_mem _ hi)) tl.2 (by show st.1.size + l.length ≤ limit; omega)).trans ?_
      rw [List.filter_cons, if_neg (by rw [decide_eq_true_eq]; exact e)]
/-- the places of c in x, from a on -/
def plc (x : Str) (c a : Nat) : List Nat := (List.range' a (x.length + 1 - a)).filter fun i => decide (x.cps.toList[i]? = some c)
theorem len_cps (x : Str) : x.cps.toList.length = x.length := by show _ = x.cps.size; simp
theorem occ_plc (x : Str) (c : Nat) : Builtin.Str.occurrences x ⟨#[c]⟩ 0 x.length (x.length + 1) = plc x c 0 := by
  rw [StrLaws.occ_eq, occ_one x c (x.length + 1) _ _ (fun i _ => Nat.zero_le _) List.pairwise_lt_range' (by simp)]
  simp [plc]
theorem sub_tx (x : Str) (a b : Nat) : Builtin.Str.strSub x a b = tx ((x.cps.toList.drop a).take (b - a)) := by
  apply Str.ext'
  apply Array.toList_inj.mp
  rw [StrLaws.strSub_toList]
  rfl
theorem plc_ge (x : Str) (c a : Nat) : ∀ i ∈ plc x c a, a ≤ i := fun i hi => by
  have := (List.mem_filter.mp hi).1
  rw [List.mem_range'_1] at this
  exact this.1
theorem parts_plc (x : Str) (c : Nat) : ∀ (k a : Nat), x.length - a = k → a ≤ x.length → StrLaws.partsFrom x 1 a (plc x c a) = (cutL c (x.cps.toList.drop a)).map tx := by
  intro k
  induction k with
  | zero =>
    intro a hk ha
    have ea : a = x.length := by omega
    have hn : x.cps.toList[a]? = none := by rw [List.getElem?_eq_none_iff, len_cps]; omega
    have ep : plc x c a = [] := by
      unfold plc
      rw [show x.length + 1 - a = 1 by omega]
      show (List.filter _ [a]) = []
      rw [List.filter_cons, if_neg (by rw [decide_eq_true_eq, hn]; exact fun z => nomatch z)]
      rfl
    rw [ep, List.drop_of_length_le (by rw [len_cps]; omega)]
    show [Builtin.Str.strSub x a x.length] = [tx []]
    rw [sub_tx, List.drop_of_length_le (by rw [len_cps]; omega), List.take_nil]
  | succ k ih =>
    intro a hk ha
    have hal : a < x.cps.toList.length := by rw [len_cps]; omega
    obtain ⟨y, hy⟩ : ∃ y, x.cps.toList[a]? = some y := ⟨_, List.getElem?_eq_getElem hal⟩
    have hd : x.cps.toList.drop a = y :: x.cps.toList.drop (a + 1) := by
      rw [List.drop_eq_getElem_cons hal]
      rw [(List.getElem?_eq_some_iff.mp hy).2]
    have er : List.range' a (x.length + 1 - a) = a :: List.range' (a + 1) (x.length + 1 - (a + 1)) := by
      rw [show x.length + 1 - a = (x.length + 1 - (a + 1)) + 1 by omega, List.range'_succ]
    have ih' := ih (a + 1) (by omega) (by omega)
    rw [hd]
    by_cases e : y = c
    · subst e
      have ep : plc x y a = a :: plc x y (a + 1) := by
        unfold plc
        rw [er, List.filter_cons, if_pos (by simp [hy])]
      rw [ep]
      show Builtin.Str.strSub x a a :: StrLaws.partsFrom x 1 (a + 1) (plc x y (a + 1)) = _
      rw [ih', sub_tx, cutL_hit]
      simp
    · have ep : plc x c a = plc x c (a + 1) := by
        unfold plc
        rw [er, List.filter_cons, if_neg (by rw [decide_eq_true_eq, hy]; exact fun z => e (Option.some.inj z))]
      rw [ep]
      have first : ∀ b, a + 1 ≤ b → Builtin.Str.strSub x a b = tx (y :: ((x.cps.toList.drop (a + 1)).take (b - (a + 1)))) := fun b hb => by
        rw [sub_tx, hd, show b - a = (b - (a + 1)) + 1 by omega, List.take_succ_cons]
      have hge := plc_ge x c (a + 1)
      cases hp : plc x c (a + 1) with
      | nil =>
        rw [hp] at ih'
        have ih2 : [Builtin.Str.strSub x (a + 1) x.length] = (cutL c (x.cps.toList.drop (a + 1))).map tx := ih'
        show [Builtin.Str.strSub x a x.length] = _
        rw [first _ (by omega)]
        rw [sub_tx] at ih2
        cases hq : cutL c (x.cps.toList.drop (a + 1)) with
        | nil => exact absurd hq (cutL_ne c _)
        | cons p q =>
          rw [hq] at ih2
          cases q with
          | cons _ _ => simp at ih2
          | nil =>
            have e2 : tx ((x.cps.toList.drop (a + 1)).take (x.length - (a + 1))) = tx p := by simpa using ih2
            have e3 : (x.cps.toList.drop (a + 1)).take (x.length - (a + 1)) = p := by
              have := congrArg (fun s : Str => s.cps.toList) e2
              simpa [tx] using this
            rw [e3, cutL_miss e hq]; rfl
      | cons b r =>
        rw [hp] at ih' hge
        have hb := hge b (List.mem_cons_self ..)
        have ih2 : Builtin.Str.strSub x (a + 1) b :: StrLaws.partsFrom x 1 (b + 1) r = (cutL c (x.cps.toList.drop (a + 1))).map tx := ih'
        show Builtin.Str.strSub x a b :: StrLaws.partsFrom x 1 (b + 1) r = _
        rw [first _ hb]
        rw [sub_tx] at ih2
        cases hq : cutL c (x.cps.toList.drop (a + 1)) with
        | nil => exact absurd hq (cutL_ne c _)
        | cons p q =>
          rw [hq] at ih2
          obtain ⟨e2, e4⟩ := List.cons.inj ih2
          have e3 : (x.cps.toList.drop (a + 1)).take (b - (a + 1)) = p := by
            have := congrArg (fun s : Str => s.cps.toList) e2
            simpa [tx] using this
          rw [e3, e4, cutL_miss e hq]; rfl
/-- cut at one sign -/
theorem split_one (x : Str) (c : Nat) (hc : c < 256) : Txt.split x ⟨#[c]⟩ = (cutL c x.cps.toList).map tx := by
  have key := parts_plc x c x.length 0 (by omega) (Nat.zero_le _)
  rw [List.drop_zero] at key
  have whole : plc x c 0 = [] → [x] = (cutL c x.cps.toList).map tx := fun h => by
    rw [← key, h]
    show _ = [Builtin.Str.strSub x 0 x.length]
    rw [StrLaws.sub_whole]
  have kind : Builtin.Str.strKind ⟨#[c]⟩ = 1 := by
    unfold Builtin.Str.strKind
    rw [if_pos (by simp; exact hc)]
  have kx : ¬ Builtin.Str.strKind x < 1 := by unfold Builtin.Str.strKind; split <;> (try split) <;> decide
  unfold Txt.split
  rw [occ_plc, kind]
  by_cases h0 : x.length < 1
  · rw [if_pos (by show (decide (x.length < 1) || _) = true; simp [h0])]
    refine whole ?_
    unfold plc
    have : x.cps.toList = [] := List.eq_nil_of_length_eq_zero (by rw [len_cps]; omega)
    rw [this]; simp
  · rw [if_neg (by show ¬ ((decide (x.length < 1) || decide (Builtin.Str.strKind x < 1)) = true); simp [h0, kx])]
    by_cases h1 : (plc x c 0).isEmpty = true
    · rw [if_pos h1]
      exact whole (List.isEmpty_iff.mp h1)
    · rw [if_neg h1, StrLaws.partsBetween_eq]
      exact key
/-- cut where it was joined -/
theorem cutL_none {c : Nat} : ∀ {l : List Nat}, c ∉ l → cutL c l = [l]
  | [], _ => rfl
  | y :: r, h => cutL_miss (fun e => h (e ▸ List.mem_cons_self ..)) (cutL_none fun hr => h (List.mem_cons_of_mem _ hr))
theorem cutL_app {c : Nat} {r : List Nat} : ∀ {l : List Nat}, c ∉ l → cutL c (l ++ c :: r) = l :: cutL c r
  | [], _ => cutL_hit c r
  | y :: l, h => cutL_miss (r := l ++ c :: r) (fun e => h (e ▸ List.mem_cons_self ..)) (cutL_app fun hr => h (List.mem_cons_of_mem _ hr))
/-- rows, each with the sign behind it -/
theorem cutL_rows {c : Nat} : ∀ {ls : List (List Nat)}, (∀ l ∈ ls, c ∉ l) → cutL c (ls.map fun l => l ++ [c]).flatten = ls ++ [[]]
  | [], _ => rfl
  | l :: ls, h => by
    show cutL c ((l ++ [c]) ++ (ls.map fun l => l ++ [c]).flatten) = _
    rw [List.append_assoc, List.singleton_append, cutL_app (h l (List.mem_cons_self ..)), cutL_rows fun m hm => h m (List.mem_cons_of_mem _ hm)]
    rfl
theorem cutL_free {c : Nat} : ∀ (l : List Nat), ∀ p ∈ cutL c l, c ∉ p
  | [] => fun p hp => by
    have : p = [] := by simpa [cutL] using hp
    rw [this]; simp
  | y :: r => fun p hp => by
    by_cases e : y = c
    · subst e
      rw [cutL_hit] at hp
      rcases List.mem_cons.mp hp with rfl | hp
      · simp
      · exact cutL_free r p hp
    · cases hq : cutL c r with
      | nil => exact absurd hq (cutL_ne c _)
      | cons a q =>
        rw [cutL_miss e hq] at hp
        have ih := cutL_free (c := c) r
        rw [hq] at ih
        rcases List.mem_cons.mp hp with rfl | hp
        · simp only [List.mem_cons, not_or]
          exact ⟨fun z => e z.symm, ih a (List.mem_cons_self ..)⟩
        · exact ih p (List.mem_cons_of_mem _ hp)
end NN
/-! plans as rows of text -/
namespace NN
open PySem L2
def spl (c : Nat) (x : Str) : List Str := (cutL c x.cps.toList).map tx
theorem split_sp (x : Str) : Txt.split x " " = spl 32 x := split_one x 32 (by decide)
theorem split_nl (x : Str) : Txt.split x "\n" = spl 10 x := split_one x 10 (by decide)
theorem cutL_len {c : Nat} : ∀ (l : List Nat), (cutL c l).length ≤ l.length + 1 ∧ ∀ p ∈ cutL c l, p.length ≤ l.length
  | [] => by simp [cutL]
  | y :: r => by
    obtain ⟨h1, h2⟩ := cutL_len (c := c) r
    by_cases e : y = c
    · subst e
      rw [cutL_hit]
      refine ⟨by simp; omega, fun p hp => ?_⟩
      rcases List.mem_cons.mp hp with rfl | hp
      · simp
      · have := h2 p hp; simp; omega
    · cases hq : cutL c r with
      | nil => exact absurd hq (cutL_ne c _)
      | cons a q =>
        rw [hq] at h1 h2
        rw [cutL_miss e hq]
        refine ⟨by simp at h1 ⊢; omega, fun p hp => ?_⟩
        rcases List.mem_cons.mp hp with rfl | hp
        · have := h2 a (List.mem_cons_self ..); simp; omega
        · have := h2 p (List.mem_cons_of_mem _ hp); simp; omega
theorem spl_len (c : Nat) (x : Str) : (spl c x).length ≤ x.length + 1 ∧ ∀ p ∈ spl c x, p.length ≤ x.length := by
  obtain ⟨h1, h2⟩ := cutL_len (c := c) x.cps.toList
  rw [len_cps] at h1 h2
  refine ⟨by unfold spl; rw [List.length_map]; exact h1, fun p hp => ?_⟩
  obtain ⟨l, hl, rfl⟩ := List.mem_map.mp hp
  rw [tx_len]; exact h2 l hl
theorem spl_ne (c : Nat) (x : Str) : spl c x ≠ [] := by
  unfold spl
  intro h
  exact cutL_ne c _ (List.map_eq_nil_iff.mp h)
def pairOf (row : Str) : Option (Str × Option Str) := match spl 32 row with
  | [a, b] => if isName a = true then (if b = "-" then some (a, none) else if isName b = true then some (a, some b) else none) else none
  | _ => none
def clash (seen : Pr) (spare : Option Str) (p : Str × Option Str) : Bool :=
  decide (p.1 ∈ keys seen) || (match p.2 with | none => false | some n => decide (n ∈ NN.news seen)) || (match spare with | none => false | some s => decide (s = p.1) || decide (p.2 = some s))
/-- rows read: a plan's pairs, or the number of the first bad one -/
def rdL (spare : Option Str) (seen : Pr) : List Str → Pr ⊕ Nat
  | [] => .inl seen
  | r :: rs => match pairOf r with
    | none => .inr seen.length
    | some p => if clash seen spare p = true then .inr seen.length else rdL spare (seen ++ [p]) rs
theorem pairOf_ok {row : Str} {p : Str × Option Str} (h : pairOf row = some p) : isName p.1 = true ∧ ∀ n, p.2 = some n → isName n = true := by
  unfold pairOf at h
  split at h
  · split at h
    · rename_i ha
      split at h
      · cases h; exact ⟨ha, fun _ z => nomatch z⟩
      · split at h
        · rename_i hb; cases h; exact ⟨ha, fun _ z => by cases z; exact hb⟩
        · cases h
    · cases h
  · cases h
structure SeenOk (spare : Option Str) (seen : Pr) : Prop where
  ndo : (keys seen).Nodup
  ndn : (NN.news seen).Nodup
  names : ∀ p ∈ seen, isName p.1 = true ∧ ∀ n, p.2 = some n → isName n = true
  sp : ∀ s, spare = some s → s ∉ keys seen ∧ s ∉ NN.news seen
theorem SeenOk.nil (spare : Option Str) : SeenOk spare [] := ⟨List.nodup_nil, List.nodup_nil, fun _ h => (nomatch h), fun _ _ => ⟨by simp [keys], by simp [NN.news]⟩⟩
theorem SeenOk.snoc {spare : Option Str} {seen : Pr} {p : Str × Option Str} (h : SeenOk spare seen) (hn : isName p.1 = true ∧ ∀ n, p.2 = some n → isName n = true) (c : clash seen spare p = false) : SeenOk spare (seen ++ [p]) := by
  unfold clash at c
  obtain ⟨o, n⟩ := p
  simp only [Bool.or_eq_false_iff, decide_eq_false_iff_not] at c
  obtain ⟨⟨c1, c2⟩, c3⟩ := c
  have ek : keys (seen ++ [(o, n)]) = keys seen ++ [o] := by simp [keys]
  have en : NN.news (seen ++ [(o, n)]) = NN.news seen ++ n.toList := by
    unfold NN.news; rw [List.filterMap_append]; cases n <;> rfl
  refine ⟨?_, ?_, ?_, ?_⟩
  · rw [ek]; exact List.nodup_append.mpr ⟨h.ndo, by simp, fun a ha b hb e => c1 (by simp at hb; rw [← hb, ← e]; exact ha)⟩
  · rw [en]
    cases n with
    | none => simpa using h.ndn
    | some m =>
      refine List.nodup_append.mpr ⟨h.ndn, by simp, fun a ha b hb e => ?_⟩
      simp at hb c2
      exact c2 (hb ▸ e ▸ ha)
  · intro q hq
    rcases List.mem_append.mp hq with hq | hq
    · exact h.names q hq
    · rw [List.mem_singleton.mp hq]; exact hn
  · intro s hs
    subst hs
    obtain ⟨h1, h2⟩ := h.sp s rfl
    simp only [Bool.or_eq_false_iff, decide_eq_false_iff_not] at c3
    rw [ek, en]
    constructor
    · simp only [List.mem_append, List.mem_singleton, not_or]; exact ⟨h1, c3.1⟩
    · simp only [List.mem_append, not_or]
      refine ⟨h2, ?_⟩
      cases n with
      | none => simp
      | some m => simp; exact fun e => c3.2 (by rw [e])
theorem rdL_ok {spare : Option Str} : ∀ {rows : List Str} {seen prs : Pr}, SeenOk spare seen → rdL spare seen rows = .inl prs → SeenOk spare prs ∧ prs.length = seen.length + rows.length
  | [], seen, prs, h, e => by cases e; exact ⟨h, rfl⟩
  | r :: rs, seen, prs, h, e => by
    unfold rdL at e
    cases hp : pairOf r with
    | none => rw [hp] at e; cases e
    | some p =>
      rw [hp] at e
      dsimp only at e
      by_cases c : clash seen spare p = true
      · rw [if_pos c] at e; cases e
      · rw [if_neg c] at e
        have := rdL_ok (h.snoc (pairOf_ok hp) (by simpa using c)) e
        refine ⟨this.1, ?_⟩
        have h2 := this.2
        simp at h2 ⊢
        omega
theorem SeenOk.pl {spare : Option Str} {prs : Pr} (h : SeenOk spare prs) (hl : prs.length ≤ 40) : PlOk prs :=
  ⟨h.ndo, h.ndn, fun o ho => by obtain ⟨p, hp, rfl⟩ := List.mem_map.mp ho; exact (h.names p hp).1, fun n hn => by obtain ⟨p, hp, e⟩ := List.mem_filterMap.mp hn; exact (h.names p hp).2 n e, hl⟩
/-! ### promises -/
def spPairOf : Sp := fun vs H Q _ => ∃ row : Str, vs = [.str row] ∧ row.length ≤ 50000 ∧ fineS row ∧
  (pairOf row = none → ∀ H', Kp [] H H' → Q .non H') ∧ ∀ o n, pairOf row = some (o, n) → ∀ t H', H t = none → Kp [] H H' → H' t = some (.tup [.str o, oV n]) → Q (.ref t) H'
def spPlanOf (C : Addr) (L : List Addr) : Sp := fun vs H Q E => ∃ (a : Addr) (rows : List Str) (b : Int) (spare : Option Str), vs = [.ref a, .int b, oV spare] ∧ H a = some (.lst (rows.map V.str)) ∧ rows.length ≤ 40 ∧ (∀ r ∈ rows, r.length ≤ 50000 ∧ fineS r) ∧ (∀ s, spare = some s → fineS s) ∧
  0 ≤ b ∧ b ≤ 100000 ∧ (∀ prs, rdL spare [] rows = .inl prs → ∀ r H', H r = none → Kp [] H H' → (∀ S, Live S H → PlanAt S C H' r prs) → Q (.ref r) H') ∧
  ∀ k : Nat, rdL spare [] rows = .inr k → Leave L (6, .v (.int (b + k))) [] E H
def rowS (p : Str × Option Str) : Str := match p.2 with
  | none => p.1 ++ " -"
  | some n => (p.1 ++ " ") ++ n
def spRowOf : Sp := fun vs H Q _ => ∃ (o : Str) (n : Option Str), vs = [.str o, oV n] ∧ o.length ≤ 100 ∧ (∀ m, n = some m → m.length ≤ 100) ∧ Q (.str (rowS (o, n))) H
def txtOf (prs : Pr) : Str := Txt.join "" ((byOlds prs).map fun p => rowS p ++ "\n")
def spWritten (C : Addr) : Sp := fun vs H Q _ => ∃ (p : Addr) (prs : Pr), vs = [.ref p] ∧ PlanAt [] C H p prs ∧ PlOk prs ∧ ∀ H', Kp [] H H' → Q (.str (txtOf prs)) H'
/-- a text read: its plan, or the number of the first bad row -/
def rdT (x : Str) : Pr ⊕ Nat := match rdL none [] (spl 10 x).dropLast with
  | .inr k => .inr k
  | .inl prs => if (spl 10 x).getLast? = some ("" : Str) then .inl prs else .inr ((spl 10 x).length - 1)
def spRead (C : Addr) (L : List Addr) : Sp := fun vs H Q E => ∃ x : Str, vs = [.str x] ∧ x.length ≤ 50000 ∧ fineS x ∧ (spl 10 x).length ≤ 40 ∧
  (∀ prs, rdT x = .inl prs → ∀ r H', H r = none → Kp [] H H' → (∀ S, Live S H → PlanAt S C H' r prs) → Q (.ref r) H') ∧
  ∀ k : Nat, rdT x = .inr k → Leave L (6, .v (.int k)) [] E H
theorem cutV_last {xs : List V} : cutV xs none (some (-1)) = xs.dropLast := by
  rw [List.dropLast_eq_take]
  unfold cutV
  have h1 : HT.sIx xs.length 0 none = 0 := rfl
  have h2 : HT.sIx xs.length xs.length (some (-1)) = xs.length - 1 := by show (if (-1 : Int) < 0 then ((-1 : Int) + (xs.length : Int)).toNat else min ((-1 : Int).toNat) xs.length) = _; rw [if_pos (by decide)]; omega
  rw [h1, h2, List.drop_zero, Nat.sub_zero]
end NN
namespace NN
open PySem L2
theorem sum_le_mul {l : List Str} {n : Nat} (h : ∀ s ∈ l, s.length ≤ n) : (l.map (·.length)).sum ≤ l.length * n := by
  induction l with
  | nil => simp
  | cons a r ih =>
    have h1 := h a (List.mem_cons_self ..)
    have h2 := ih fun s hs => h s (List.mem_cons_of_mem _ hs)
    rw [List.map_cons, List.sum_cons, List.length_cons, Nat.succ_mul]
    omega
end NN
namespace NN
open PySem L2
theorem inV_pair (s o : Str) (n : Option Str) : inV (.str s) [.str o, oV n] = (decide (s = o) || decide (n = some s)) := by
  have h := inV_append (.str s) [.str o] [oV n]
  have h1 := inV_strs s [o]
  have h2 := inV_news s [(o, n)]
  rw [show [V.str o, oV n] = [V.str o] ++ [oV n] from rfl, h]
  rw [show [V.str o] = [o].map V.str from rfl, h1, show [oV n] = [(o, n)].map (fun p => oV p.2) from rfl, h2]
  unfold NN.news
  cases n with
  | none => simp
  | some m => simp [eq_comm]
theorem flat_pair (o : Str) (n : Option Str) : [V.str o, oV n].all flatV = true := by cases n <;> rfl
theorem log_lt {n : Nat} (h : n < 2 ^ 20) : n.log2 < 1920 := by
  by_cases h0 : n = 0
  · subst h0; decide +kernel
  · exact (Nat.log2_lt h0).mpr (Nat.lt_trans h (Nat.pow_lt_pow_right (by decide) (by decide)))
end NN
namespace NN
open PySem L2
theorem cutL_sub {c : Nat} : ∀ (l : List Nat), ∀ p ∈ cutL c l, ∀ x ∈ p, x ∈ l
  | [] => fun p hp x hx => by
    have : p = [] := by simpa [cutL] using hp
    rw [this] at hx; exact hx
  | y :: r => fun p hp x hx => by
    by_cases e : y = c
    · subst e
      rw [cutL_hit] at hp
      rcases List.mem_cons.mp hp with rfl | hp
      · cases hx
      · exact List.mem_cons_of_mem _ (cutL_sub r p hp x hx)
    · cases hq : cutL c r with
      | nil => exact absurd hq (cutL_ne c _)
      | cons a q =>
        rw [cutL_miss e hq] at hp
        have ih := cutL_sub (c := c) r
        rw [hq] at ih
        rcases List.mem_cons.mp hp with rfl | hp
        · rcases List.mem_cons.mp hx with rfl | hx
          · exact List.mem_cons_self ..
          · exact List.mem_cons_of_mem _ (ih a (List.mem_cons_self ..) x hx)
        · exact List.mem_cons_of_mem _ (ih p (List.mem_cons_of_mem _ hp) x hx)
end NN
namespace NN
open PySem L2
theorem clash_old {seen : Pr} {spare : Option Str} {o : Str} {n : Option Str} (h : o ∈ keys seen) : clash seen spare (o, n) = true := by
  unfold clash; simp [h]
theorem clash_new {seen : Pr} {spare : Option Str} {o m : Str} (h : m ∈ NN.news seen) : clash seen spare (o, some m) = true := by
  unfold clash; simp [h]
theorem clash_sp {seen : Pr} {s o : Str} {n : Option Str} (h : (decide (s = o) || decide (n = some s)) = true) : clash seen (some s) (o, n) = true := by
  unfold clash; simp only [h, Bool.or_true]
theorem clash_no {seen : Pr} {spare : Option Str} {o : Str} {n : Option Str} (h1 : o ∉ keys seen) (h2 : ∀ m, n = some m → m ∉ NN.news seen) (h3 : ∀ s, spare = some s → (decide (s = o) || decide (n = some s)) = false) : clash seen spare (o, n) = false := by
  unfold clash
  have a1 : decide ((o, n).1 ∈ keys seen) = false := decide_eq_false h1
  rw [a1]
  cases n with
  | none =>
    cases spare with
    | none => rfl
    | some s => have := h3 s rfl; simpa using this
  | some m =>
    have a2 := h2 m rfl
    cases spare with
    | none => simp [a2]
    | some s => have := h3 s rfl; simp [a2] at this ⊢; exact this
end NN
namespace NN
open PySem L2
theorem Leave.after {L : List Addr} {e : Err} {S : List Addr} {E : XK} {H H2 : Hp} (h : Leave L e S E H) (k : Kp S H H2) (l : ∀ s ∈ S, H2 s ≠ none) : Leave L e S E H2 := fun C d fs H' hC k' hf hv =>
  h C d fs H' hC (k.trans k') hf fun f hff => (hv f hff).imp id fun ⟨h0, v, hl, hat⟩ => ⟨h0, v, hl, fun S' l' => hat S' (l'.kp k l)⟩
end NN
/-! a plan's text read again -/
namespace NN
open PySem L2
theorem keys_perm {α : Type} {a b : List (Str × α)} (p : a.Perm b) : (keys a).Perm (keys b) := p.map _
theorem news_perm {a b : Pr} (p : a.Perm b) : (NN.news a).Perm (NN.news b) := p.filterMap _
theorem lk_perm {α : Type} {a b : List (Str × α)} (p : a.Perm b) (nd : (keys b).Nodup) (k : Str) : lk a k = lk b k := by
  have nda : (keys a).Nodup := (keys_perm p).nodup_iff.mpr nd
  by_cases h : k ∈ keys b
  · obtain ⟨v, hv⟩ := lk_of_key h
    rw [hv]
    exact lk_of_mem nda (p.mem_iff.mpr (lk_mem hv))
  · rw [lk_none.mpr h, lk_none.mpr fun h' => h ((keys_perm p).mem_iff.mp h')]
theorem byOlds_perm {a b : Pr} (p : a.Perm b) (nd : (keys b).Nodup) : byOlds a = byOlds b := by
  unfold byOlds
  have e : srt (keys a) = srt (keys b) := srt_eq (keys_perm p)
  rw [e]
  refine List.map_congr_left fun k _ => ?_
  rw [lk_perm p nd]
theorem map_lk {α : Type} {l : List (Str × α)} (nd : (keys l).Nodup) (d : α) : (keys l).map (fun k => (k, (lk l k).getD d)) = l := by
  have : ∀ p ∈ l, (lk l p.1).getD d = p.2 := fun p hp => by rw [lk_of_mem nd (show (p.1, p.2) ∈ l from hp)]; rfl
  unfold keys
  rw [List.map_map]
  conv => rhs; rw [← List.map_id l]
  refine List.map_congr_left fun p hp => ?_
  show (p.1, (lk l p.1).getD d) = p
  rw [this p hp]
theorem byOlds_self {prs : Pr} (nd : (keys prs).Nodup) : (byOlds prs).Perm prs := by
  have h : byOlds prs = (srt (keys prs)).map fun k => (k, (lk prs k).getD none) := by unfold byOlds; rfl
  rw [h]
  have := (srt_perm (keys prs)).map fun k => (k, (lk prs k).getD (none : Option Str))
  rw [map_lk nd] at this
  exact this
theorem PlOk.perm {a b : Pr} (h : PlOk b) (p : a.Perm b) : PlOk a :=
  ⟨(keys_perm p).nodup_iff.mpr h.ndo, (news_perm p).nodup_iff.mpr h.ndn, fun o ho => h.olds o ((keys_perm p).mem_iff.mp ho), fun n hn => h.news n ((news_perm p).mem_iff.mp hn), by rw [p.length_eq]; exact h.len⟩
theorem perm_unmap {α β : Type} {f : α → β} {ys xs : List β} (p : ys.Perm xs) : ∀ {l : List α}, xs = l.map f → ∃ l' : List α, l'.Perm l ∧ ys = l'.map f := by
  induction p with
  | nil => intro l h; exact ⟨l, List.Perm.refl _, h⟩
  | cons x p ih =>
    intro l h
    cases l with
    | nil => cases h
    | cons a r =>
      obtain ⟨h1, h2⟩ := List.cons.inj h
      obtain ⟨l', p', e⟩ := ih h2
      exact ⟨a :: l', p'.cons a, by rw [e, h1]; rfl⟩
  | swap x y l0 =>
    intro l h
    cases l with
    | nil => cases h
    | cons a r =>
      cases r with
      | nil => cases h
      | cons b r =>
        obtain ⟨h1, h2⟩ := List.cons.inj h
        obtain ⟨h3, h4⟩ := List.cons.inj h2
        exact ⟨b :: a :: r, List.Perm.swap a b r, by rw [h1, h3, h4]; rfl⟩
  | trans p q ihp ihq =>
    intro l h
    obtain ⟨l1, p1, e1⟩ := ihq h
    obtain ⟨l2, p2, e2⟩ := ihp e1
    exact ⟨l2, p2.trans p1, e2⟩
/-! ### a row's words -/
theorem no_sp {z : Str} (h : isName z = true) (c : Nat) (hc : c < 97) : c ∉ z.cps.toList := fun hm => by
  have := (isName_iff.mp h).2.2 c hm
  rw [letters_iff] at this
  omega
theorem app_list (a b : Str) : (a ++ b).cps.toList = a.cps.toList ++ b.cps.toList := by
  show (a.cps ++ b.cps).toList = _
  simp
theorem tx_list (z : Str) : tx z.cps.toList = z := Str.ext' (Array.toList_inj.mp rfl)
theorem pair_row {p : Str × Option Str} (h1 : isName p.1 = true) (h2 : ∀ n, p.2 = some n → isName n = true) : pairOf (rowS p) = some p := by
  obtain ⟨o, n⟩ := p
  have sp : (" " : Str).cps.toList = [32] := by decide +kernel
  have sd : (" -" : Str).cps.toList = [32, 45] := by decide +kernel
  have td : tx [45] = ("-" : Str) := by decide +kernel
  cases n with
  | none =>
    have : spl 32 (rowS (o, none)) = [o, "-"] := by
      show (cutL 32 (o ++ " -").cps.toList).map tx = _
      rw [app_list, sd, cutL_app (no_sp h1 32 (by decide)), cutL_none (by decide), List.map_cons, tx_list, List.map_cons, td]
      rfl
    unfold pairOf
    rw [this]
    simp only [if_true, h1]
  | some m =>
    have hm := h2 m rfl
    have : spl 32 (rowS (o, some m)) = [o, m] := by
      show (cutL 32 ((o ++ " ") ++ m).cps.toList).map tx = _
      rw [app_list, app_list, sp, List.append_assoc, List.singleton_append, cutL_app (no_sp h1 32 (by decide)), cutL_none (no_sp hm 32 (by decide)), List.map_cons, tx_list, List.map_cons, tx_list]
      rfl
    have nd : m ≠ "-" := fun e => by
      have := no_sp hm 45 (by decide)
      rw [e] at this
      exact this (by decide +kernel)
    unfold pairOf
    rw [this]
    simp [h1, hm, nd]
theorem row_nl {p : Str × Option Str} (h1 : isName p.1 = true) (h2 : ∀ n, p.2 = some n → isName n = true) : 10 ∉ (rowS p).cps.toList := by
  obtain ⟨o, n⟩ := p
  have sp : (" " : Str).cps.toList = [32] := by decide +kernel
  have sd : (" -" : Str).cps.toList = [32, 45] := by decide +kernel
  have ho := no_sp h1 10 (by decide)
  cases n with
  | none => show 10 ∉ (o ++ " -").cps.toList; rw [app_list, sd]; simp [ho]
  | some m =>
    have hm := no_sp (h2 m rfl) 10 (by decide)
    show 10 ∉ ((o ++ " ") ++ m).cps.toList
    rw [app_list, app_list, sp]; simp [ho, hm]
theorem rdL_rows {seen : Pr} : ∀ {l : Pr}, PlOk (seen ++ l) → rdL none seen (l.map rowS) = .inl (seen ++ l)
  | [], _ => by rw [List.append_nil]; rfl
  | p :: l, h => by
    have hn := h.names p (by simp)
    show rdL none seen (rowS p :: l.map rowS) = _
    unfold rdL
    rw [pair_row hn.1 hn.2]
    dsimp only
    have hc : clash seen none p = false := by
      obtain ⟨o, n⟩ := p
      refine clash_no ?_ ?_ (fun _ z => nomatch z)
      · have := h.ndo
        simp only [keys, List.map_append, List.map_cons] at this
        intro ho
        exact (List.nodup_append.mp this).2.2 o ho o (List.mem_cons_self ..) rfl
      · intro m hm
        subst hm
        have := h.ndn
        unfold NN.news at this ⊢
        rw [List.filterMap_append, List.filterMap_cons] at this
        intro hmm
        exact (List.nodup_append.mp this).2.2 m hmm m (List.mem_cons_self ..) rfl
    rw [if_neg (by rw [hc]; exact Bool.false_ne_true)]
    have e : seen ++ p :: l = (seen ++ [p]) ++ l := by simp
    rw [e] at h ⊢
    exact rdL_rows h
theorem join_flat : ∀ (l : List Str), (Txt.join "" l).cps.toList = (l.map fun z => z.cps.toList).flatten := by
  intro l
  have e : ("" : Str).cps.toList = [] := rfl
  show (Builtin.Str.glued "" l).cps.toList = _
  rw [StrLaws.glued_eq_join]
  induction l with
  | nil => rfl
  | cons a r ih =>
    cases r with
    | nil => simp [Str.join]
    | cons b r =>
      show (a ++ "" ++ Str.join "" (b :: r)).cps.toList = _
      rw [app_list, app_list, e, ih]; simp
/-- a text of rows -/
def txR (l : Pr) : Str := Txt.join "" (l.map fun p => rowS p ++ "\n")
theorem spl_txR {l : Pr} (h : ∀ p ∈ l, isName p.1 = true ∧ ∀ n, p.2 = some n → isName n = true) : spl 10 (txR l) = l.map rowS ++ [("" : Str)] := by
  have nl : ("\n" : Str).cps.toList = [10] := by decide +kernel
  unfold spl txR
  rw [join_flat, List.map_map]
  have e : ((l.map ((fun z => z.cps.toList) ∘ fun p => rowS p ++ "\n"))) = (l.map fun p => (rowS p).cps.toList).map fun z => z ++ [10] := by
    rw [List.map_map]
    refine List.map_congr_left fun p _ => ?_
    show (rowS p ++ "\n").cps.toList = _
    rw [app_list, nl]; rfl
  rw [e, cutL_rows, List.map_append, List.map_map]
  · rfl
  · intro z hz
    obtain ⟨p, hp, rfl⟩ := List.mem_map.mp hz
    exact row_nl (h p hp).1 (h p hp).2
theorem rdT_txR {l : Pr} (h : PlOk l) : rdT (txR l) = .inl l := by
  unfold rdT
  rw [spl_txR h.names, List.dropLast_concat, rdL_rows (seen := []) (by simpa using h)]
  dsimp only [List.nil_append]
  rw [if_pos (by simp)]
theorem rowS_len {p : Str × Option Str} (h1 : isName p.1 = true) (h2 : ∀ n, p.2 = some n → isName n = true) : (rowS p).length ≤ 17 := by
  have lo := name_len h1
  unfold rowS
  cases e : p.2 with
  | none => rw [Str.length_append, show (" -" : Str).length = 2 by decide +kernel]; omega
  | some m =>
    have := name_len (h2 m e)
    rw [Str.length_append, Str.length_append, show (" " : Str).length = 1 by decide +kernel]; omega
theorem rowS_fine {p : Str × Option Str} (h1 : isName p.1 = true) (h2 : ∀ n, p.2 = some n → isName n = true) : fineS (rowS p ++ "\n") := fine_of fun c hc => by
  have nl : ("\n" : Str).cps.toList = [10] := by decide +kernel
  have sp : (" " : Str).cps.toList = [32] := by decide +kernel
  have sd : (" -" : Str).cps.toList = [32, 45] := by decide +kernel
  rw [app_list, nl] at hc
  have name : ∀ {z : Str}, isName z = true → ∀ c ∈ z.cps.toList, c < 1114112 := fun hz c hc => fine_lt (name_fine hz) c hc
  obtain ⟨o, n⟩ := p
  rcases List.mem_append.mp hc with hc | hc
  · unfold rowS at hc
    cases n with
    | none =>
      rw [app_list, sd] at hc
      rcases List.mem_append.mp hc with hc | hc
      · exact name h1 c hc
      · simp at hc; omega
    | some m =>
      rw [app_list, app_list, sp] at hc
      rcases List.mem_append.mp hc with hc | hc
      · rcases List.mem_append.mp hc with hc | hc
        · exact name h1 c hc
        · simp at hc; omega
      · exact name (h2 m rfl) c hc
  · simp at hc; omega
theorem txR_fine {l : Pr} (h : ∀ p ∈ l, isName p.1 = true ∧ ∀ n, p.2 = some n → isName n = true) : fineS (txR l) := fine_of fun c hc => by
  unfold txR at hc
  rw [join_flat, List.mem_flatten] at hc
  obtain ⟨z, hz, hc⟩ := hc
  rw [List.map_map] at hz
  obtain ⟨p, hp, rfl⟩ := List.mem_map.mp hz
  exact fine_lt (rowS_fine (h p hp).1 (h p hp).2) c hc
theorem txR_len {l : Pr} (h : ∀ p ∈ l, isName p.1 = true ∧ ∀ n, p.2 = some n → isName n = true) : (txR l).length ≤ l.length * 18 := by
  have nl : ("\n" : Str).length = 1 := by decide +kernel
  have e : (txR l).length = ((l.map fun p => rowS p ++ "\n").map (·.length)).sum := by
    show (txR l).cps.size = _
    rw [← Array.length_toList]
    unfold txR
    rw [join_flat, List.length_flatten, List.map_map]
    congr 1
  rw [e]
  have := sum_le_mul (l := l.map fun p => rowS p ++ "\n") (n := 18) fun s hs => by
    obtain ⟨p, hp, rfl⟩ := List.mem_map.mp hs
    rw [Str.length_append, nl]
    have := rowS_len (h p hp).1 (h p hp).2
    omega
  rw [List.length_map] at this
  exact this
theorem txtOf_R (prs : Pr) : txtOf prs = txR (byOlds prs) := rfl
theorem PlOk.by {prs : Pr} (h : PlOk prs) : PlOk (byOlds prs) := h.perm (byOlds_self h.ndo)
theorem byOlds_by {prs : Pr} (h : PlOk prs) : byOlds (byOlds prs) = byOlds prs := byOlds_perm (byOlds_self h.ndo) h.ndo
end NN
namespace NN
open PySem L2
theorem perm_at {S : List Addr} {H : Hp} {ys ws : List V} (p : ys.Perm ws) : ∀ {ds : List D}, AtL S H ws ds → ∃ ds' : List D, ds'.Perm ds ∧ AtL S H ys ds' := by
  induction p with
  | nil => intro ds h; exact ⟨ds, List.Perm.refl _, h⟩
  | cons x p ih =>
    intro ds h
    cases h with
    | cons h1 h2 =>
      obtain ⟨ds', p', h'⟩ := ih h2
      exact ⟨_ :: ds', p'.cons _, .cons h1 h'⟩
  | swap x y l0 =>
    intro ds h
    cases h with
    | cons h1 h2 => cases h2 with
      | cons h3 h4 => exact ⟨_, List.Perm.swap _ _ _, .cons h3 (.cons h1 h4)⟩
  | trans p q ihp ihq =>
    intro ds h
    obtain ⟨d1, p1, h1⟩ := ihq h
    obtain ⟨d2, p2, h2⟩ := ihp h1
    exact ⟨d2, p2.trans p1, h2⟩
theorem c_read {C : Addr} {L : List Addr} {l : Pr} {H : Hp} {Q : VK} {E : XK} (h : PlOk l) (hl : l.length ≤ 30) (q : ∀ r H', H r = none → Kp [] H H' → (∀ S, Live S H → PlanAt S C H' r l) → Q (.ref r) H') : qt (spRead C L) [.str (txR l)] H Q E := by
  refine ⟨txR l, rfl, by have := txR_len h.names; omega, txR_fine h.names, by rw [spl_txR h.names]; simp; omega, fun prs hp => ?_, fun k hk => ?_⟩
  · rw [rdT_txR h] at hp; cases hp; exact q
  · rw [rdT_txR h] at hk; cases hk
theorem row_or (o : Str) (n : Option Str) : ((o ++ " ") ++ (match n with | none => ("-" : Str) | some m => m)) = rowS (o, n) := by
  cases n with
  | some m => rfl
  | none =>
    apply Str.ext'
    apply Array.toList_inj.mp
    show ((o ++ " ") ++ ("-" : Str)).cps.toList = (o ++ " -").cps.toList
    rw [app_list, app_list, app_list, show (" " : Str).cps.toList = [32] by decide +kernel, show ("-" : Str).cps.toList = [45] by decide +kernel, show (" -" : Str).cps.toList = [32, 45] by decide +kernel, List.append_assoc]
    rfl
def GoodT (t : Str) : Prop := ∃ l : Pr, PlOk l ∧ byOlds l = l ∧ l.length ≤ 30 ∧ t = txR l
theorem GoodT.fine {t : Str} (h : GoodT t) : fineS t := by
  obtain ⟨l, h1, _, _, rfl⟩ := h
  exact txR_fine h1.names
theorem ok_encPs {n : Nat} {prs : Pr} (hl : prs.length ≤ 1000) (h : ∀ p ∈ prs, isName p.1 = true ∧ ∀ n, p.2 = some n → isName n = true) : okD (n + 2) (encPs prs) := .l (by simpa using hl) fun d hd => by
  obtain ⟨p, hp, rfl⟩ := List.mem_map.mp hd
  exact ok_encP (name_fine (h p hp).1) fun m hm => name_fine ((h p hp).2 m hm)
end NN
namespace NN
open PySem L2
theorem Kp.trans' {S : List Addr} {H H1 H2 : Hp} (a : Kp [] H H1) (b : Kp S H1 H2) : Kp S H H2 := (a.sub (by simp)).trans b
end NN
/-! texts that were spoilt -/
namespace NN
open PySem L2
def dueT (x : Str) : D := match rdT x with
  | .inl prs => .t [.v (.str "told"), .l ((byOlds prs).map encP)]
  | .inr k => .t [.v (.str "row"), .v (.int k)]
def nls (x : Str) : Nat := x.cps.toList.count 10
theorem cutL_count {c : Nat} : ∀ (l : List Nat), (cutL c l).length = l.count c + 1
  | [] => rfl
  | y :: r => by
    by_cases e : y = c
    · subst e
      rw [cutL_hit, List.length_cons, cutL_count r, List.count_cons_self]
    · cases hq : cutL c r with
      | nil => exact absurd hq (cutL_ne c _)
      | cons a q =>
        have ih := cutL_count (c := c) r
        rw [hq] at ih
        rw [cutL_miss e hq, List.length_cons, List.count_cons_of_ne e]
        simpa using ih
theorem spl_nls (x : Str) : (spl 10 x).length = nls x + 1 := by unfold spl nls; rw [List.length_map, cutL_count]
/-- a text that may be read: how long, how many rows -/
structure TxOk (x : Str) (n k : Nat) : Prop where
  fine : fineS x
  len : x.length ≤ n
  nl : nls x ≤ k
def spSpoilt : Sp := fun vs H Q _ => ∃ (st pl : Addr) (nn : List Str) (x : Str) (n k : Nat), vs = [.ref st, .str x, .ref pl] ∧ St1 H st ∧ H pl = some (.lst (nn.map V.str)) ∧ PoolOk nn ∧ TxOk x n k ∧ n ≤ 1000 ∧ k ≤ 20 ∧
  ∀ z H', Kp [st] H H' → St1 H' st → TxOk z (2 * n + 40) (k + 1) → Q (.str z) H'
def spDueT : Sp := fun vs H Q _ => ∃ (x : Str), vs = [.str x] ∧ TxOk x 5000 30 ∧
  ∀ r H', Kp [] H H' → (∀ S, Live S H → At S H' (.ref r) (dueT x)) → Q (.ref r) H'
theorem rdT_ok {x : Str} {prs : Pr} (h : rdT x = .inl prs) (hl : nls x ≤ 40) : PlOk prs := by
  unfold rdT at h
  cases e : rdL none [] (spl 10 x).dropLast with
  | inr k => rw [e] at h; cases h
  | inl q =>
    rw [e] at h
    dsimp only at h
    split at h
    · cases h
      obtain ⟨h1, h2⟩ := rdL_ok (SeenOk.nil none) e
      refine h1.pl ?_
      rw [List.length_dropLast, spl_nls] at h2
      simp at h2
      omega
    · cases h
theorem fine_dueT {x : Str} (hl : nls x ≤ 40) : fineD (dueT x) := by
  unfold dueT
  cases e : rdT x with
  | inl prs =>
    have pl := rdT_ok e hl
    refine FineN.fine (n := 3) (FineN.t fun d hd => ?_) (by decide)
    rcases List.mem_cons.mp hd with rfl | hd
    · exact .str (show PyData.strOk "told" = true by decide +kernel)
    · rw [List.mem_singleton.mp hd]
      exact fine_Ps fun p hp => ShP.name (o := p.1) (n := p.2) (byOlds_names pl p hp).1 (byOlds_names pl p hp).2
  | inr k =>
    refine FineN.fine (n := 1) (FineN.t (n := 0) fun d hd => ?_) (by decide)
    rcases List.mem_cons.mp hd with rfl | hd
    · exact .str (show PyData.strOk "row" = true by decide +kernel)
    · rw [List.mem_singleton.mp hd]; exact .int
theorem fine_spl {x : Str} (hf : fineS x) {c : Nat} : ∀ r ∈ spl c x, fineS r := fun r hr => by
  obtain ⟨l, hl, rfl⟩ := List.mem_map.mp hr
  exact fine_of fun y hy => fine_lt hf y (cutL_sub _ l hl y hy)
theorem TxOk.of {z : Str} {n k : Nat} (h : ∀ c ∈ z.cps.toList, c < 1114112) (hl : z.cps.toList.length ≤ n) (hk : z.cps.toList.count 10 ≤ k) : TxOk z n k := ⟨fine_of h, by rw [← len_cps]; exact hl, hk⟩
theorem TxOk.txR {l : Pr} (h : PlOk l) (hl : l.length ≤ 7) : TxOk (NN.txR l) 126 7 := by
  refine ⟨txR_fine h.names, by have := txR_len h.names; omega, ?_⟩
  have := spl_txR h.names
  have h2 := spl_nls (NN.txR l)
  rw [this] at h2
  simp at h2
  omega
/-- the reading by rows, as the law has it -/
theorem rdL_at {rows : List Str} {i : Nat} {prs : Pr} {row : Str} (h : rdL none [] rows = rdL none prs (rows.drop i)) (hr : rows[i]? = some row) :
    (pairOf row = none → rdL none [] rows = .inr prs.length) ∧ ∀ p, pairOf row = some p → (clash prs none p = true → rdL none [] rows = .inr prs.length) ∧ (clash prs none p = false → rdL none [] rows = rdL none (prs ++ [p]) (rows.drop (i + 1))) := by
  have hd : rows.drop i = row :: rows.drop (i + 1) := by
    rw [List.drop_eq_getElem_cons (List.getElem?_eq_some_iff.mp hr).1, (List.getElem?_eq_some_iff.mp hr).2]
  rw [hd] at h
  refine ⟨fun e => ?_, fun p e => ⟨fun c => ?_, fun c => ?_⟩⟩
  · rw [h]; unfold rdL; rw [e]
  · rw [h]; unfold rdL; rw [e]; dsimp only; rw [if_pos c]
  · rw [h]
    conv => lhs; unfold rdL
    rw [e]; dsimp only; rw [if_neg (by rw [c]; exact Bool.false_ne_true)]
end NN
namespace NN
open PySem L2
structure RowOk (n : Nat) (z : Str) : Prop where
  len : z.length ≤ n
  fine : fineS z
  no : 10 ∉ z.cps.toList
theorem RowOk.app {n m : Nat} {a b : Str} (h : RowOk n a) (g : RowOk m b) : RowOk (n + m) (a ++ b) :=
  ⟨by rw [Str.length_append]; have := h.len; have := g.len; omega, fine_of fun c hc => by
    rw [app_list] at hc
    rcases List.mem_append.mp hc with hc | hc
    · exact fine_lt h.fine c hc
    · exact fine_lt g.fine c hc, by rw [app_list]; simp [h.no, g.no]⟩
theorem RowOk.le {n m : Nat} {a : Str} (h : RowOk n a) (l : n ≤ m) : RowOk m a := ⟨Nat.le_trans h.len l, h.fine, h.no⟩
theorem RowOk.name {z : Str} (h : isName z = true) : RowOk 8 z := ⟨name_len h, name_fine h, no_sp h 10 (by decide)⟩
def rowB (n : Nat) (z : Str) : Bool := decide (z.length ≤ n) && (PyData.strOk z && !decide (10 ∈ z.cps.toList))
theorem RowOk.lit {n : Nat} {z : Str} (h : rowB n z = true) : RowOk n z := by
  unfold rowB at h
  simp only [Bool.and_eq_true, decide_eq_true_eq, Bool.not_eq_true', decide_eq_false_iff_not] at h
  exact ⟨h.1, h.2.1, h.2.2⟩
theorem RowOk.spl {x : Str} (hf : fineS x) : ∀ r ∈ spl 10 x, RowOk x.length r := fun r hr => ⟨(spl_len 10 x).2 r hr, fine_spl hf r hr, by
  obtain ⟨l, hl, rfl⟩ := List.mem_map.mp hr
  exact cutL_free _ l hl⟩
/-- a part of a text, at the given places -/
theorem cut_str (z : Str) (lo hi : Option Int) : ∃ l : List Nat, cutS z lo hi = tx l ∧ l.Sublist z.cps.toList := ⟨_, rfl, (List.take_sublist ..).trans (List.drop_sublist ..)⟩
theorem TxOk.sub {z : Str} {n k : Nat} {l : List Nat} (h : TxOk z n k) (s : l.Sublist z.cps.toList) : TxOk (tx l) n k :=
  .of (fun c hc => fine_lt h.fine c (s.subset hc)) (by have := s.length_le; rw [len_cps] at this; have := h.len; show l.length ≤ n; omega) (Nat.le_trans (s.count_le 10) h.nl)
theorem TxOk.mono {z : Str} {n k n' k' : Nat} (h : TxOk z n k) (hn : n ≤ n') (hk : k ≤ k') : TxOk z n' k' := ⟨h.fine, Nat.le_trans h.len hn, Nat.le_trans h.nl hk⟩
/-- a sign put between a beginning and an end -/
theorem TxOk.mid {z s : Str} {n k : Nat} {i j : Nat} (h : TxOk z n k) (hij : i ≤ j) (hs : s.length ≤ 1) (hf : fineS s) : TxOk ((tx (z.cps.toList.take i) ++ s) ++ tx (z.cps.toList.drop j)) (n + 1) (k + 1) := by
  have hcount : (z.cps.toList.take i).count 10 + (z.cps.toList.drop j).count 10 ≤ z.cps.toList.count 10 := by
    conv => rhs; rw [← List.take_append_drop i z.cps.toList, List.count_append]
    have : (z.cps.toList.drop j).Sublist (z.cps.toList.drop i) := by
      have e : z.cps.toList.drop j = (z.cps.toList.drop i).drop (j - i) := by rw [List.drop_drop]; congr 1; omega
      rw [e]; exact List.drop_sublist ..
    have := this.count_le 10
    omega
  have hl := h.len
  have hk : z.cps.toList.count 10 ≤ k := h.nl
  have zl := len_cps z
  have sl : s.cps.toList.length ≤ 1 := by rw [len_cps]; exact hs
  refine .of (fun c hc => ?_) ?_ ?_
  · rw [app_list, app_list, tx_cps, tx_cps] at hc
    rcases List.mem_append.mp hc with hc | hc
    · rcases List.mem_append.mp hc with hc | hc
      · exact fine_lt h.fine c (List.mem_of_mem_take hc)
      · exact fine_lt hf c hc
    · exact fine_lt h.fine c (List.mem_of_mem_drop hc)
  · rw [app_list, app_list, tx_cps, tx_cps, List.length_append, List.length_append, List.length_take, List.length_drop]; omega
  · rw [app_list, app_list, tx_cps, tx_cps, List.count_append, List.count_append]
    have : s.cps.toList.count 10 ≤ 1 := Nat.le_trans List.count_le_length sl
    omega
theorem TxOk.gap {z : Str} {n k : Nat} {i j : Nat} (h : TxOk z n k) (hij : i ≤ j) : TxOk (tx (z.cps.toList.take i) ++ tx (z.cps.toList.drop j)) (n + 1) (k + 1) := by
  have := h.mid (s := "") hij (by decide) (show PyData.strOk "" = true by decide +kernel)
  have e : (tx (z.cps.toList.take i) ++ ("" : Str)) = tx (z.cps.toList.take i) := by
    apply Str.ext'
    apply Array.toList_inj.mp
    show (tx (z.cps.toList.take i) ++ ("" : Str)).cps.toList = _
    rw [app_list]
    show _ ++ [] = _
    rw [List.append_nil]
  rw [e] at this
  exact this
/-- rows joined by line ends, one more behind -/
theorem TxOk.rows {rows : List Str} {n : Nat} (h : ∀ r ∈ rows, RowOk n r) (m : Nat) (hm : (rows.map (·.length)).sum + rows.length + 1 ≤ m) : TxOk (Txt.join "\n" rows ++ "\n") m (rows.length - 1 + 1) := by
  have nl : ("\n" : Str).cps.toList = [10] := by decide +kernel
  have key : ∀ (l : List Str), (∀ r ∈ l, RowOk n r) → (∀ c ∈ (Str.join "\n" l).cps.toList, c < 1114112) ∧ (Str.join "\n" l).cps.toList.length ≤ (l.map (·.length)).sum + l.length ∧ (Str.join "\n" l).cps.toList.count 10 ≤ l.length - 1 := by
    intro l
    induction l with
    | nil =>
      intro _
      have e : (Str.join "\n" []).cps.toList = [] := rfl
      rw [e]
      exact ⟨fun _ hc => (nomatch hc), Nat.zero_le _, Nat.zero_le _⟩
    | cons a r ih =>
      intro hr
      have ha := hr a (List.mem_cons_self ..)
      obtain ⟨i1, i2, i3⟩ := ih fun x hx => hr x (List.mem_cons_of_mem _ hx)
      have al := len_cps a
      have a0 : a.cps.toList.count 10 = 0 := List.count_eq_zero.mpr ha.no
      cases r with
      | nil =>
        show (∀ c ∈ a.cps.toList, _) ∧ a.cps.toList.length ≤ _ ∧ a.cps.toList.count 10 ≤ _
        refine ⟨fun c hc => fine_lt ha.fine c hc, ?_, by rw [a0]; exact Nat.zero_le _⟩
        rw [al]; simp
      | cons b r =>
        have e : (Str.join "\n" (a :: b :: r)).cps.toList = a.cps.toList ++ [10] ++ (Str.join "\n" (b :: r)).cps.toList := by
          show (a ++ "\n" ++ Str.join "\n" (b :: r)).cps.toList = _
          rw [app_list, app_list, nl]
        rw [e]
        refine ⟨fun c hc => ?_, ?_, ?_⟩
        · rcases List.mem_append.mp hc with hc | hc
          · rcases List.mem_append.mp hc with hc | hc
            · exact fine_lt ha.fine c hc
            · simp at hc; omega
          · exact i1 c hc
        · rw [List.length_append, List.length_append, al, List.map_cons, List.sum_cons, List.length_cons]
          simp only [List.length_cons, List.length_nil] at i2 ⊢
          omega
        · rw [List.count_append, List.count_append, a0]
          simp only [List.length_cons] at i3 ⊢
          have : [10].count 10 = 1 := by decide
          omega
  obtain ⟨k1, k2, k3⟩ := key rows h
  have ej : Txt.join "\n" rows = Str.join "\n" rows := StrLaws.glued_eq_join _ _
  rw [ej]
  refine .of (fun c hc => ?_) ?_ ?_
  · rw [app_list, nl] at hc
    rcases List.mem_append.mp hc with hc | hc
    · exact k1 c hc
    · simp at hc; omega
  · rw [app_list, nl, List.length_append]
    show _ + 1 ≤ m
    omega
  · rw [app_list, nl, List.count_append]
    have : [10].count 10 = 1 := by decide
    omega
end NN
namespace NN
open PySem L2
theorem spl_sum (x : Str) : ((spl 10 x).map (·.length)).sum + (spl 10 x).length ≤ x.length + 1 := by
  have := PyProof.Rows.split_weight x "\n" (by decide +kernel)
  rw [split_nl] at this
  exact this
theorem sum_sub {a b : List Str} (h : a.Sublist b) : (a.map (·.length)).sum ≤ (b.map (·.length)).sum := by
  induction h with
  | slnil => exact Nat.le_refl _
  | cons x h ih => rw [List.map_cons, List.sum_cons]; omega
  | cons_cons x h ih => rw [List.map_cons, List.map_cons, List.sum_cons, List.sum_cons]; omega
theorem sum_cut (l : List Str) {i j : Nat} (h : i ≤ j) : ((l.take i).map (·.length)).sum + ((l.drop j).map (·.length)).sum ≤ (l.map (·.length)).sum := by
  have e : (l.map (·.length)).sum = ((l.take i).map (·.length)).sum + ((l.drop i).map (·.length)).sum := by
    conv => lhs; rw [← List.take_append_drop i l, List.map_append, List.sum_append]
  have s : (l.drop j).Sublist (l.drop i) := by
    have e : l.drop j = (l.drop i).drop (j - i) := by rw [List.drop_drop]; congr 1; omega
    rw [e]; exact List.drop_sublist ..
  have := sum_sub s
  omega
end NN
/-! the deeds of a plan -/
namespace NN
open PySem L2
/-- a deed: from where, to where (none: let go) -/
abbrev Dd := Str × Option Str
def encDd (d : Dd) : D := match d.2 with
  | none => .t [.v (.str "drop"), .v (.str d.1)]
  | some n => .t [.v (.str "move"), .v (.str d.1), .v (.str n)]
def ddV (d : Dd) : List V := match d.2 with
  | none => [.str "drop", .str d.1]
  | some n => [.str "move", .str d.1, .str n]
theorem encDd_at {S : List Addr} {H : Hp} {d : Dd} {p : Addr} (hp : H p = none) (l : Live S H) : At S (upd H p (.tup (ddV d))) (.ref p) (encDd d) := by
  obtain ⟨a, n⟩ := d
  cases n with
  | none => exact At.newT hp l (AtL.two _ _)
  | some n => exact At.newT hp l (.cons (.v _) (AtL.two _ _))
/-- from where a name is led to -/
def srcs (prs : Pr) : List (Str × V) := newsD prs
def src (prs : Pr) (n : Str) : Option Str := (prs.find? fun p => decide (p.2 = some n)).map (·.1)
theorem src_mem {prs : Pr} {n o : Str} (h : src prs n = some o) : (o, some n) ∈ prs := by
  unfold src at h
  obtain ⟨p, hp, e⟩ := Option.map_eq_some_iff.mp h
  have h1 := List.mem_of_find?_eq_some hp
  have h2 : p.2 = some n := by have := List.find?_some hp; simpa using this
  subst e
  rw [← h2]; exact h1
theorem lk_newsD {prs : Pr} (nd : (news prs).Nodup) (n : Str) : lk (newsD prs) n = (src prs n).map V.str := by
  unfold newsD src
  induction prs with
  | nil => rfl
  | cons p r ih =>
    obtain ⟨o, m⟩ := p
    rw [List.filterMap_cons, List.find?_cons]
    cases m with
    | none =>
      have nd' : (news r).Nodup := nd
      simpa using ih nd'
    | some m =>
      have nd' : (news r).Nodup := by
        unfold news at nd ⊢
        rw [List.filterMap_cons] at nd
        exact (List.nodup_cons.mp nd).2
      show lk ((m, V.str o) :: _) n = _
      rw [lk_cons]
      by_cases e : m = n
      · subst e; simp
      · rw [if_neg e, ih nd']
        simp [e]
theorem src_some {prs : Pr} (nd : (news prs).Nodup) {n o : Str} (h : (o, some n) ∈ prs) : src prs n = some o := by
  have hl := lk_newsD nd n
  have : lk (newsD prs) n = some (.str o) := lk_of_mem (by rw [keys_newsD]; exact nd) (List.mem_filterMap.mpr ⟨_, h, rfl⟩)
  rw [this] at hl
  cases e : src prs n with
  | none => rw [e] at hl; cases hl
  | some o' => rw [e] at hl; cases hl; rfl
/-- the moves that lead to a name, the last one first -/
def chainL (prs : Pr) : Nat → Str → List Dd
  | 0, _ => []
  | f + 1, n => match src prs n with
    | none => []
    | some o => (o, some n) :: chainL prs f o
/-- the way back: here first; nothing leaves the last -/
structure Back (prs : Pr) (l : List Str) : Prop where
  nd : l.Nodup
  step : ∀ i a b, l[i]? = some a → l[i + 1]? = some b → nx prs a = some b
  last : ∀ z, l[l.length - 1]? = some z → nx prs z = none
theorem Back.one {prs : Pr} {n : Str} (h : nx prs n = none) : Back prs [n] := ⟨by simp, fun i a b _ h => by simp at h, fun z hz => by
  simp at hz; rw [← hz]; exact h⟩
theorem Back.cons {prs : Pr} {l : List Str} {h o : Str} (b : Back prs (h :: l)) (e : nx prs o = some h) : Back prs (o :: h :: l) := by
  refine ⟨List.nodup_cons.mpr ⟨fun hm => ?_, b.nd⟩, fun i x y hx hy => ?_, fun z hz => b.last z (by simpa using hz)⟩
  · obtain ⟨j, hj⟩ := List.mem_iff_getElem?.mp hm
    have hjl := (List.getElem?_eq_some_iff.mp hj).1
    by_cases hl : j = (h :: l).length - 1
    · have := b.last o (by rw [← hl]; exact hj)
      rw [this] at e; cases e
    · have hj1 : j + 1 < (h :: l).length := by omega
      have hn := b.step j o _ hj (List.getElem?_eq_getElem hj1)
      rw [hn] at e
      have e2 := Option.some.inj e
      have h0 : (h :: l)[0]? = some h := rfl
      have := nd_ix b.nd (i := j + 1) (j := 0) (x := h) (by rw [List.getElem?_eq_getElem hj1, e2]) h0
      omega
  · cases i with
    | zero => cases hx; cases hy; exact e
    | succ i => exact b.step i x y (by simpa using hx) (by simpa using hy)
theorem Back.len {prs : Pr} {l : List Str} (b : Back prs l) : l.length ≤ prs.length + 1 := by
  have h1 : l.dropLast.length ≤ (keys prs).length := by
    refine nd_le (b.nd.sublist (List.dropLast_sublist l)) fun x hx => ?_
    obtain ⟨i, hi⟩ := List.mem_iff_getElem?.mp hx
    have hil := (List.getElem?_eq_some_iff.mp hi).1
    rw [List.length_dropLast] at hil
    have hi2 : l[i]? = some x := by rw [List.dropLast_eq_take, List.getElem?_take_of_lt hil] at hi; exact hi
    have hj : i + 1 < l.length := by omega
    exact nx_key (b.step i x _ hi2 (List.getElem?_eq_getElem hj))
  rw [List.length_dropLast] at h1
  have : (keys prs).length = prs.length := by simp [keys]
  omega
theorem nx_of_mem {prs : Pr} (nd : (keys prs).Nodup) {a b : Str} (h : (a, some b) ∈ prs) : nx prs a = some b := by
  unfold nx; rw [lk_of_mem nd h]; rfl
/-- ring: r's moves over a spare name -/
def ringD1 (r : List Str) (sp : Str) : List Dd :=
  [(r.getD (r.length - 1) "", some sp)] ++ ((List.range (r.length - 1)).map fun k => (r.getD (r.length - 2 - k) "", some (r.getD (r.length - 1 - k) ""))) ++ [(sp, some (r.getD 0 ""))]
def dropsL (prs : Pr) : List Dd := ((byOlds prs).filter fun p => p.2.isNone).map fun p => (p.1, none)
def spS (sp : Option Str) : Str := sp.getD ""
noncomputable def deedsL (prs : Pr) (sp : Option Str) : List Dd :=
  dropsL prs ++ ((srt (news prs)).filter fun n => decide (n ∉ keys prs)).flatMap (chainL prs 50) ++ (((byOlds prs).filter fun p => p.2.isNone).map (·.1)).flatMap (chainL prs 50) ++ (rings prs).flatMap fun r => ringD1 r (spS sp)
noncomputable def spareE (prs : Pr) (nm : List Str) (sp : Option Str) : Option Err := match sp with
  | some s => if isName s = true then (if s ∈ nm ∨ s ∈ news prs then some (3, .v (.str s)) else none) else some (0, .v .non)
  | none => match rings prs with
    | [] => none
    | r :: _ => some (5, .t (strsD r))
noncomputable def deedsE (prs : Pr) (nm : List Str) (sp : Option Str) : Option Err := match fitE prs nm with
  | some e => some e
  | none => spareE prs nm sp
def spNeedSpare (C : Addr) (L : List Addr) : Sp := fun vs H Q E => ∃ (p a : Addr) (prs : Pr) (nm : List Str) (sp : Option Str), vs = [.ref p, .ref a, oV sp] ∧ PlanAt [] C H p prs ∧ PlOk prs ∧ H a = some (.lst (nm.map V.str)) ∧ (∀ s, sp = some s → s.length ≤ 1000) ∧
  (spareE prs nm sp = none → ∀ H', Kp [] H H' → Q .non H') ∧ ∀ e, spareE prs nm sp = some e → Leave L e [] E H
def spChainTo (C : Addr) : Sp := fun vs H Q _ => ∃ (p : Addr) (prs : Pr) (n : Str), vs = [.ref p, .str n] ∧ PlanAt [] C H p prs ∧ PlOk prs ∧ nx prs n = none ∧
  ∀ q ws H', H q = none → Kp [] H H' → H' q = some (.lst ws) → (∀ S, Live S H → AtL (q :: S) H' ws ((chainL prs 50 n).map encDd)) → Q (.ref q) H'
def spRingDeeds : Sp := fun vs H Q _ => ∃ (t : Addr) (r : List Str) (sp : Str), vs = [.ref t, .str sp] ∧ H t = some (.tup (r.map V.str)) ∧ 2 ≤ r.length ∧ r.length ≤ 41 ∧
  ∀ q ws H', H q = none → Kp [] H H' → H' q = some (.lst ws) → (∀ S, Live S H → AtL (q :: S) H' ws ((ringD1 r sp).map encDd)) → Q (.ref q) H'
def spDeedsBy (C : Addr) : Sp := fun vs H Q _ => ∃ (p : Addr) (prs : Pr) (sp : Option Str), vs = [.ref p, oV sp] ∧ PlanAt [] C H p prs ∧ PlOk prs ∧ (sp = none → rings prs = []) ∧
  ∀ q ws H', H q = none → Kp [] H H' → H' q = some (.lst ws) → (∀ S, Live S H → AtL (q :: S) H' ws ((deedsL prs sp).map encDd)) → Q (.ref q) H'
def spDeeds (C : Addr) (L : List Addr) : Sp := fun vs H Q E => ∃ (p a : Addr) (prs : Pr) (nm : List Str) (sp : Option Str), vs = [.ref p, .ref a, oV sp] ∧ PlanAt [] C H p prs ∧ PlOk prs ∧ H a = some (.lst (nm.map V.str)) ∧ (∀ s, sp = some s → s.length ≤ 1000) ∧
  (deedsE prs nm sp = none → ∀ q ws H', H q = none → Kp [] H H' → H' q = some (.lst ws) → (∀ S, Live S H → AtL (q :: S) H' ws ((deedsL prs sp).map encDd)) → Q (.ref q) H') ∧ ∀ e, deedsE prs nm sp = some e → Leave L e [] E H
theorem pys_ne {d : D} {ds : List D} {p : PyData} (h : (D.l (d :: ds)).py = some p) : ∃ x xs, p = .list (x :: xs) := by
  have h : (D.pys (d :: ds)).map PyData.list = some p := h
  obtain ⟨ps, hps, rfl⟩ := Option.map_eq_some_iff.mp h
  have hps : (D.py d).bind (fun p => (D.pys ds).map (p :: ·)) = some ps := hps
  obtain ⟨x, _, h2⟩ := Option.bind_eq_some_iff.mp hps
  obtain ⟨xs, _, rfl⟩ := Option.map_eq_some_iff.mp h2
  exact ⟨x, xs, rfl⟩
theorem shaped_of {p : PyData} (c : p.canLay0 = true) (d : p.depth ≤ 30) : SeqAt.shaped p = true := by
  unfold SeqAt.shaped
  rw [c, Bool.true_and]
  exact decide_eq_true (by omega)
theorem g_neNilD {K : PySem.W.Frag} {S : List Addr} {H : Hp} {Q : VK} {x : V} {b : Addr} {ds : List D} (h1 : At S H x (.l ds)) (hb : H b = some (.lst [])) (f : fineD (.l ds)) (q : Q (.bl (!ds.isEmpty)) H) : rNeU K x (.ref b) H Q := by
  obtain ⟨p, e, c, dd⟩ := f
  have h2 : At [] H (.ref b) (.l []) := .l (by simp) hb .nil
  refine g_neD (h1.dp e) (h2.dp (p := .list []) rfl) (shaped_of c dd) (shaped_of (p := .list []) rfl (by decide)) ?_
  cases ds with
  | nil => cases e; exact q
  | cons d ds => obtain ⟨x, xs, rfl⟩ := pys_ne e; exact q
theorem rings_shape {prs : Pr} {r : List Str} (h : r ∈ rings prs) : 2 ≤ r.length ∧ ∀ n ∈ r, n ∈ keys prs := by
  obtain ⟨n, c, h1, _⟩ := rings_mem h
  exact ⟨h1, c.keys⟩
theorem fine_rings {prs : Pr} (h : PlOk prs) : FineN 2 (.l (ringsD (rings prs))) := FineN.l (n := 1) fun d hd => by
  obtain ⟨r, hr, rfl⟩ := List.mem_map.mp hd
  refine FineN.t (n := 0) fun d hd => ?_
  obtain ⟨n, hn, rfl⟩ := List.mem_map.mp hd
  obtain ⟨q, hq, rfl⟩ := List.mem_map.mp ((rings_shape hr).2 n hn)
  exact FineN.str (name_fine (h.names q hq).1)
theorem src_by {prs : Pr} (h : PlOk prs) (n : Str) : src (byOlds prs) n = src prs n := by
  have pm := byOlds_self h.ndo
  cases e : src (byOlds prs) n with
  | some o => exact (src_some h.ndn (pm.mem_iff.mp (src_mem e))).symm
  | none =>
    cases e2 : src prs n with
    | none => rfl
    | some o => rw [src_some h.by.ndn (pm.mem_iff.mpr (src_mem e2))] at e; cases e
theorem chain_none {prs : Pr} {n : Str} (h : src prs n = none) (m : Nat) : chainL prs m n = [] := by
  cases m with
  | zero => rfl
  | succ m => unfold chainL; rw [h]
theorem chain_some {prs : Pr} {n o : Str} (h : src prs n = some o) (m : Nat) : chainL prs (m + 1) n = (o, some n) :: chainL prs m o := by
  conv => lhs; unfold chainL
  rw [h]
theorem Back.len40 {prs : Pr} {l : List Str} (b : Back prs l) (h : PlOk prs) : l.length ≤ 41 := by have := b.len; have := h.len; omega
theorem g_iRng3 {ta : TA} {σ : L2.St} {H : Hp} {R : It → Hp → Prop} (q : ta σ H fun vs H1 => ∃ (i j c : Int) (n : Nat), vs = [.int i, .int j, .int c] ∧ RgC i j c n ∧ R (Itc i c n) H1) : iRng3 ta σ H R := q
theorem ext_at {g q : Addr} {S : List Addr} {H H' : Hp} {vs ws : List V} {ds es : List D} (hat : AtL (g :: S) H vs ds) (k : Kp [] H H') (hq : AtL (q :: g :: S) H' ws es) : AtL (g :: S) (upd H' g (.lst (vs ++ ws))) (vs ++ ws) (ds ++ es) :=
  ((hat.kp k (by simp)).append (hq.sub (fun x hx => List.mem_cons_of_mem _ hx))).kp (Kp.mut (S := [g]) (by simp)) (by simp)
theorem snoc_at {g : Addr} {S : List Addr} {H H' : Hp} {vs : List V} {x : V} {ds : List D} {e : D} (hat : AtL (g :: S) H vs ds) (k : Kp [] H H') (hq : At (g :: S) H' x e) : AtL (g :: S) (upd H' g (.lst (vs ++ [x]))) (vs ++ [x]) (ds ++ [e]) :=
  ((hat.kp k (by simp)).snoc hq).kp (Kp.mut (S := [g]) (by simp)) (by simp)
theorem chain_len (prs : Pr) : ∀ (m : Nat) (n : Str), (chainL prs m n).length ≤ m
  | 0, _ => Nat.le_refl _
  | m + 1, n => by
    cases h : src prs n with
    | none => rw [chain_none h]; exact Nat.zero_le _
    | some o => rw [chain_some h, List.length_cons]; have := chain_len prs m o; omega
theorem flat_len {α β : Type} {f : α → List β} {b : Nat} : ∀ {l : List α}, (∀ x ∈ l, (f x).length ≤ b) → (l.flatMap f).length ≤ l.length * b
  | [], _ => by simp
  | x :: l, h => by
    rw [List.flatMap_cons, List.length_append, List.length_cons, Nat.succ_mul]
    have h1 := h x (List.mem_cons_self ..)
    have h2 := flat_len (l := l) fun y hy => h y (List.mem_cons_of_mem _ hy)
    omega
theorem ring_dlen (r : List Str) (sp : Str) : (ringD1 r sp).length = r.length - 1 + 2 := by unfold ringD1; simp
/-- what a plan's deeds are, part by part -/
def dropP (prs : Pr) (i : Nat) : List Dd := (((byOlds prs).take i).filter fun p => p.2.isNone).map fun p => (p.1, none)
def newP (prs : Pr) (i : Nat) : List Dd := (((srt (news prs)).take i).filter fun n => decide (n ∉ keys prs)).flatMap (chainL prs 50)
def goneP (prs : Pr) (i : Nat) : List Dd := ((((byOlds prs).take i).filter fun p => p.2.isNone).map (·.1)).flatMap (chainL prs 50)
noncomputable def ringP (prs : Pr) (sp : Option Str) (i : Nat) : List Dd := ((rings prs).take i).flatMap fun r => ringD1 r (spS sp)
theorem dropP_len (prs : Pr) (i : Nat) : (dropP prs i).length ≤ i := by
  unfold dropP
  rw [List.length_map]
  have := List.length_filter_le (fun p : Str × Option Str => p.2.isNone) ((byOlds prs).take i)
  rw [List.length_take] at this
  omega
theorem newP_len (prs : Pr) (i : Nat) : (newP prs i).length ≤ i * 50 := by
  unfold newP
  refine Nat.le_trans (flat_len (b := 50) fun n _ => chain_len prs 50 n) (Nat.mul_le_mul_right _ ?_)
  have := List.length_filter_le (fun n => decide (n ∉ keys prs)) ((srt (news prs)).take i)
  rw [List.length_take] at this
  omega
theorem goneP_len (prs : Pr) (i : Nat) : (goneP prs i).length ≤ i * 50 := by
  unfold goneP
  refine Nat.le_trans (flat_len (b := 50) fun n _ => chain_len prs 50 n) (Nat.mul_le_mul_right _ ?_)
  rw [List.length_map]
  have := List.length_filter_le (fun p : Str × Option Str => p.2.isNone) ((byOlds prs).take i)
  rw [List.length_take] at this
  omega
theorem ringP_len {prs : Pr} (h : PlOk prs) (sp : Option Str) (i : Nat) : (ringP prs sp i).length ≤ i * 50 := by
  unfold ringP
  refine Nat.le_trans (flat_len (b := 50) fun r hr => ?_) (Nat.mul_le_mul_right _ ?_)
  · rw [ring_dlen]
    have := ring_len h (List.mem_of_mem_take hr)
    omega
  · rw [List.length_take]; omega
theorem deedsL_parts {prs : Pr} (sp : Option Str) {i j k : Nat} (hi : (byOlds prs).length ≤ i) (hj : (srt (news prs)).length ≤ j) (hk : (rings prs).length ≤ k) : deedsL prs sp = dropP prs i ++ newP prs j ++ goneP prs i ++ ringP prs sp k := by
  unfold deedsL dropsL dropP newP goneP ringP
  rw [List.take_of_length_le hi, List.take_of_length_le hj, List.take_of_length_le hk]
theorem spare_none {prs : Pr} {nm : List Str} {sp : Option Str} (h : spareE prs nm sp = none) (e : sp = none) : rings prs = [] := by
  subst e
  unfold spareE at h
  dsimp only at h
  cases hr : rings prs with
  | nil => rfl
  | cons r rs => rw [hr] at h; cases h
section
/-- a def whose last parameter has None by itself -/
def FnAtD (P : Program) (w : World) (K : PySem.W.Frag) (mg : Str → Option Value) (base : Heap) (CX : CXT) (k : Nat) (x : Str) (ps : List Str) (sp : Sp) : Prop :=
  ∃ f fd, mg x = some (.ref f) ∧ PySem.W.keepIn K (.ref f) = true ∧ Binds K fd ps [.none] ∧ FnOk P w K mg base CX k f fd ps sp
variable {X : Cx} {k : Nat} {x : Str} {ps : List Str} {sp : Sp} {e : Expr} {es : List Expr} {t : TA} {p pos : Pos}
theorem pe_fnD (F : FnAtD X.prog X.w X.K X.mg X.base CX0 k x ps sp) (hr : Room k X.A) (ha : PA X (e :: es) t) (hg : Gl X x := by rfl) (hdb : (x == ("__debug__" : Str)) = false := by decide)
    (he : starEach (e :: es) X.env = (false, eval e X.env) :: starEach es X.env := by rfl) (hpl : (backTo pos (starEach es X.env)).any (·.1) = false := by rfl) : PE X (.Call (.Name x p) (e :: es) [] pos) (tCall sp [.non] E0 t) :=
  let ⟨_, _, h1, h2, h3, h4⟩ := F
  pe_call h4 hr hg h1 h2 h3 (.cons rfl .nil) pass0 ha hdb he hpl
end
end NN
/-! what is due where deeds are asked -/
namespace NN
open PySem L2
def spSpare : Sp := fun vs H Q _ => ∃ (a : Addr) (nm : List Str), vs = [.ref a] ∧ H a = some (.lst (nm.map V.str)) ∧ nm.length ≤ 25 ∧ ∀ z, isName z = true → z.length = 2 → z ∉ nm → Q (.str z) H
def SpF (sp : Option Str) : Prop := ∀ s, sp = some s → s.length ≤ 100 ∧ fineS s
noncomputable def dueDD (prs : Pr) (nm : List Str) (sp : Option Str) : D := match deedsE prs nm sp with
  | none => .t [.v (.str "good"), .v .non]
  | some e => .t [.v (.str (wrdOf e.1)), e.2]
noncomputable def toldDD (prs : Pr) (nm : List Str) (sp : Option Str) : D := match deedsE prs nm sp with
  | none => .t [.v (.str "good"), .l ((deedsL prs sp).map encDd)]
  | some e => .t [.v (.str (wrdOf e.1)), e.2]
def spDueS : Sp := fun vs H Q _ => ∃ (ax b : Addr) (prs : Pr) (nm : List Str) (sp : Option Str), vs = [.ref ax, .ref b, oV sp] ∧ At [] H (.ref ax) (encPs prs) ∧ PlOk prs ∧ H b = some (.lst (nm.map V.str)) ∧ Nms nm ∧ SpF sp ∧
  ∀ r H', H r = none → Kp [] H H' → (∀ S, Live S H → At S H' (.ref r) (dueDD prs nm sp)) → Q (.ref r) H'
def spToldS (C : Addr) : Sp := fun vs H Q _ => ∃ (p b : Addr) (prs : Pr) (nm : List Str) (sp : Option Str), vs = [.ref p, .ref b, oV sp] ∧ PlanAt [] C H p prs ∧ PlOk prs ∧ H b = some (.lst (nm.map V.str)) ∧ SpF sp ∧
  ∀ r H', H r = none → Kp [] H H' → (∀ S, Live S H → At S H' (.ref r) (toldDD prs nm sp)) → Q (.ref r) H'
def spRightS (C : Addr) : Sp := fun vs H Q _ => ∃ (p ax b : Addr) (prs : Pr) (nm : List Str) (sp : Option Str), vs = [.ref p, .ref ax, .ref b, oV sp] ∧ PlanAt [] C H p prs ∧ PlOk prs ∧ At [] H (.ref ax) (encPs prs) ∧ H b = some (.lst (nm.map V.str)) ∧ Nms nm ∧ SpF sp ∧
  ∀ H', Kp [] H H' → Q (.bl true) H'
theorem spareE_fine {prs : Pr} {nm : List Str} {sp : Option Str} {e : Err} (pl : PlOk prs) (hs : SpF sp) (h : spareE prs nm sp = some e) : FineN 1 e.2 := by
  unfold spareE at h
  cases sp with
  | some s =>
    dsimp only at h
    split at h
    · split at h
      · cases h; exact .str (hs s rfl).2
      · cases h
    · cases h; exact .non
  | none =>
    dsimp only at h
    cases hr : rings prs with
    | nil => rw [hr] at h; cases h
    | cons r rs =>
      rw [hr] at h
      cases h
      refine FineN.t (n := 0) fun d hd => ?_
      obtain ⟨n, hn, rfl⟩ := List.mem_map.mp hd
      obtain ⟨q, hq, rfl⟩ := List.mem_map.mp ((rings_shape (r := r) (by rw [hr]; exact List.mem_cons_self ..)).2 n hn)
      exact FineN.str (name_fine (pl.names q hq).1)
theorem deedsE_fine {prs : Pr} {nm : List Str} {sp : Option Str} {e : Err} (pl : PlOk prs) (hs : SpF sp) (h : deedsE prs nm sp = some e) : FineN 1 e.2 := by
  unfold deedsE at h
  cases hf : fitE prs nm with
  | none => rw [hf] at h; exact spareE_fine pl hs h
  | some e' => rw [hf] at h; cases h; exact fit_fine pl hf 1
theorem due_fine {prs : Pr} {nm : List Str} {sp : Option Str} (pl : PlOk prs) (hs : SpF sp) : FineN 2 (dueDD prs nm sp) := by
  unfold dueDD
  cases h : deedsE prs nm sp with
  | none =>
    refine FineN.t (n := 1) fun d hd => ?_
    rcases List.mem_cons.mp hd with rfl | hd
    · exact .str (show PyData.strOk "good" = true by decide +kernel)
    · rw [List.mem_singleton.mp hd]; exact .non
  | some e =>
    refine FineN.t (n := 1) fun d hd => ?_
    rcases List.mem_cons.mp hd with rfl | hd
    · exact .str (wrd_fine _)
    · rw [List.mem_singleton.mp hd]; exact deedsE_fine pl hs h
/-- the names that stand in deeds -/
def DdIn (N : List Str) (d : Dd) : Prop := d.1 ∈ N ∧ ∀ m, d.2 = some m → m ∈ N
theorem chain_in {prs : Pr} {N : List Str} (h1 : ∀ o ∈ keys prs, o ∈ N) : ∀ (m : Nat) (n : Str), n ∈ N → ∀ d ∈ chainL prs m n, DdIn N d
  | 0, _, _, _, hd => nomatch hd
  | m + 1, n, hn, d, hd => by
    cases h : src prs n with
    | none => rw [chain_none h] at hd; cases hd
    | some o =>
      have ho : o ∈ N := h1 o (List.mem_map.mpr ⟨_, src_mem h, rfl⟩)
      rw [chain_some h] at hd
      rcases List.mem_cons.mp hd with rfl | hd
      · exact ⟨ho, fun m hm => by cases hm; exact hn⟩
      · exact chain_in h1 m o ho d hd
theorem getD_mem {l : List Str} {i : Nat} (h : i < l.length) : l.getD i "" ∈ l := by
  rw [List.getD_eq_getElem?_getD, List.getElem?_eq_getElem h]; exact List.getElem_mem h
theorem ringD1_in {r : List Str} {sp : Str} {N : List Str} (hr : ∀ n ∈ r, n ∈ N) (hs : sp ∈ N) (hl : 2 ≤ r.length) : ∀ d ∈ ringD1 r sp, DdIn N d := by
  intro d hd
  unfold ringD1 at hd
  have gm : ∀ i, i < r.length → r.getD i "" ∈ N := fun i hi => hr _ (getD_mem hi)
  rcases List.mem_append.mp hd with hd | hd
  · rcases List.mem_append.mp hd with hd | hd
    · rw [List.mem_singleton.mp hd]; exact ⟨gm _ (by omega), fun m hm => by cases hm; exact hs⟩
    · obtain ⟨k, hk, rfl⟩ := List.mem_map.mp hd
      have := List.mem_range.mp hk
      exact ⟨gm _ (by omega), fun m hm => by cases hm; exact gm _ (by omega)⟩
  · rw [List.mem_singleton.mp hd]; exact ⟨hs, fun m hm => by cases hm; exact gm _ (by omega)⟩
theorem byOlds_key {prs : Pr} {p : Str × Option Str} (h : p ∈ byOlds prs) : p.1 ∈ keys prs := by
  unfold byOlds at h
  obtain ⟨o, ho, rfl⟩ := List.mem_map.mp h
  exact mem_srt.mp ho
theorem deeds_in {prs : Pr} {sp : Option Str} {N : List Str} (h1 : ∀ o ∈ keys prs, o ∈ N) (h2 : ∀ n ∈ news prs, n ∈ N) (hs : rings prs ≠ [] → spS sp ∈ N) : ∀ d ∈ deedsL prs sp, DdIn N d := by
  intro d hd
  unfold deedsL at hd
  rcases List.mem_append.mp hd with hd | hd
  · rcases List.mem_append.mp hd with hd | hd
    · rcases List.mem_append.mp hd with hd | hd
      · unfold dropsL at hd
        obtain ⟨p, hp, rfl⟩ := List.mem_map.mp hd
        exact ⟨h1 _ (byOlds_key (p := p) (List.mem_filter.mp hp).1), fun m hm => nomatch hm⟩
      · obtain ⟨n, hn, hd⟩ := List.mem_flatMap.mp hd
        exact chain_in h1 50 n (h2 n (mem_srt.mp (List.mem_filter.mp hn).1)) d hd
    · obtain ⟨n, hn, hd⟩ := List.mem_flatMap.mp hd
      obtain ⟨p, hp, rfl⟩ := List.mem_map.mp hn
      exact chain_in h1 50 _ (h1 _ (byOlds_key (List.mem_filter.mp hp).1)) d hd
  · obtain ⟨r, hr, hd⟩ := List.mem_flatMap.mp hd
    have hsh := rings_shape hr
    exact ringD1_in (fun n hn => h1 n (hsh.2 n hn)) (hs (fun e => by rw [e] at hr; cases hr)) hsh.1 d hd
theorem encDd_fine {N : List Str} {d : Dd} (h : DdIn N d) (hN : ∀ n ∈ N, fineS n) : FineN 1 (encDd d) := by
  obtain ⟨o, m⟩ := d
  cases m with
  | none =>
    refine FineN.t (n := 0) fun d hd => ?_
    rcases List.mem_cons.mp hd with rfl | hd
    · exact .str (show PyData.strOk "drop" = true by decide +kernel)
    · rw [List.mem_singleton.mp hd]; exact .str (hN _ h.1)
  | some m =>
    refine FineN.t (n := 0) fun d hd => ?_
    rcases List.mem_cons.mp hd with rfl | hd
    · exact .str (show PyData.strOk "move" = true by decide +kernel)
    · rcases List.mem_cons.mp hd with rfl | hd
      · exact .str (hN _ h.1)
      · rw [List.mem_singleton.mp hd]; exact .str (hN _ (h.2 m rfl))
theorem deeds_fine {prs : Pr} {sp : Option Str} (pl : PlOk prs) (hs : SpF sp) : FineN 2 (.l ((deedsL prs sp).map encDd)) := FineN.l (n := 1) fun d hd => by
  obtain ⟨x, hx, rfl⟩ := List.mem_map.mp hd
  refine encDd_fine (N := keys prs ++ news prs ++ [spS sp]) (deeds_in (fun o ho => by simp [ho]) (fun n hn => by simp [hn]) (fun _ => by simp) x hx) fun n hn => ?_
  rcases List.mem_append.mp hn with hn | hn
  · rcases List.mem_append.mp hn with hn | hn
    · exact name_fine (pl.olds n hn)
    · exact name_fine (pl.news n hn)
  · rw [List.mem_singleton.mp hn]
    cases sp with
    | none => exact show PyData.strOk "" = true by decide +kernel
    | some s => exact (hs s rfl).2
theorem told_fine {prs : Pr} {nm : List Str} {sp : Option Str} (pl : PlOk prs) (hs : SpF sp) : FineN 3 (toldDD prs nm sp) := by
  unfold toldDD
  cases h : deedsE prs nm sp with
  | none =>
    refine FineN.t (n := 2) fun d hd => ?_
    rcases List.mem_cons.mp hd with rfl | hd
    · exact .str (show PyData.strOk "good" = true by decide +kernel)
    · rw [List.mem_singleton.mp hd]; exact deeds_fine pl hs
  | some e =>
    refine FineN.t (n := 2) fun d hd => ?_
    rcases List.mem_cons.mp hd with rfl | hd
    · exact .str (wrd_fine _)
    · rw [List.mem_singleton.mp hd]; obtain ⟨p, a, b, c⟩ := deedsE_fine pl hs h; exact ⟨p, a, b, by omega⟩
/-- two letters -/
theorem two_name {a b : Nat} (ha : a ∈ letters.cps.toList) (hb : b ∈ letters.cps.toList) : isName (⟨#[a]⟩ ++ ⟨#[b]⟩ : Str) = true ∧ (⟨#[a]⟩ ++ ⟨#[b]⟩ : Str).length = 2 := by
  have e : (⟨#[a]⟩ ++ ⟨#[b]⟩ : Str) = ⟨#[a, b]⟩ := rfl
  rw [e]
  refine ⟨isName_iff.mpr ⟨(show 0 < 2 by decide), (show 2 ≤ 8 by decide), fun c hc => ?_⟩, rfl⟩
  simp at hc
  rcases hc with rfl | rfl
  · exact ha
  · exact hb
theorem two_inj {a b b' : Nat} (h : (⟨#[a]⟩ ++ ⟨#[b]⟩ : Str) = ⟨#[a]⟩ ++ ⟨#[b']⟩) : b = b' := by
  have e : (⟨#[a, b]⟩ : Str) = ⟨#[a, b']⟩ := h
  injection e with e
  simpa using e
theorem full_row {a : Nat} {nm : List Str} (hl : nm.length ≤ 25) (h : ∀ b ∈ letters.cps.toList, (⟨#[a]⟩ ++ ⟨#[b]⟩ : Str) ∈ nm) : False := by
  have h1 : (letters.cps.toList.map fun b => (⟨#[a]⟩ ++ ⟨#[b]⟩ : Str)).Nodup := List.Pairwise.map _ (fun b b' n e => n (two_inj e)) letters_nd
  have h2 := nd_le h1 (fun x hx => by obtain ⟨b, hb, rfl⟩ := List.mem_map.mp hx; exact h b hb)
  rw [List.length_map, letters_len] at h2
  omega
theorem g_neSigns {K : PySem.W.Frag} {H : Hp} {Q : VK} {a b : Addr} {cs : List Nat} (ha : H a = some (.lst (cs.map fun c => V.str ⟨#[c]⟩))) (hb : H b = some (.lst [])) (hf : ∀ c ∈ cs, c < 1114112) (q : Q (.bl (!cs.isEmpty)) H) : rNeU K (.ref a) (.ref b) H Q := by
  have e : (cs.map fun c => V.str ⟨#[c]⟩) = (cs.map fun c => (⟨#[c]⟩ : Str)).map V.str := by rw [List.map_map]; rfl
  rw [e] at ha
  refine g_neStrs (ys := []) ha hb (fun y hy => ?_) (fun y hy => nomatch hy) ?_
  · obtain ⟨c, hc, rfl⟩ := List.mem_map.mp hy
    exact fine_of fun x hx => by simp at hx; rw [hx]; exact hf c hc
  · cases cs <;> exact q
theorem wrd_good (i : Nat) : wrdOf i ≠ "good" := by
  have h : ∀ w ∈ wrds, w ≠ "good" := by decide +kernel
  unfold wrdOf
  rw [List.getD_eq_getElem?_getD]
  cases e : wrds[i]? with
  | none => exact (by decide +kernel : ("" : Str) ≠ "good")
  | some w => exact h w (List.mem_of_getElem? e)
theorem strs_at {l : List Str} {r : Int} (h0 : 0 ≤ r) (h1 : r < l.length) : ∃ z ∈ l, atI (l.map V.str) r = some (.str z) := by
  obtain ⟨j, rfl⟩ := Int.eq_ofNat_of_zero_le h0
  have hj : j < l.length := by omega
  exact ⟨l[j], List.getElem_mem hj, atI_nat (by rw [List.getElem?_map, List.getElem?_eq_getElem hj]; rfl)⟩
theorem spF_name {z : Str} (h : isName z = true) : SpF (some z) := fun s e => by cases e; exact ⟨by have := name_len h; omega, name_fine h⟩
theorem spF_none : SpF none := fun s e => by cases e
theorem spare_good {prs : Pr} {nm : List Str} {z : Str} (hf : fitE prs nm = none) (hn : isName z = true) (h1 : z ∉ nm) (h2 : z ∉ news prs) : deedsE prs nm (some z) = none := by
  unfold deedsE; rw [hf]; dsimp only; unfold spareE; dsimp only; rw [if_pos hn, if_neg (by simp [h1, h2])]
end NN
/-! plans behind one another, and turned back -/
namespace NN
open PySem L2
/-! ### turned -/
def flipO (p : Str × Option Str) : Option (Str × Option Str) := p.2.map fun n => (n, some p.1)
def turnL (prs : Pr) : Pr := prs.filterMap flipO
def goneOf (prs : Pr) : Option Str := ((byOlds prs).find? fun p => p.2.isNone).map (·.1)
def turnE (prs : Pr) : Option Err := (goneOf prs).map fun o => (4, .v (.str o))
def AllS (prs : Pr) : Prop := ∀ p ∈ prs, p.2 ≠ none
theorem turn_keys (prs : Pr) : keys (turnL prs) = news prs := by
  unfold keys turnL news
  rw [List.map_filterMap]
  congr 1
  funext p
  unfold flipO
  cases p.2 <;> rfl
theorem turn_news_sub (prs : Pr) : (news (turnL prs)).Sublist (keys prs) := by
  induction prs with
  | nil => exact .slnil
  | cons p r ih =>
    obtain ⟨o, n⟩ := p
    cases n with
    | none => exact .cons _ ih
    | some n => exact .cons_cons _ ih
theorem turn_news {prs : Pr} (h : AllS prs) : news (turnL prs) = keys prs := by
  induction prs with
  | nil => rfl
  | cons p r ih =>
    obtain ⟨o, n⟩ := p
    have ih' := ih fun q hq => h q (List.mem_cons_of_mem _ hq)
    cases n with
    | none => exact absurd rfl (h (o, none) (List.mem_cons_self ..))
    | some n => exact congrArg (o :: ·) ih'
theorem turn_len (prs : Pr) : (turnL prs).length ≤ prs.length := List.length_filterMap_le ..
theorem PlOk.turn {prs : Pr} (h : PlOk prs) : PlOk (turnL prs) := by
  refine ⟨by rw [turn_keys]; exact h.ndn, h.ndo.sublist (turn_news_sub prs), by rw [turn_keys]; exact h.news, fun n hn => h.olds n ((turn_news_sub prs).subset hn), ?_⟩
  have := turn_len prs; have := h.len; omega
theorem turn_turn {prs : Pr} (h : AllS prs) : turnL (turnL prs) = prs := by
  induction prs with
  | nil => rfl
  | cons p r ih =>
    obtain ⟨o, n⟩ := p
    have ih' := ih fun q hq => h q (List.mem_cons_of_mem _ hq)
    cases n with
    | none => exact absurd rfl (h (o, none) (List.mem_cons_self ..))
    | some n => exact congrArg ((o, some n) :: ·) ih'
theorem turn_perm {a b : Pr} (p : a.Perm b) : (turnL a).Perm (turnL b) := p.filterMap _
theorem allS_turn (prs : Pr) : AllS (turnL prs) := fun p hp => by
  obtain ⟨q, _, e⟩ := List.mem_filterMap.mp hp
  unfold flipO at e
  obtain ⟨n, _, rfl⟩ := Option.map_eq_some_iff.mp e
  intro z; cases z
theorem AllS.perm {a b : Pr} (h : AllS b) (p : a.Perm b) : AllS a := fun q hq => h q (p.subset hq)
theorem mem_turn {prs : Pr} {a b : Str} : (a, some b) ∈ turnL prs ↔ (b, some a) ∈ prs := by
  unfold turnL
  rw [List.mem_filterMap]
  constructor
  · rintro ⟨⟨o, n⟩, h, e⟩
    unfold flipO at e
    cases n with
    | none => cases e
    | some n => cases e; exact h
  · intro h
    exact ⟨_, h, rfl⟩
theorem allS_none {prs : Pr} (nd : (keys prs).Nodup) : AllS prs ↔ turnE prs = none := by
  unfold turnE goneOf
  rw [Option.map_map, Option.map_eq_none_iff, List.find?_eq_none]
  constructor
  · intro h p hp
    have := h p ((byOlds_self nd).subset hp)
    cases e : p.2 with
    | none => exact absurd e this
    | some n => simp
  · intro h p hp e
    have := h p ((byOlds_self nd).symm.subset hp)
    rw [e] at this
    exact this rfl
theorem gone_srt {prs : Pr} (nd : (keys prs).Nodup) : goneOf prs = (srt ((prs.filter fun p => p.2.isNone).map (·.1)))[0]? := by
  have e : (prs.filter fun p => p.2.isNone).map (·.1) = (keys prs).filter fun o => ((lk prs o).getD none).isNone := by
    unfold keys
    rw [List.filter_map]
    congr 1
    refine List.filter_congr fun p hp => ?_
    have : lk prs p.1 = some p.2 := lk_of_mem nd hp
    show p.2.isNone = ((lk prs p.1).getD none).isNone
    rw [this]; rfl
  rw [e, srt_filter]
  unfold goneOf byOlds
  rw [find_filter, List.filter_map]
  have : ((fun p : Str × Option Str => p.2.isNone) ∘ fun o => (o, (lk prs o).getD none)) = fun o => ((lk prs o).getD none).isNone := rfl
  rw [this, List.getElem?_map, Option.map_map]
  show Option.map id _ = _
  rw [Option.map_id]; rfl
/-! ### joined -/
def joinE (a b : Pr) : Option Err := match (srt (keys b)).find? fun o => decide (o ∈ keys a) && decide (o ∉ news a) with
  | some o => some (2, .v (.str o))
  | none => match (srt (news b)).find? fun n => decide (n ∈ news a) && decide (n ∉ keys b) with
    | some n => some (3, .v (.str n))
    | none => none
def joinP (a b : Pr) : Pr := ((byOlds a).map fun p => (p.1, p.2.bind (toO b))) ++ (byOlds b).filter fun p => decide (p.1 ∉ news a)
theorem join_none {a b : Pr} (h : joinE a b = none) : (∀ o ∈ keys b, o ∈ keys a → o ∈ news a) ∧ ∀ n ∈ news b, n ∈ news a → n ∈ keys b := by
  unfold joinE at h
  cases h1 : (srt (keys b)).find? fun o => decide (o ∈ keys a) && decide (o ∉ news a) with
  | some o => rw [h1] at h; cases h
  | none =>
    rw [h1] at h
    dsimp only at h
    cases h2 : (srt (news b)).find? fun n => decide (n ∈ news a) && decide (n ∉ keys b) with
    | some n => rw [h2] at h; cases h
    | none =>
      rw [List.find?_eq_none] at h1 h2
      refine ⟨fun o ho hk => ?_, fun n hn hk => ?_⟩
      · have := h1 o (mem_srt.mpr ho); simpa [hk] using this
      · have := h2 n (mem_srt.mpr hn); simpa [hk] using this
theorem join_of {a b : Pr} (h1 : ∀ o ∈ keys b, o ∈ keys a → o ∈ news a) (h2 : ∀ n ∈ news b, n ∈ news a → n ∈ keys b) : joinE a b = none := by
  have e1 : ((srt (keys b)).find? fun o => decide (o ∈ keys a) && decide (o ∉ news a)) = none := by
    rw [List.find?_eq_none]; intro o ho; have := h1 o (mem_srt.mp ho); simpa using this
  have e2 : ((srt (news b)).find? fun n => decide (n ∈ news a) && decide (n ∉ keys b)) = none := by
    rw [List.find?_eq_none]; intro n hn; have := h2 n (mem_srt.mp hn); simpa using this
  unfold joinE
  rw [e1]; dsimp only; rw [e2]
theorem keys_joinP (a b : Pr) : keys (joinP a b) = keys (byOlds a) ++ (keys (byOlds b)).filter fun o => decide (o ∉ news a) := by
  unfold joinP keys
  rw [List.map_append, List.map_map, List.filter_map]
  rfl
theorem news_joinP (a b : Pr) : news (joinP a b) = (news (byOlds a)).filterMap (toO b) ++ news ((byOlds b).filter fun p => decide (p.1 ∉ news a)) := by
  unfold joinP news
  rw [List.filterMap_append, List.filterMap_map, List.filterMap_filterMap]
  congr 1
theorem fm_congr {α β : Type} {f g : α → Option β} : ∀ {l : List α}, (∀ x ∈ l, f x = g x) → l.filterMap f = l.filterMap g
  | [], _ => rfl
  | x :: l, h => by rw [List.filterMap_cons, List.filterMap_cons, h x (List.mem_cons_self ..), fm_congr fun y hy => h y (List.mem_cons_of_mem _ hy)]
theorem toO_by {prs : Pr} (nd : (keys prs).Nodup) : toO (byOlds prs) = toO prs := by
  funext n; unfold toO; rw [lk_perm (byOlds_self nd) nd]
theorem toO_key {prs : Pr} (nd : (keys prs).Nodup) {p : Str × Option Str} (h : p ∈ prs) : toO prs p.1 = p.2 := by
  unfold toO; rw [lk_of_mem nd (k := p.1) (v := p.2) h]; rfl
theorem toO_free {prs : Pr} {n : Str} (h : n ∉ keys prs) : toO prs n = some n := by unfold toO; rw [lk_none.mpr h]; rfl
theorem news_flt {b : Pr} (nd : (keys b).Nodup) (q : Str → Bool) : news (b.filter fun p => q p.1) = ((keys b).filter q).filterMap (toO b) := by
  unfold news keys
  rw [List.filter_map, List.filterMap_map]
  have : ∀ (l : Pr), (∀ p ∈ l, p ∈ b) → (l.filter fun p => q p.1).filterMap (·.2) = (l.filter (q ∘ fun x => x.1)).filterMap (toO b ∘ fun x => x.1) := by
    intro l hl
    refine fm_congr fun p hp => ?_
    exact (toO_key nd (hl p (List.mem_filter.mp hp).1)).symm
  exact this b fun _ h => h
theorem PlOk.join {a b : Pr} (ha : PlOk a) (hb : PlOk b) (h : joinE a b = none) (hl : a.length + b.length ≤ 40) : PlOk (joinP a b) := by
  have ⟨j1, j2⟩ := join_none h
  have pa := byOlds_self ha.ndo
  have pb := byOlds_self hb.ndo
  have ka : ∀ o, o ∈ NN.keys (byOlds a) ↔ o ∈ NN.keys a := fun o => (keys_perm pa).mem_iff
  have kb : ∀ o, o ∈ NN.keys (byOlds b) ↔ o ∈ NN.keys b := fun o => (keys_perm pb).mem_iff
  have na : ∀ o, o ∈ NN.news (byOlds a) ↔ o ∈ NN.news a := fun o => (news_perm pa).mem_iff
  -- what both together hold
  let nm := NN.news (byOlds a) ++ (NN.keys (byOlds b)).filter fun o => decide (o ∉ NN.news a)
  have hnm : nm.Nodup := List.nodup_append.mpr ⟨ha.by.ndn, hb.by.ndo.filter _, fun x hx y hy e => by
    subst e
    have := (List.mem_filter.mp hy).2
    simp at this
    exact this ((na x).mp hx)⟩
  have hfit : fitE b nm = none := by
    have e1 : lostOf b nm = none := by
      unfold lostOf
      rw [List.find?_eq_none]
      intro o ho
      have ho := mem_srt.mp ho
      simp only [decide_eq_true_eq, Decidable.not_not]
      by_cases hn : o ∈ NN.news a
      · exact List.mem_append_left _ ((na o).mpr hn)
      · exact List.mem_append_right _ (List.mem_filter.mpr ⟨(kb o).mpr ho, by simpa using hn⟩)
    have e2 : takenOf b nm = none := by
      unfold takenOf
      rw [List.find?_eq_none]
      intro n hn
      have hn := mem_srt.mp hn
      simp only [Bool.and_eq_true, decide_eq_true_eq, not_and, Decidable.not_not]
      intro hm
      rcases List.mem_append.mp hm with hm | hm
      · exact j2 n hn ((na n).mp hm)
      · exact (kb n).mp (List.mem_filter.mp hm).1
    unfold fitE; rw [e1]; dsimp only; rw [e2]
  have hto := to_nd hb hnm hfit
  refine ⟨?_, ?_, fun o ho => ?_, fun n hn => ?_, ?_⟩
  · rw [keys_joinP]
    refine List.nodup_append.mpr ⟨ha.by.ndo, hb.by.ndo.filter _, fun x hx y hy e => ?_⟩
    subst e
    have ⟨h1, h2⟩ := List.mem_filter.mp hy
    simp at h2
    exact h2 (j1 x ((kb x).mp h1) ((ka x).mp hx))
  · rw [news_joinP, news_flt hb.by.ndo (fun o => decide (o ∉ NN.news a)), toO_by hb.ndo]
    show _
    rw [← List.filterMap_append]
    exact hto
  · rw [keys_joinP] at ho
    rcases List.mem_append.mp ho with ho | ho
    · exact ha.olds o ((ka o).mp ho)
    · exact hb.olds o ((kb o).mp (List.mem_filter.mp ho).1)
  · rw [news_joinP, news_flt hb.by.ndo (fun o => decide (o ∉ NN.news a)), toO_by hb.ndo, ← List.filterMap_append] at hn
    obtain ⟨m, hm, e⟩ := List.mem_filterMap.mp hn
    have hmn : isName m = true := by
      rcases List.mem_append.mp hm with hm | hm
      · exact ha.news m ((na m).mp hm)
      · exact hb.olds m ((kb m).mp (List.mem_filter.mp hm).1)
    unfold toO at e
    cases hk : lk b m with
    | none => rw [hk] at e; cases e; exact hmn
    | some v =>
      rw [hk] at e
      have e : v = some n := e
      subst e
      exact hb.news n (List.mem_filterMap.mpr ⟨_, lk_mem hk, rfl⟩)
  · unfold joinP
    rw [List.length_append, List.length_map]
    have h1 := pa.length_eq
    have h2 := List.length_filter_le (fun p : Str × Option Str => decide (p.1 ∉ NN.news a)) (byOlds b)
    have h3 := pb.length_eq
    omega
theorem lk_append {α : Type} (x y : List (Str × α)) (k : Str) : lk (x ++ y) k = match lk x k with | some v => some v | none => lk y k := by
  induction x with
  | nil => rfl
  | cons p r ih =>
    rw [List.cons_append, lk_cons, lk_cons]
    by_cases e : p.1 = k
    · rw [if_pos e, if_pos e]
    · rw [if_neg e, if_neg e, ih]
theorem lk_map2 {α β : Type} (g : α → β) (x : List (Str × α)) (k : Str) : lk (x.map fun p => (p.1, g p.2)) k = (lk x k).map g := by
  induction x with
  | nil => rfl
  | cons p r ih =>
    rw [List.map_cons, lk_cons, lk_cons]
    by_cases e : p.1 = k
    · rw [if_pos e, if_pos e]; rfl
    · rw [if_neg e, if_neg e, ih]
theorem lk_flt {α : Type} (q : Str → Bool) (x : List (Str × α)) (k : Str) : lk (x.filter fun p => q p.1) k = if q k = true then lk x k else none := by
  induction x with
  | nil => cases q k <;> rfl
  | cons p r ih =>
    by_cases e : p.1 = k
    · subst e
      by_cases hq : q p.1 = true
      · rw [List.filter_cons_of_pos (p := fun p : Str × α => q p.1) hq, lk_cons, if_pos rfl, if_pos hq, lk_cons, if_pos rfl]
      · rw [List.filter_cons_of_neg (p := fun p : Str × α => q p.1) hq, ih, if_neg hq, if_neg hq]
    · by_cases hq : q p.1 = true
      · rw [List.filter_cons_of_pos (p := fun p : Str × α => q p.1) hq, lk_cons, if_neg e, ih, lk_cons, if_neg e]
      · rw [List.filter_cons_of_neg (p := fun p : Str × α => q p.1) hq, ih, lk_cons, if_neg e]
theorem lk_joinP {a b : Pr} (ha : (keys a).Nodup) (hb : (keys b).Nodup) (k : Str) : lk (joinP a b) k = match lk a k with | some v => some (v.bind (toO b)) | none => if k ∈ news a then none else lk b k := by
  unfold joinP
  rw [lk_append, show ∀ x : Pr, lk (x.map fun p => (p.1, p.2.bind (toO b))) k = (lk x k).map fun v => v.bind (toO b) from fun x => lk_map2 (fun v : Option Str => v.bind (toO b)) x k, lk_perm (byOlds_self ha) ha, lk_flt (fun o => decide (o ∉ news a)), lk_perm (byOlds_self hb) hb]
  cases lk a k with
  | some v => rfl
  | none =>
    dsimp only [Option.map]
    by_cases h : k ∈ news a <;> simp [h]
theorem byOlds_ext {a b : Pr} (ha : (keys a).Nodup) (hb : (keys b).Nodup) (h : ∀ k, lk a k = lk b k) : byOlds a = byOlds b := by
  have pk : (keys a).Perm (keys b) := by
    refine (List.perm_ext_iff_of_nodup ha hb).mpr fun k => ?_
    have h1 := lk_isSome a k
    have h2 := lk_isSome b k
    rw [h k] at h1
    have := h1.symm.trans h2
    exact decide_eq_decide.mp this
  unfold byOlds
  rw [show srt (keys a) = srt (keys b) from perm_sorted ((srt_perm _).trans (pk.trans (srt_perm _).symm)) (srt_pw _) (srt_pw _)]
  refine List.map_congr_left fun o _ => ?_
  rw [h o]
/-- one behind the other, by where a held name is led -/
theorem toO_join {a b : Pr} (ha : PlOk a) (hb : PlOk b) {nm : List Str} (hf : fitE a nm = none) {k : Str} (hk : k ∈ nm) : toO (joinP a b) k = (toO a k).bind (toO b) := by
  have ⟨f1, f2⟩ := fit_none hf
  unfold toO
  rw [lk_joinP ha.ndo hb.ndo]
  cases h : lk a k with
  | some v => rfl
  | none =>
    have hka : k ∉ keys a := lk_none.mp h
    have hn : k ∉ news a := fun hn => hka (f2 k hn hk)
    dsimp only
    rw [if_neg hn]
    rfl
theorem join_fit {a b : Pr} {nm : List Str} (ha : PlOk a) (hb : PlOk b) (hf : fitE a nm = none) (hg : fitE b (nm.filterMap (toO a)) = none) : joinE a b = none := by
  have ⟨f1, f2⟩ := fit_none hf
  have ⟨g1, g2⟩ := fit_none hg
  refine join_of (fun o ho hka => ?_) fun n hn hna => ?_
  · obtain ⟨m, hm, e⟩ := List.mem_filterMap.mp (g1 o ho)
    unfold toO at e
    cases h : lk a m with
    | none =>
      rw [h] at e
      cases e
      exact absurd hka (lk_none.mp h)
    | some v =>
      rw [h] at e
      have e : v = some o := e
      subst e
      exact List.mem_filterMap.mpr ⟨_, lk_mem h, rfl⟩
  · refine g2 n hn ?_
    obtain ⟨p, hp, e⟩ := List.mem_filterMap.mp hna
    refine List.mem_filterMap.mpr ⟨p.1, f1 _ (List.mem_map.mpr ⟨p, hp, rfl⟩), ?_⟩
    rw [toO_key ha.ndo hp, e]
/-- both together fit ahead of both -/
theorem join_fits {a b : Pr} {nm : List Str} (ha : PlOk a) (hb : PlOk b) (hf : fitE a nm = none) (hg : fitE b (nm.filterMap (toO a)) = none) : fitE (joinP a b) nm = none := by
  have ⟨f1, f2⟩ := fit_none hf
  have ⟨g1, g2⟩ := fit_none hg
  have ka : ∀ o, o ∈ keys (byOlds a) ↔ o ∈ keys a := fun o => (keys_perm (byOlds_self ha.ndo)).mem_iff
  have kb : ∀ o, o ∈ keys (byOlds b) ↔ o ∈ keys b := fun o => (keys_perm (byOlds_self hb.ndo)).mem_iff
  have inK : ∀ o, o ∈ keys (joinP a b) ↔ o ∈ keys a ∨ (o ∈ keys b ∧ o ∉ news a) := fun o => by
    rw [keys_joinP, List.mem_append, ka, List.mem_filter, kb]; simp
  have e1 : lostOf (joinP a b) nm = none := by
    unfold lostOf
    rw [List.find?_eq_none]
    intro o ho
    simp only [decide_eq_true_eq, Decidable.not_not]
    rcases (inK o).mp (mem_srt.mp ho) with h | ⟨h, hn⟩
    · exact f1 o h
    · obtain ⟨m, hm, e⟩ := List.mem_filterMap.mp (g1 o h)
      unfold toO at e
      cases hl : lk a m with
      | none => rw [hl] at e; cases e; exact hm
      | some v =>
        rw [hl] at e
        have e : v = some o := e
        subst e
        exact absurd (show o ∈ news a from List.mem_filterMap.mpr ⟨_, lk_mem hl, rfl⟩) hn
  have e2 : takenOf (joinP a b) nm = none := by
    unfold takenOf
    rw [List.find?_eq_none]
    intro n hn
    simp only [Bool.and_eq_true, decide_eq_true_eq, not_and, Decidable.not_not]
    intro hm
    rw [inK]
    by_cases hka : n ∈ keys a
    · exact .inl hka
    · have hna : n ∉ news a := fun h => hka (f2 n h hm)
      have hin : n ∈ nm.filterMap (toO a) := List.mem_filterMap.mpr ⟨n, hm, toO_free hka⟩
      refine .inr ⟨?_, hna⟩
      have hn := mem_srt.mp hn
      rw [news_joinP, news_flt hb.by.ndo (fun o => decide (o ∉ NN.news a)), toO_by hb.ndo, ← List.filterMap_append] at hn
      obtain ⟨m, hm2, e⟩ := List.mem_filterMap.mp hn
      unfold toO at e
      cases hl : lk b m with
      | some v =>
        rw [hl] at e
        have e : v = some n := e
        subst e
        exact g2 n (List.mem_filterMap.mpr ⟨_, lk_mem hl, rfl⟩) hin
      | none =>
        rw [hl] at e
        cases e
        rcases List.mem_append.mp hm2 with h | h
        · exact absurd ((news_perm (byOlds_self ha.ndo)).mem_iff.mp h) hna
        · exact (kb n).mp (List.mem_filter.mp h).1
  unfold fitE; rw [e1]; dsimp only; rw [e2]
theorem filterMap_join {a b : Pr} {nm : List Str} (ha : PlOk a) (hb : PlOk b) (hf : fitE a nm = none) : nm.filterMap (toO (joinP a b)) = (nm.filterMap (toO a)).filterMap (toO b) := by
  rw [List.filterMap_filterMap]
  exact fm_congr fun k hk => toO_join ha hb hf hk
/-- brackets -/
theorem join_assoc {a b c : Pr} {nm : List Str} (ha : PlOk a) (hb : PlOk b) (hc : PlOk c) (hf : fitE a nm = none) (hg : fitE b (nm.filterMap (toO a)) = none) (hh : fitE c ((nm.filterMap (toO a)).filterMap (toO b)) = none)
    (hab : (keys (joinP a b)).Nodup) (hbc : (keys (joinP b c)).Nodup) (k : Str) : lk (joinP (joinP a b) c) k = lk (joinP a (joinP b c)) k := by
  have ⟨f1, f2⟩ := fit_none hf
  have ⟨g1, g2⟩ := fit_none hg
  have ⟨h1, h2⟩ := fit_none hh
  have nab : ∀ n, n ∈ news (joinP a b) ↔ (∃ m, m ∈ news a ∧ toO b m = some n) ∨ ∃ m, m ∈ keys b ∧ m ∉ news a ∧ toO b m = some n := fun n => by
    rw [news_joinP, news_flt hb.by.ndo (fun o => decide (o ∉ NN.news a)), toO_by hb.ndo, List.mem_append, List.mem_filterMap, List.mem_filterMap]
    refine or_congr ⟨fun ⟨m, hm, e⟩ => ⟨m, (news_perm (byOlds_self ha.ndo)).mem_iff.mp hm, e⟩, fun ⟨m, hm, e⟩ => ⟨m, (news_perm (byOlds_self ha.ndo)).mem_iff.mpr hm, e⟩⟩ ⟨fun ⟨m, hm, e⟩ => ?_, fun ⟨m, hm, hn, e⟩ => ?_⟩
    · have ⟨q1, q2⟩ := List.mem_filter.mp hm
      exact ⟨m, (keys_perm (byOlds_self hb.ndo)).mem_iff.mp q1, by simpa using q2, e⟩
    · exact ⟨m, List.mem_filter.mpr ⟨(keys_perm (byOlds_self hb.ndo)).mem_iff.mpr hm, by simpa using hn⟩, e⟩
  rw [lk_joinP hab hc.ndo, lk_joinP ha.ndo hbc, lk_joinP ha.ndo hb.ndo]
  have key1 : ∀ {n : Str}, n ∈ nm.filterMap (toO a) → toO (joinP b c) n = (toO b n).bind (toO c) := fun h => toO_join hb hc hg h
  cases ea : lk a k with
  | some v =>
    dsimp only
    cases v with
    | none => rfl
    | some n =>
      have hk : k ∈ nm := f1 k (lk_some_key ea)
      have hn : n ∈ nm.filterMap (toO a) := List.mem_filterMap.mpr ⟨k, hk, by unfold toO; rw [ea]; rfl⟩
      show some ((toO b n).bind (toO c)) = some (toO (joinP b c) n)
      rw [key1 hn]
  | none =>
    dsimp only
    have hka : k ∉ keys a := lk_none.mp ea
    cases eb : lk b k with
    | some v =>
      have hkb := lk_some_key eb
      by_cases hn : k ∈ news a
      · rw [if_pos hn, if_pos hn]
        dsimp only
        by_cases hab2 : k ∈ news (joinP a b)
        · rw [if_pos hab2]
        · rw [if_neg hab2]
          refine lk_none.mpr fun hkc => ?_
          obtain ⟨m2, hm2, e2⟩ := List.mem_filterMap.mp (h1 k hkc)
          obtain ⟨m, hm, e1⟩ := List.mem_filterMap.mp hm2
          have hkn : k ∉ nm := fun h => hka (f2 k hn h)
          apply hab2
          rw [nab]
          by_cases hma : m2 ∈ news a
          · exact .inl ⟨m2, hma, e2⟩
          · by_cases hmb : m2 ∈ keys b
            · exact .inr ⟨m2, hmb, hma, e2⟩
            · rw [toO_free hmb] at e2
              cases e2
              exact absurd hn hma
      · rw [if_neg hn, if_neg hn]
        dsimp only
        rw [lk_joinP hb.ndo hc.ndo, eb]
    | none =>
      have hkb := lk_none.mp eb
      have e0 : (if k ∈ news a then (none : Option (Option Str)) else none) = none := by split <;> rfl
      rw [e0, lk_joinP hb.ndo hc.ndo, eb]
      dsimp only
      have hiff : k ∈ news (joinP a b) ↔ k ∈ news b ∨ k ∈ news a := by
        rw [nab]
        constructor
        · rintro (⟨m, hm, e⟩ | ⟨m, hm, hn, e⟩)
          · unfold toO at e
            cases hl : lk b m with
            | none => rw [hl] at e; cases e; exact .inr hm
            | some v =>
              rw [hl] at e
              have e : v = some k := e
              subst e
              exact .inl (List.mem_filterMap.mpr ⟨_, lk_mem hl, rfl⟩)
          · obtain ⟨v, hv⟩ := lk_of_key hm
            unfold toO at e
            rw [hv] at e
            have e : v = some k := e
            subst e
            exact .inl (List.mem_filterMap.mpr ⟨_, lk_mem hv, rfl⟩)
        · rintro (h | h)
          · obtain ⟨p, hp, e⟩ := List.mem_filterMap.mp h
            have ht : toO b p.1 = some k := by rw [toO_key hb.ndo hp, e]
            by_cases hm : p.1 ∈ news a
            · exact .inl ⟨_, hm, ht⟩
            · exact .inr ⟨_, List.mem_map.mpr ⟨p, hp, rfl⟩, hm, ht⟩
          · exact .inl ⟨k, h, toO_free hkb⟩
      by_cases hx : k ∈ news a
      · rw [if_pos hx, if_pos (hiff.mpr (.inr hx))]
      · rw [if_neg hx]
        by_cases hy : k ∈ news b
        · rw [if_pos hy, if_pos (hiff.mpr (.inl hy))]
        · rw [if_neg hy, if_neg (fun h => (hiff.mp h).elim hy hx)]
end NN
/-! what joined and turned do -/
namespace NN
open PySem L2
def spJoined (C : Addr) (L : List Addr) : Sp := fun vs H Q E => ∃ (p o : Addr) (a b : Pr), vs = [.ref p, .ref o] ∧ PlanAt [] C H p a ∧ PlanAt [] C H o b ∧ PlOk a ∧ PlOk b ∧ a.length + b.length ≤ 40 ∧
  (joinE a b = none → ∀ t H', H t = none → Kp [] H H' → (∀ S, Live S H → PlanAt S C H' t (joinP a b)) → Q (.ref t) H') ∧ ∀ e, joinE a b = some e → Leave L e [] E H
def spTurnedP (C : Addr) (L : List Addr) : Sp := fun vs H Q E => ∃ (p : Addr) (a : Pr), vs = [.ref p] ∧ PlanAt [] C H p a ∧ PlOk a ∧
  (turnE a = none → ∀ t H', H t = none → Kp [] H H' → (∀ S, Live S H → PlanAt S C H' t (turnL (byOlds a))) → Q (.ref t) H') ∧ ∀ e, turnE a = some e → Leave L e [] E H
theorem joinE_lost {a b : Pr} {i : Nat} {o : Str} (hj : ∀ j y, j < i → (srt (keys b))[j]? = some y → (decide (y ∈ keys a) && decide (y ∉ news a)) = false) (ho : (srt (keys b))[i]? = some o) (hp : (decide (o ∈ keys a) && decide (o ∉ news a)) = true) : joinE a b = some (2, .v (.str o)) := by
  unfold joinE; rw [find_at hj ho hp]
theorem joinE_held {a b : Pr} {i : Nat} {o : Str} (hl : ((srt (keys b)).find? fun o => decide (o ∈ keys a) && decide (o ∉ news a)) = none) (hj : ∀ j y, j < i → (srt (news b))[j]? = some y → (decide (y ∈ news a) && decide (y ∉ keys b)) = false) (ho : (srt (news b))[i]? = some o) (hp : (decide (o ∈ news a) && decide (o ∉ keys b)) = true) : joinE a b = some (3, .v (.str o)) := by
  unfold joinE; rw [hl]; dsimp only; rw [find_at hj ho hp]
theorem turnE_at {a : Pr} {i : Nat} {o : Str} (hj : ∀ j y, j < i → (byOlds a)[j]? = some y → y.2.isNone = false) (ho : (byOlds a)[i]? = some (o, none)) : turnE a = some (4, .v (.str o)) := by
  unfold turnE goneOf; rw [find_at hj ho rfl]; rfl
theorem op_neDA {X : Cx} (hu : X.A.units + 1 < cLine) : OpR X (compareOp .NotEq) rNeDA := op_ne_dictA (by omega)
theorem op_eqDA {X : Cx} (hu : X.A.units + 1 < cLine) : OpR X (compareOp .Eq) rEqDA := op_eq_dictA (by omega)
theorem thing_flat {v : V} (h : ThingV v) : flatB v = true := by
  rcases h with ⟨n, rfl⟩ | ⟨s, rfl, _⟩ <;> rfl
theorem g_neDA {H : Hp} {Q : VK} {a b : Addr} {th tl : List (Str × V)} (ha : H a = some (.dK (dS th))) (hb : H b = some (.dK (dS tl))) (hl : th.length = tl.length) (nd : (keys tl).Nodup) (hm : ∀ kv ∈ th, kv ∈ tl) (hv : ∀ kv ∈ th, flatB kv.2 = true) (q : Q (.bl false) H) : rNeDA (.ref a) (.ref b) H Q :=
  ⟨a, b, dS th, dS tl, rfl, rfl, ha, hb, by rw [dS_len, dS_len]; exact hl, fun p hp => by
    obtain ⟨kv, hkv, rfl⟩ := List.mem_map.mp hp
    exact ⟨(valV_dS tl kv.1).trans (lk_of_mem nd (hm kv hkv)), hv kv hkv⟩, q⟩
theorem PlOk.flt {prs : Pr} (h : PlOk prs) (q : Str × Option Str → Bool) : PlOk (prs.filter q) := by
  have sub : (prs.filter q).Sublist prs := List.filter_sublist
  have s1 : (keys (prs.filter q)).Sublist (keys prs) := sub.map _
  have s2 : (NN.news (prs.filter q)).Sublist (NN.news prs) := sub.filterMap _
  exact ⟨h.ndo.sublist s1, h.ndn.sublist s2, fun o ho => h.olds o (s1.subset ho), fun n hn => h.news n (s2.subset hn), Nat.le_trans sub.length_le h.len⟩
def staysL (prs : Pr) : Pr := prs.filter fun p => p.2.isSome
def gonesL (prs : Pr) : List Str := (prs.filter fun p => p.2.isNone).map (·.1)
theorem stays_all (prs : Pr) : AllS (staysL prs) := fun p hp e => by
  have := (List.mem_filter.mp hp).2
  rw [e] at this; cases this
theorem stays_news (prs : Pr) : news (staysL prs) = news prs := by
  unfold staysL
  induction prs with
  | nil => rfl
  | cons p r ih =>
    obtain ⟨o, n⟩ := p
    cases n with
    | none => exact ih
    | some n => exact congrArg (n :: ·) ih
theorem stays_or {prs : Pr} (nd : (keys prs).Nodup) {o : Str} (h : o ∈ keys prs) : (o ∈ keys (staysL prs) ∧ o ∉ gonesL prs) ∨ (o ∉ keys (staysL prs) ∧ o ∈ gonesL prs) := by
  obtain ⟨v, hv⟩ := lk_of_key h
  have u : ∀ p ∈ prs, p.1 = o → p.2 = v := fun p hp e => by
    have h1 := lk_of_mem nd (k := p.1) (v := p.2) hp
    rw [e, hv] at h1
    exact (Option.some.inj h1).symm
  cases v with
  | some n =>
    refine .inl ⟨List.mem_map.mpr ⟨_, List.mem_filter.mpr ⟨lk_mem hv, rfl⟩, rfl⟩, fun hg => ?_⟩
    obtain ⟨p, hp, e⟩ := List.mem_map.mp hg
    have ⟨h1, h2⟩ := List.mem_filter.mp hp
    rw [u p h1 e] at h2; cases h2
  | none =>
    refine .inr ⟨fun hg => ?_, List.mem_map.mpr ⟨_, List.mem_filter.mpr ⟨lk_mem hv, rfl⟩, rfl⟩⟩
    obtain ⟨p, hp, e⟩ := List.mem_map.mp hg
    have ⟨h1, h2⟩ := List.mem_filter.mp hp
    rw [u p h1 e] at h2; cases h2
def leftT (th : List (Str × V)) (prs : Pr) : List (Str × V) := th.filter fun kv => decide (kv.1 ∉ gonesL prs)
theorem fit_mk {prs : Pr} {nm : List Str} (h1 : ∀ o ∈ keys prs, o ∈ nm) (h2 : ∀ n ∈ news prs, n ∈ nm → n ∈ keys prs) : fitE prs nm = none := by
  have e1 : lostOf prs nm = none := by
    unfold lostOf; rw [List.find?_eq_none]; intro o ho; have := h1 o (mem_srt.mp ho); simpa using this
  have e2 : takenOf prs nm = none := by
    unfold takenOf; rw [List.find?_eq_none]; intro n hn; have := h2 n (mem_srt.mp hn); simpa using this
  unfold fitE; rw [e1]; dsimp only; rw [e2]
theorem left_keys (th : List (Str × V)) (prs : Pr) : keys (leftT th prs) = (keys th).filter fun n => decide (n ∉ gonesL prs) := by
  unfold leftT keys; rw [List.filter_map]; rfl
theorem stays_fit {prs : Pr} {th : List (Str × V)} (nd : (keys prs).Nodup) (h : fitE prs (keys th) = none) : fitE (staysL prs) (keys (leftT th prs)) = none := by
  have ⟨f1, f2⟩ := fit_none h
  have sub : ∀ o ∈ keys (staysL prs), o ∈ keys prs := fun o ho => by
    obtain ⟨p, hp, e⟩ := List.mem_map.mp ho
    exact List.mem_map.mpr ⟨p, (List.mem_filter.mp hp).1, e⟩
  refine fit_mk (fun o ho => ?_) fun n hn hk => ?_
  · rw [left_keys, List.mem_filter]
    have h1 := sub o ho
    refine ⟨f1 o h1, ?_⟩
    rcases stays_or nd h1 with h | h
    · simpa using h.2
    · exact absurd ho h.1
  · rw [stays_news] at hn
    rw [left_keys, List.mem_filter] at hk
    have h1 := f2 n hn hk.1
    rcases stays_or nd h1 with h | h
    · exact h.1
    · have := hk.2; simp at this; exact absurd h.2 this
theorem turn_toO {prs : Pr} {nm : List Str} (pl : PlOk prs) (al : AllS prs) (h : fitE prs nm = none) {k : Str} (hk : k ∈ nm) : ∃ m, toO prs k = some m ∧ toO (turnL (byOlds prs)) m = some k := by
  have ⟨f1, f2⟩ := fit_none h
  have ndt : (keys (turnL (byOlds prs))).Nodup := pl.by.turn.ndo
  cases e : lk prs k with
  | some v =>
    have hm := lk_mem e
    cases v with
    | none => exact absurd rfl (al _ hm)
    | some m =>
      refine ⟨m, by unfold toO; rw [e]; rfl, ?_⟩
      exact toO_key ndt (p := (m, some k)) (mem_turn.mpr ((byOlds_self pl.ndo).mem_iff.mpr hm))
  | none =>
    refine ⟨k, by unfold toO; rw [e]; rfl, toO_free ?_⟩
    rw [turn_keys]
    intro hn
    have := f2 k ((news_perm (byOlds_self pl.ndo)).mem_iff.mp hn) hk
    exact lk_none.mp e this
theorem turn_fit {prs : Pr} {nm : List Str} (pl : PlOk prs) (al : AllS prs) (h : fitE prs nm = none) : fitE (turnL (byOlds prs)) (nm.filterMap (toO prs)) = none := by
  have ⟨f1, f2⟩ := fit_none h
  have pb := byOlds_self pl.ndo
  refine fit_mk (fun n hn => ?_) fun o ho hm => ?_
  · rw [turn_keys] at hn
    obtain ⟨p, hp, e⟩ := List.mem_filterMap.mp ((news_perm pb).mem_iff.mp hn)
    exact List.mem_filterMap.mpr ⟨p.1, f1 _ (List.mem_map.mpr ⟨p, hp, rfl⟩), by rw [toO_key pl.ndo hp, e]⟩
  · rw [turn_news (al.perm pb)] at ho
    have ho := (keys_perm pb).mem_iff.mp ho
    rw [turn_keys]
    obtain ⟨m, hm2, e⟩ := List.mem_filterMap.mp hm
    cases hl : lk prs m with
    | some v =>
      unfold toO at e
      rw [hl] at e
      have e : v = some o := e
      subst e
      exact (news_perm pb).mem_iff.mpr (List.mem_filterMap.mpr ⟨_, lk_mem hl, rfl⟩)
    | none =>
      unfold toO at e
      rw [hl] at e
      cases e
      exact absurd ho (lk_none.mp hl)
theorem fm_some {α : Type} {f : α → Option α} : ∀ {l : List α}, (∀ x ∈ l, f x = some x) → l.filterMap f = l
  | [], _ => rfl
  | x :: l, h => by rw [List.filterMap_cons, h x (List.mem_cons_self ..), fm_some fun y hy => h y (List.mem_cons_of_mem _ hy)]
theorem behD_back {prs : Pr} {th : List (Str × V)} (pl : PlOk prs) (al : AllS prs) (nd : (keys th).Nodup) (h : fitE prs (keys th) = none) : behD (behD th prs) (turnL (byOlds prs)) = th ∧ (keys (behD th prs)).filterMap (toO (turnL (byOlds prs))) = keys th := by
  have n1 := to_nd pl nd h
  have hk : ∀ k ∈ keys th, (toO prs k).bind (toO (turnL (byOlds prs))) = some k := fun k hk => by
    obtain ⟨m, e1, e2⟩ := turn_toO pl al h hk
    rw [e1]; exact e2
  have e2 : (keys (behD th prs)).filterMap (toO (turnL (byOlds prs))) = keys th := by
    rw [keys_behD n1, List.filterMap_filterMap]
    exact fm_some hk
  refine ⟨?_, e2⟩
  rw [behD_eq (by rw [e2]; exact nd), behD_eq n1, List.filterMap_filterMap]
  refine fm_some fun kv hkv => ?_
  obtain ⟨m, e1, e2⟩ := turn_toO pl al h (List.mem_map.mpr ⟨kv, hkv, rfl⟩)
  rw [e1]
  show Option.map (fun n => (n, kv.2)) (toO (turnL (byOlds prs)) m) = some kv
  rw [e2]; rfl
theorem join_back {prs : Pr} (pl : PlOk prs) (al : AllS prs) : joinE prs (turnL (byOlds prs)) = none ∧ byOlds (joinP prs (turnL (byOlds prs))) = (srt (keys prs)).map fun o => (o, some o) := by
  have pb := byOlds_self pl.ndo
  have hk : ∀ n, n ∈ keys (turnL (byOlds prs)) ↔ n ∈ news prs := fun n => by rw [turn_keys]; exact (news_perm pb).mem_iff
  have hj : joinE prs (turnL (byOlds prs)) = none := join_of (fun o ho _ => (hk o).mp ho) fun n _ hn => (hk n).mpr hn
  refine ⟨hj, ?_⟩
  have nd2 : ∀ l : List Str, keys (l.map fun o => (o, some o)) = l := fun l => by unfold keys; rw [List.map_map]; exact List.map_id _
  have ndk := (srt_perm (keys prs)).nodup_iff.mpr pl.ndo
  have e1 : joinP prs (turnL (byOlds prs)) = (byOlds prs).map fun p => (p.1, some p.1) := by
    unfold joinP
    have : (byOlds (turnL (byOlds prs))).filter (fun p => decide (p.1 ∉ news prs)) = [] := by
      rw [List.filter_eq_nil_iff]
      intro p hp
      have := (hk p.1).mp (byOlds_key hp)
      simpa using this
    rw [this, List.append_nil]
    refine List.map_congr_left fun p hp => ?_
    have hm : p ∈ prs := pb.mem_iff.mp hp
    obtain ⟨o, v⟩ := p
    cases v with
    | none => exact absurd rfl (al _ hm)
    | some n =>
      have := toO_key pl.by.turn.ndo (p := (n, some o)) (mem_turn.mpr hp)
      show (o, toO (turnL (byOlds prs)) n) = (o, some o)
      rw [show toO (turnL (byOlds prs)) n = some o from this]
  have e2 : (byOlds prs).map (fun p => (p.1, some p.1)) = (srt (keys prs)).map fun o => (o, some o) := by
    unfold byOlds; rw [List.map_map]; rfl
  rw [e1, e2]
  unfold byOlds
  rw [nd2, show srt (srt (keys prs)) = srt (keys prs) from perm_sorted (srt_perm _) (srt_pw _) (srt_pw _)]
  refine List.map_congr_left fun o ho => ?_
  rw [lk_of_mem (v := some o) (by rw [nd2]; exact ndk) (List.mem_map.mpr ⟨o, ho, rfl⟩)]; rfl
theorem turn_by {prs : Pr} (pl : PlOk prs) : byOlds (turnL (byOlds prs)) = byOlds (turnL prs) := byOlds_perm (turn_perm (byOlds_self pl.ndo)) pl.turn.ndo
theorem turn_twice {prs : Pr} (pl : PlOk prs) (al : AllS prs) : byOlds (turnL (byOlds (turnL (byOlds prs)))) = byOlds prs := by
  rw [turn_by pl]
  have h1 : (turnL (byOlds (turnL prs))).Perm prs := by
    have := turn_perm (byOlds_self pl.turn.ndo)
    rwa [turn_turn al] at this
  exact byOlds_perm h1 pl.ndo
def toldT (a : Pr) : D := match turnE a with
  | none => .t [.v (.str "good"), encPs (byOlds (turnL (byOlds a)))]
  | some e => .t [.v (.str (wrdOf e.1)), e.2]
def spToldT (C : Addr) : Sp := fun vs H Q _ => ∃ (p : Addr) (a : Pr), vs = [.ref p] ∧ PlanAt [] C H p a ∧ PlOk a ∧
  ∀ r H', H r = none → Kp [] H H' → (∀ S, Live S H → At S H' (.ref r) (toldT a)) → Q (.ref r) H'
theorem told_allS {a : Pr} (nd : (keys a).Nodup) (al : AllS a) : toldT a = .t [.v (.str "good"), encPs (byOlds (turnL (byOlds a)))] := by
  unfold toldT; rw [(allS_none nd).mp al]
theorem told_gone {a : Pr} (nd : (keys a).Nodup) {o : Str} (h : (srt (gonesL a))[0]? = some o) : toldT a = .t [.v (.str "letgo"), .v (.str o)] := by
  have : turnE a = some (4, .v (.str o)) := by unfold turnE; rw [gone_srt nd]; show Option.map _ (srt (gonesL a))[0]? = _; rw [h]; rfl
  unfold toldT; rw [this]
  show D.t [.v (.str (wrdOf 4)), _] = _
  rw [show wrdOf 4 = "letgo" by decide +kernel]
end NN
/-! d.get(None, x) -/
namespace NN
open PySem PySem.Spec PyProof.Rows L2
theorem d_get2N {X : Cx} {pins : List (Addr × Obj)} {σ : L2.St} {H : Hp} {s : Shared} {a : Addr} {kvs : List (Key × V)} {d : V} {r : Value} {A : Around} {E Q : Value → Shared → Prop} (I : L2.Inv X pins σ H s) (e : Rd H a (.dK kvs)) (rd : RelV d r)
    (h : ∀ (w' : Value) (s' : Shared), L2.Inv X pins σ H s' → RelV d w' → Q w' s') : wpAny (model X.prog X.w) A (call (.builtin "dict.get") [.ref a, .none, r]) Q E s := by
  obtain ⟨_, hd, vs, rel, dd⟩ := dk_rd I.hok e
  obtain ⟨f, hm, hf⟩ := none_map dd
  exact call_meetsIn F.slot_dict_get (Heap.DictOf.typeIs dd) F.entry_dict_get (F.args_dict_get_3 (Value.ref a) .none r)
    (meets_dict_get_default (noneKind X.prog X.w) a (k := none) rfl hd r) ⟨f, hm, by rw [hf]; exact h r _ (I.tok _) rd⟩
def tDGet2N (td ty tx : TE) : TE := fun σ H Q => td σ H fun x H1 => ∃ a, x = V.ref a ∧ IsD H1 a ∧ ty σ H1 fun y H2 => tx σ H2 fun z H3 => (∃ o, DGet H3 a y o ∧ Q (o.getD z) H3) ∨ (y = .non ∧ (∃ kvs, Rd H3 a (.dK kvs)) ∧ Q z H3)
theorem pe_dget2N {X : Cx} {o e f : Expr} {apos cpos : Pos} {td ty tx : TE} (hu : X.A.units + 1 < cLine) (ho : PE X o td) (he : PE X e ty) (hf : PE X f tx) (m : M2 X o "get" apos e f cpos) :
    PE X ((o.Attribute "get" apos).Call [e, f] [] cpos) (tDGet2N td ty tx) := by
  refine ⟨fun pins s σ H Q I h => ?_⟩
  refine wpAny_Call_method m.base m.few m.line F.plainAttrs_dict F.slot_dict_get F.type_dict_get (thn (ho.run pins s σ H _ I h) fun u s1 x => ?_)
  obtain ⟨x, H1, I1, rx, a, ex, d, q1⟩ := x
  subst ex
  obtain rfl : u = Value.ref a := rx
  obtain ⟨t1, t2, _⟩ := isD_at I1 d
  refine ⟨t1, t2, ?_⟩
  rw [m.trees]
  refine Calls.callWith_builtin rfl (Calls.evalArgs_plain (Calls.spliced_cons (thn (he.run pins s1 σ H1 _ I1 q1) fun iv s2 x => ?_)))
  obtain ⟨y, H2, I2, ry, q2⟩ := x
  refine Calls.spliced_cons (thn (hf.run pins s2 σ H2 _ I2 q2) fun fv s3 x => ?_)
  obtain ⟨z, H3, I3, rz, q3⟩ := x
  refine Calls.spliced_nil ?_
  rcases q3 with ⟨ov, g, q3⟩ | ⟨rfl, ⟨kvs, g⟩, q3⟩
  · exact d_get2 hu I3 g ry rz fun w' s4 I4 rw' => ⟨_, H3, I4, rw', q3⟩
  · obtain rfl : iv = Value.none := ry
    exact d_get2N I3 g rz fun w' s4 I4 rw' => ⟨z, H3, I4, rw', q3⟩
theorem e_get2N {σ : L2.St} {H : Hp} {Q : VK} {td ty tx : TE} : tDGet2N td ty tx σ H Q = td σ H fun x H1 => ∃ a, x = V.ref a ∧ IsD H1 a ∧ ty σ H1 fun y H2 => tx σ H2 fun z H3 => (∃ o, DGet H3 a y o ∧ Q (o.getD z) H3) ∨ (y = .non ∧ (∃ kvs, Rd H3 a (.dK kvs)) ∧ Q z H3) := rfl
theorem g_get2N {σ : L2.St} {H : Hp} {Q : VK} {td ty tx : TE} (q : td σ H fun x H1 => ∃ a, x = V.ref a ∧ IsD H1 a ∧ ty σ H1 fun y H2 => tx σ H2 fun z H3 => (∃ o, DGet H3 a y o ∧ Q (o.getD z) H3) ∨ (y = .non ∧ (∃ kvs, Rd H3 a (.dK kvs)) ∧ Q z H3)) : tDGet2N td ty tx σ H Q := q
end NN
namespace NN
open PySem L2
def dueJ (a b : Pr) : D := match joinE a b with
  | none => .t [.v (.str "good"), encPs (byOlds (joinP a b))]
  | some e => .t [.v (.str (wrdOf e.1)), e.2]
def spDueJ : Sp := fun vs H Q _ => ∃ (ax bx : Addr) (a b : Pr), vs = [.ref ax, .ref bx] ∧ At [] H (.ref ax) (encPs a) ∧ At [] H (.ref bx) (encPs b) ∧ PlOk a ∧ PlOk b ∧ a.length + b.length ≤ 40 ∧
  ∀ r H', H r = none → Kp [] H H' → (∀ S, Live S H → At S H' (.ref r) (dueJ a b)) → Q (.ref r) H'
def spToldJ (C : Addr) : Sp := fun vs H Q _ => ∃ (p o : Addr) (a b : Pr), vs = [.ref p, .ref o] ∧ PlanAt [] C H p a ∧ PlanAt [] C H o b ∧ PlOk a ∧ PlOk b ∧ a.length + b.length ≤ 40 ∧
  ∀ r H', H r = none → Kp [] H H' → (∀ S, Live S H → At S H' (.ref r) (dueJ a b)) → Q (.ref r) H'
def joinL (a b : Pr) : Pr := (a.map fun p => (p.1, p.2.bind (toO b))) ++ b.filter fun p => decide (p.1 ∉ news a)
theorem joinL_perm {a b : Pr} (ha : (keys a).Nodup) (hb : (keys b).Nodup) : (joinL a b).Perm (joinP a b) :=
  (((byOlds_self ha).symm).map _).append (((byOlds_self hb).symm).filter _)
theorem joinL_by {a b : Pr} (ha : PlOk a) (hb : PlOk b) (h : joinE a b = none) (hl : a.length + b.length ≤ 40) : byOlds (joinL a b) = byOlds (joinP a b) := byOlds_perm (joinL_perm ha.ndo hb.ndo) (ha.join hb h hl).ndo
theorem joinL_ok {a b : Pr} (ha : PlOk a) (hb : PlOk b) (h : joinE a b = none) (hl : a.length + b.length ≤ 40) : PlOk (joinL a b) := (ha.join hb h hl).perm (joinL_perm ha.ndo hb.ndo)
theorem lost_join (a b : Pr) : ((srt (keys b)).find? fun o => decide (o ∈ keys a) && decide (o ∉ news a)) = (srt ((keys b).filter fun o => decide (o ∈ keys a) && decide (o ∉ news a)))[0]? := by
  rw [find_filter, srt_filter]
theorem held_join (a b : Pr) : ((srt (news b)).find? fun n => decide (n ∈ news a) && decide (n ∉ keys b)) = (srt ((news b).filter fun n => decide (n ∈ news a) && decide (n ∉ keys b)))[0]? := by
  rw [find_filter, srt_filter]
theorem joinE_fine {a b : Pr} {e : Err} (hb : PlOk b) (h : joinE a b = some e) (n : Nat) : FineN n e.2 := by
  unfold joinE at h
  cases h1 : (srt (keys b)).find? fun o => decide (o ∈ keys a) && decide (o ∉ news a) with
  | some o =>
    rw [h1] at h; cases h
    exact .str (name_fine (hb.olds o (mem_srt.mp (List.mem_of_find?_eq_some h1))))
  | none =>
    rw [h1] at h
    dsimp only at h
    cases h2 : (srt (news b)).find? fun n => decide (n ∈ news a) && decide (n ∉ keys b) with
    | some o => rw [h2] at h; cases h; exact .str (name_fine (hb.news o (mem_srt.mp (List.mem_of_find?_eq_some h2))))
    | none => rw [h2] at h; cases h
theorem dueJ_fine {a b : Pr} (ha : PlOk a) (hb : PlOk b) (hl : a.length + b.length ≤ 40) : fineD (dueJ a b) := by
  unfold dueJ
  cases h : joinE a b with
  | none =>
    refine FineN.fine (n := 3) (FineN.t (n := 2) fun d hd => ?_) (by decide)
    rcases List.mem_cons.mp hd with rfl | hd
    · exact .str (show PyData.strOk "good" = true by decide +kernel)
    · rw [List.mem_singleton.mp hd]; exact fine_Ps (ha.join hb h hl).by.sh
  | some e =>
    refine FineN.fine (n := 2) (FineN.t (n := 1) fun d hd => ?_) (by decide)
    rcases List.mem_cons.mp hd with rfl | hd
    · exact .str (wrd_fine _)
    · rw [List.mem_singleton.mp hd]; exact joinE_fine hb h 1
theorem behD_by (th : List (Str × V)) {p : Pr} (nd : (keys p).Nodup) : behD th (byOlds p) = behD th p := by unfold behD; rw [toO_by nd]
theorem beh_join {th : List (Str × V)} {a b : Pr} (ha : PlOk a) (hb : PlOk b) (nd : (keys th).Nodup) (hf : fitE a (keys th) = none) (hg : fitE b ((keys th).filterMap (toO a)) = none) : behD th (joinP a b) = behD (behD th a) b ∧ (keys th).filterMap (toO (joinP a b)) = keys (behD (behD th a) b) := by
  have n1 := to_nd ha nd hf
  have n2 := to_nd hb n1 hg
  have k1 := keys_behD n1
  have e := filterMap_join ha hb hf
  have n3 : ((keys th).filterMap (toO (joinP a b))).Nodup := by rw [e]; exact n2
  have n2' : ((keys (behD th a)).filterMap (toO b)).Nodup := by rw [k1]; exact n2
  refine ⟨?_, ?_⟩
  · rw [behD_eq n3, behD_eq n2', behD_eq n1, List.filterMap_filterMap]
    refine fm_congr fun kv hkv => ?_
    have h := toO_join ha hb hf (List.mem_map.mpr ⟨kv, hkv, rfl⟩)
    rw [h]
    cases toO a kv.1 <;> rfl
  · rw [e, keys_behD n2', k1]
theorem beh_val {th : List (Str × V)} {a : Pr} (n1 : ((keys th).filterMap (toO a)).Nodup) (h : ∀ kv ∈ th, ThingV kv.2) : ∀ kv ∈ behD th a, ThingV kv.2 := fun kv hkv => by
  rw [behD_eq n1] at hkv
  obtain ⟨q, hq, e⟩ := List.mem_filterMap.mp hkv
  obtain ⟨n, _, rfl⟩ := Option.map_eq_some_iff.mp e
  exact h q hq
theorem toO_name {a : Pr} (ha : PlOk a) {k n : Str} (hk : isName k = true) (e : toO a k = some n) : isName n = true := by
  unfold toO at e
  cases hl : lk a k with
  | none => rw [hl] at e; cases e; exact hk
  | some v =>
    rw [hl] at e
    have e : v = some n := e
    subst e
    exact ha.news n (List.mem_filterMap.mpr ⟨_, lk_mem hl, rfl⟩)
theorem beh_thG {th : List (Str × V)} {a : Pr} (ha : PlOk a) (ht : ThG th) (hf : fitE a (keys th) = none) : ThG (behD th a) := by
  have n1 := to_nd ha ht.nd hf
  refine ⟨by rw [keys_behD n1]; exact n1, fun k hk => ?_, Nat.le_trans (behD_len th a) ht.len⟩
  rw [keys_behD n1] at hk
  obtain ⟨m, hm, e⟩ := List.mem_filterMap.mp hk
  exact toO_name ha (ht.names m hm) e
theorem g_par {i j : Nat} {ta : TA} {D : Ends} {σ : L2.St} {H : Hp} (q : ta σ H fun vs H1 => ∃ v w, vs = [v, w] ∧ D.nx ((σ.set i (some v)).set j (some w)) H1) : tPar i j ta D σ H := q
end NN
/-! deeds that are played -/
namespace NN
open PySem L2
abbrev Mp := Str → Option V
def upf (m : Mp) (k : Str) (v : Option V) : Mp := fun x => if x = k then v else m x
def stepM (m : Mp) (d : Dd) : Option Mp := match m d.1 with
  | none => none
  | some v => match d.2 with
    | none => some (upf m d.1 none)
    | some n => if (m n).isSome = true then none else some (upf (upf m d.1 none) n (some v))
def playM (m : Mp) : List Dd → Option Mp
  | [] => some m
  | d :: r => (stepM m d).bind fun m' => playM m' r
theorem playM_append (m : Mp) : ∀ (a b : List Dd), playM m (a ++ b) = (playM m a).bind fun m' => playM m' b
  | [], b => rfl
  | d :: r, b => by
    show (stepM m d).bind (fun m' => playM m' (r ++ b)) = ((stepM m d).bind fun m' => playM m' r).bind _
    cases stepM m d with
    | none => rfl
    | some m' => exact playM_append m' r b
theorem step_drop1 {m : Mp} {o : Str} {v : V} (h : m o = some v) : stepM m (o, none) = some (upf m o none) := by unfold stepM; rw [h]
theorem step_move1 {m : Mp} {o n : Str} {v : V} (h : m o = some v) (hn : m n = none) : stepM m (o, some n) = some (upf (upf m o none) n (some v)) := by
  unfold stepM; rw [h]; show (if (m n).isSome = true then none else _) = _; rw [hn]; rfl
/-- where the things of X have gone, and nothing else has changed -/
def Gst (prs : Pr) (m0 : Mp) (X : List Str) : Mp := fun k => match src prs k with
  | some o => if o ∈ X then m0 o else if k ∈ X then none else m0 k
  | none => if k ∈ X then none else m0 k
theorem Gst_congr {prs : Pr} {m0 : Mp} {X Y : List Str} (h : ∀ x, x ∈ X ↔ x ∈ Y) : Gst prs m0 X = Gst prs m0 Y := by
  funext k; unfold Gst; simp only [h]
theorem Gst_nil (prs : Pr) (m0 : Mp) : Gst prs m0 [] = m0 := by
  funext k; unfold Gst; cases src prs k <;> simp
structure Wld (prs : Pr) (m0 : Mp) : Prop where
  pl : PlOk prs
  hold : ∀ o ∈ keys prs, ∃ v, m0 o = some v
  free : ∀ n ∈ news prs, n ∉ keys prs → m0 n = none
structure Clo (prs : Pr) (X : List Str) : Prop where
  key : ∀ o ∈ X, o ∈ keys prs
  nxt : ∀ o ∈ X, ∀ k, nx prs o = some k → k ∈ keys prs → k ∈ X
theorem src_nx {prs : Pr} (pl : PlOk prs) {n o : Str} : src prs n = some o ↔ nx prs o = some n := ⟨fun h => nx_of_mem pl.ndo (src_mem h), fun h => src_some pl.ndn (nx_mem h)⟩
theorem Clo.hold {prs : Pr} {m0 : Mp} {X : List Str} (c : Clo prs X) (w : Wld prs m0) {o : Str} (ho : o ∈ keys prs) (hX : o ∉ X) : ∃ v, m0 o = some v ∧ Gst prs m0 X o = some v := by
  obtain ⟨v, hv⟩ := w.hold o ho
  refine ⟨v, hv, ?_⟩
  unfold Gst
  cases h : src prs o with
  | none => dsimp only; rw [if_neg hX, hv]
  | some o' =>
    have : o' ∉ X := fun hx => hX (c.nxt o' hx o ((src_nx w.pl).mp h) ho)
    dsimp only; rw [if_neg this, if_neg hX, hv]
theorem step_drop {prs : Pr} {m0 : Mp} {X : List Str} (w : Wld prs m0) (c : Clo prs X) {o : Str} (ho : o ∈ keys prs) (hn : nx prs o = none) (hX : o ∉ X) : stepM (Gst prs m0 X) (o, none) = some (Gst prs m0 (o :: X)) ∧ Clo prs (o :: X) := by
  obtain ⟨v, _, hv⟩ := c.hold w ho hX
  refine ⟨?_, ⟨fun x hx => ?_, fun x hx k hk hkk => ?_⟩⟩
  · rw [step_drop1 hv]
    congr 1
    funext x
    unfold upf
    by_cases e : x = o
    · subst e
      rw [if_pos rfl]
      unfold Gst
      cases h : src prs x with
      | none => simp
      | some o' =>
        have h' := (src_nx w.pl).mp h
        have n1 : o' ∉ X := fun hx => hX (c.nxt o' hx x h' ho)
        have n2 : o' ≠ x := fun e => by rw [e, hn] at h'; cases h'
        simp [n1, n2]
    · rw [if_neg e]
      unfold Gst
      cases h : src prs x with
      | none => simp [e]
      | some o' =>
        have n2 : o' ≠ o := fun e2 => by have h' := (src_nx w.pl).mp h; rw [e2, hn] at h'; cases h'
        simp [n2, e]
  · rcases List.mem_cons.mp hx with rfl | hx
    · exact ho
    · exact c.key x hx
  · rcases List.mem_cons.mp hx with rfl | hx
    · rw [hn] at hk; cases hk
    · exact List.mem_cons_of_mem _ (c.nxt x hx k hk hkk)
theorem step_move {prs : Pr} {m0 : Mp} {X : List Str} (w : Wld prs m0) (c : Clo prs X) {o n : Str} (hs : src prs n = some o) (hX : o ∉ X) (hne : o ≠ n) (hn : n ∉ keys prs ∨ n ∈ X) : stepM (Gst prs m0 X) (o, some n) = some (Gst prs m0 (o :: X)) ∧ Clo prs (o :: X) := by
  have hnx := (src_nx w.pl).mp hs
  have ho : o ∈ keys prs := nx_key hnx
  obtain ⟨v, hv0, hv⟩ := c.hold w ho hX
  have hG : Gst prs m0 X n = none := by
    unfold Gst; rw [hs]; dsimp only; rw [if_neg hX]
    by_cases h : n ∈ X
    · rw [if_pos h]
    · rw [if_neg h]; exact w.free n (nx_new hnx) (hn.resolve_right h)
  refine ⟨?_, ⟨fun x hx => ?_, fun x hx k hk hkk => ?_⟩⟩
  · rw [step_move1 hv hG]
    congr 1
    funext x
    unfold upf
    by_cases e1 : x = n
    · subst e1
      rw [if_pos rfl]
      unfold Gst; rw [hs]; simp [hv0]
    · rw [if_neg e1]
      by_cases e : x = o
      · subst e
        rw [if_pos rfl]
        unfold Gst
        cases h : src prs x with
        | none => simp
        | some o' =>
          have h' := (src_nx w.pl).mp h
          have n1 : o' ∉ X := fun hx => hX (c.nxt o' hx x h' ho)
          have n2 : o' ≠ x := fun e2 => by rw [e2, hnx] at h'; exact e1 (Option.some.inj h').symm
          simp [n1, n2]
      · rw [if_neg e]
        unfold Gst
        cases h : src prs x with
        | none => simp [e]
        | some o' =>
          have n2 : o' ≠ o := fun e2 => by have h' := (src_nx w.pl).mp h; rw [e2, hnx] at h'; exact e1 (Option.some.inj h').symm
          simp [n2, e]
  · rcases List.mem_cons.mp hx with rfl | hx
    · exact ho
    · exact c.key x hx
  · rcases List.mem_cons.mp hx with rfl | hx
    · rw [hnx] at hk
      cases hk
      exact List.mem_cons_of_mem _ (hn.resolve_left fun h => h hkk)
    · exact List.mem_cons_of_mem _ (c.nxt x hx k hk hkk)
/-- what has been played -/
structure Plyd (prs : Pr) (m0 : Mp) (X : List Str) (ds : List Dd) (add : Str → Prop) (sps : Nat) (Y : List Str) : Prop where
  play : playM (Gst prs m0 X) ds = some (Gst prs m0 Y)
  clo : Clo prs Y
  nd : Y.Nodup
  len : Y.length + sps = X.length + ds.length
  mem : ∀ x, x ∈ Y ↔ x ∈ X ∨ add x
theorem Plyd.nil {prs : Pr} {m0 : Mp} {X : List Str} {add : Str → Prop} (c : Clo prs X) (nd : X.Nodup) (h : ∀ x, ¬ add x) : Plyd prs m0 X [] add 0 X := ⟨rfl, c, nd, rfl, fun x => ⟨.inl, fun z => z.resolve_right (h x)⟩⟩
theorem Plyd.append {prs : Pr} {m0 : Mp} {X Y Z : List Str} {a b : List Dd} {p q r : Str → Prop} {s t : Nat} (h1 : Plyd prs m0 X a p s Y) (h2 : Plyd prs m0 Y b q t Z) (e : ∀ x, r x ↔ p x ∨ q x) : Plyd prs m0 X (a ++ b) r (s + t) Z :=
  ⟨by rw [playM_append, h1.play]; exact h2.play, h2.clo, h2.nd, by rw [List.length_append]; have := h1.len; have := h2.len; omega, fun x => by rw [h2.mem, h1.mem, e, or_assoc]⟩
theorem drops_play {prs : Pr} {m0 : Mp} (w : Wld prs m0) : ∀ {os : List Str} {X : List Str}, Clo prs X → X.Nodup → os.Nodup → (∀ o ∈ os, o ∈ keys prs ∧ nx prs o = none ∧ o ∉ X) → ∃ Y, Plyd prs m0 X (os.map fun o => (o, none)) (· ∈ os) 0 Y
  | [], X, c, nd, _, _ => ⟨X, .nil c nd (by simp)⟩
  | o :: os, X, c, nd, no, h => by
    have ⟨n1, n2⟩ := List.nodup_cons.mp no
    have ⟨h1, h2, h3⟩ := h o (List.mem_cons_self ..)
    have ⟨s1, s2⟩ := step_drop w c h1 h2 h3
    obtain ⟨Y, hY⟩ := drops_play w (os := os) (X := o :: X) s2 (List.nodup_cons.mpr ⟨h3, nd⟩) n2 fun q hq => ⟨(h q (List.mem_cons_of_mem _ hq)).1, (h q (List.mem_cons_of_mem _ hq)).2.1, fun hx => by
      rcases List.mem_cons.mp hx with e | hx
      · exact n1 (e ▸ hq)
      · exact (h q (List.mem_cons_of_mem _ hq)).2.2 hx⟩
    refine ⟨Y, ?_, hY.clo, hY.nd, ?_, fun x => ?_⟩
    · show (stepM (Gst prs m0 X) (o, none)).bind _ = _
      rw [s1]; exact hY.play
    · have := hY.len; simp only [List.map_cons, List.length_cons] at this ⊢; omega
    · rw [hY.mem]; simp only [List.mem_cons]
      constructor
      · rintro ((h | h) | h)
        · exact .inr (.inl h)
        · exact .inl h
        · exact .inr (.inr h)
      · rintro (h | h | h)
        · exact .inl (.inr h)
        · exact .inl (.inl h)
        · exact .inr h
/-- the names that lead to one, nearest first -/
def backL (prs : Pr) (f : Nat) (n : Str) : List Str := (chainL prs f n).map (·.1)
theorem back_none {prs : Pr} {n : Str} (h : src prs n = none) (f : Nat) : backL prs f n = [] := by unfold backL; rw [chain_none h]; rfl
theorem back_some {prs : Pr} {n o : Str} (h : src prs n = some o) (f : Nat) : backL prs (f + 1) n = o :: backL prs f o := by unfold backL; rw [chain_some h]; rfl
theorem back_zero (prs : Pr) (n : Str) : backL prs 0 n = [] := rfl
theorem back_back {prs : Pr} (pl : PlOk prs) : ∀ (f : Nat) (h : Str) (B : List Str), Back prs (h :: B) → Back prs ((backL prs f h).reverse ++ h :: B)
  | 0, h, B, b => by rw [back_zero]; exact b
  | f + 1, h, B, b => by
    cases e : src prs h with
    | none => rw [back_none e]; exact b
    | some o =>
      rw [back_some e]
      have := back_back pl f o (h :: B) (b.cons ((src_nx pl).mp e))
      rwa [List.reverse_cons, List.append_assoc]
theorem back_nd {prs : Pr} (pl : PlOk prs) {n : Str} (hn : nx prs n = none) (f : Nat) : (n :: backL prs f n).Nodup := by
  have := (back_back pl f n [] (Back.one hn)).nd
  have h2 : ((backL prs f n).reverse ++ [n]).Perm (n :: backL prs f n) := (List.perm_append_comm).trans ((List.reverse_perm _).cons n)
  exact h2.nodup_iff.mp this
theorem back_nx {prs : Pr} (pl : PlOk prs) : ∀ (f : Nat) (n o : Str), o ∈ backL prs f n → ∃ k, nx prs o = some k
  | 0, n, o, h => nomatch h
  | f + 1, n, o, h => by
    cases e : src prs n with
    | none => rw [back_none e] at h; cases h
    | some p =>
      rw [back_some e] at h
      rcases List.mem_cons.mp h with rfl | h
      · exact ⟨n, (src_nx pl).mp e⟩
      · exact back_nx pl f p o h
/-- leads to, over some steps -/
inductive Lead (prs : Pr) : Str → Str → Prop
  | refl (n : Str) : Lead prs n n
  | step {o k n : Str} : nx prs o = some k → Lead prs k n → Lead prs o n
theorem Lead.uniq {prs : Pr} {o n n' : Str} (h : Lead prs o n) (hn : nx prs n = none) : Lead prs o n' → nx prs n' = none → n = n' := by
  induction h with
  | refl n =>
    intro h' hn'
    cases h' with
    | refl => rfl
    | step e _ => rw [hn] at e; cases e
  | step e l ih =>
    intro h' hn'
    cases h' with
    | refl => rw [hn'] at e; cases e
    | step e' l' => rw [e] at e'; cases e'; exact ih hn l' hn'
theorem Lead.noid {prs : Pr} {o n : Str} (h : Lead prs o n) (hn : nx prs n = none) : nx prs o ≠ some o := by
  induction h with
  | refl n => rw [hn]; simp
  | step e l ih => intro e2; rw [e] at e2; cases e2; exact ih hn e
theorem Lead.trans {prs : Pr} {a b c : Str} (h : Lead prs a b) (h' : Lead prs b c) : Lead prs a c := by
  induction h with
  | refl => exact h'
  | step e _ ih => exact .step e (ih h')
theorem back_lead {prs : Pr} (pl : PlOk prs) : ∀ (f : Nat) (n o : Str), o ∈ backL prs f n → Lead prs o n
  | 0, n, o, h => nomatch h
  | f + 1, n, o, h => by
    cases e : src prs n with
    | none => rw [back_none e] at h; cases h
    | some p =>
      have h1 : Lead prs p n := .step ((src_nx pl).mp e) (.refl n)
      rw [back_some e] at h
      rcases List.mem_cons.mp h with rfl | h
      · exact h1
      · exact (back_lead pl f p o h).trans h1
theorem chain_play {prs : Pr} {m0 : Mp} (w : Wld prs m0) : ∀ (f : Nat) (n : Str) (X : List Str), Clo prs X → X.Nodup → (n ∉ keys prs ∨ n ∈ X) → (n :: backL prs f n).Nodup → (∀ o ∈ backL prs f n, o ∉ X) → ∃ Y, Plyd prs m0 X (chainL prs f n) (· ∈ backL prs f n) 0 Y
  | 0, n, X, c, nd, _, _, _ => ⟨X, .nil c nd (by intro x hx; cases hx)⟩
  | f + 1, n, X, c, nd, hn, nb, dj => by
    cases e : src prs n with
    | none => rw [chain_none e, back_none e]; exact ⟨X, .nil c nd (by simp)⟩
    | some o =>
      rw [back_some e] at nb dj
      rw [chain_some e, back_some e]
      have ⟨nb1, nb2⟩ := List.nodup_cons.mp nb
      have ho := dj o (List.mem_cons_self ..)
      have hne : o ≠ n := fun h => nb1 (h ▸ List.mem_cons_self ..)
      have ⟨s1, s2⟩ := step_move w c e ho hne hn
      obtain ⟨Y, hY⟩ := chain_play w f o (o :: X) s2 (List.nodup_cons.mpr ⟨ho, nd⟩) (.inr (List.mem_cons_self ..)) nb2 fun q hq hx => by
        rcases List.mem_cons.mp hx with e | hx
        · exact (List.nodup_cons.mp nb2).1 (e ▸ hq)
        · exact dj q (List.mem_cons_of_mem _ hq) hx
      refine ⟨Y, ?_, hY.clo, hY.nd, ?_, fun x => ?_⟩
      · show (stepM (Gst prs m0 X) (o, some n)).bind _ = _
        rw [s1]; exact hY.play
      · have := hY.len; simp only [List.length_cons] at this ⊢; omega
      · rw [hY.mem]; simp only [List.mem_cons]
        constructor
        · rintro ((h | h) | h)
          · exact .inr (.inl h)
          · exact .inl h
          · exact .inr (.inr h)
        · rintro (h | h | h)
          · exact .inl (.inr h)
          · exact .inl (.inl h)
          · exact .inr h
theorem chains_play {prs : Pr} {m0 : Mp} (w : Wld prs m0) (f : Nat) : ∀ {ns : List Str} {X : List Str}, Clo prs X → X.Nodup → ns.Nodup → (∀ n ∈ ns, nx prs n = none ∧ (n ∉ keys prs ∨ n ∈ X) ∧ ∀ o ∈ backL prs f n, o ∉ X) → ∃ Y, Plyd prs m0 X (ns.flatMap (chainL prs f)) (fun x => ∃ n ∈ ns, x ∈ backL prs f n) 0 Y
  | [], X, c, nd, _, _ => ⟨X, .nil c nd (by simp)⟩
  | n :: ns, X, c, nd, no, h => by
    have ⟨n1, n2⟩ := List.nodup_cons.mp no
    have ⟨h1, h2, h3⟩ := h n (List.mem_cons_self ..)
    obtain ⟨Y, hY⟩ := chain_play w f n X c nd h2 (back_nd w.pl h1 f) h3
    obtain ⟨Z, hZ⟩ := chains_play w f (ns := ns) (X := Y) hY.clo hY.nd n2 fun q hq => ⟨(h q (List.mem_cons_of_mem _ hq)).1, (h q (List.mem_cons_of_mem _ hq)).2.1.imp id fun hx => (hY.mem q).mpr (.inl hx), fun o ho hx => by
      rcases (hY.mem o).mp hx with hx | hx
      · exact (h q (List.mem_cons_of_mem _ hq)).2.2 o ho hx
      · have e := (back_lead w.pl f n o hx).uniq h1 (back_lead w.pl f q o ho) (h q (List.mem_cons_of_mem _ hq)).1
        exact n1 (e ▸ hq)⟩
    refine ⟨Z, ?_⟩
    rw [List.flatMap_cons]
    exact hY.append hZ fun x => by
      constructor
      · rintro ⟨q, hq, hx⟩
        rcases List.mem_cons.mp hq with rfl | hq
        · exact .inl hx
        · exact .inr ⟨q, hq, hx⟩
      · rintro (hx | ⟨q, hq, hx⟩)
        · exact ⟨n, List.mem_cons_self .., hx⟩
        · exact ⟨q, List.mem_cons_of_mem _ hq, hx⟩
/-! ### rings -/
def shiftD : Str → List Str → List Dd
  | _, [] => []
  | a, b :: t => (b, some a) :: shiftD b t
def shiftM (m : Mp) : Str → List Str → Mp
  | _, [] => m
  | a, b :: t => shiftM (upf (upf m b none) a (m b)) b t
theorem shift_play : ∀ (l : List Str) (a : Str) (m : Mp), (a :: l).Nodup → m a = none → (∀ x ∈ l, ∃ v, m x = some v) → playM m (shiftD a l) = some (shiftM m a l)
  | [], _, _, _, _, _ => rfl
  | b :: t, a, m, nd, ha, h => by
    have ⟨n1, n2⟩ := List.nodup_cons.mp nd
    have ⟨n3, n4⟩ := List.nodup_cons.mp n2
    have hab : a ≠ b := fun e => n1 (e ▸ List.mem_cons_self ..)
    obtain ⟨v, hv⟩ := h b (List.mem_cons_self ..)
    show (stepM m (b, some a)).bind _ = _
    rw [step_move1 hv ha]
    show playM (upf (upf m b none) a (some v)) (shiftD b t) = some (shiftM (upf (upf m b none) a (m b)) b t)
    rw [hv]
    refine shift_play t b _ n2 ?_ fun x hx => ?_
    · unfold upf; rw [if_neg hab.symm, if_pos rfl]
    · have x1 : x ≠ a := fun e => n1 (e ▸ List.mem_cons_of_mem _ hx)
      have x2 : x ≠ b := fun e => n3 (e ▸ hx)
      unfold upf; rw [if_neg x1, if_neg x2]
      exact h x (List.mem_cons_of_mem _ hx)
theorem shift_off : ∀ (l : List Str) (a : Str) (m : Mp) (x : Str), x ∉ a :: l → shiftM m a l x = m x
  | [], _, _, _, _ => rfl
  | b :: t, a, m, x, h => by
    have x1 : x ≠ a := fun e => h (e ▸ List.mem_cons_self ..)
    have x2 : x ∉ b :: t := fun e => h (List.mem_cons_of_mem _ e)
    have x3 : x ≠ b := fun e => x2 (e ▸ List.mem_cons_self ..)
    show shiftM (upf (upf m b none) a (m b)) b t x = m x
    rw [shift_off t b _ x x2]
    unfold upf; rw [if_neg x1, if_neg x3]
theorem shift_at : ∀ (l : List Str) (a : Str) (m : Mp) (i : Nat) (y z : Str), (a :: l).Nodup → (a :: l)[i]? = some y → (a :: l)[i + 1]? = some z → shiftM m a l y = m z
  | [], _, _, i, y, z, _, _, hz => by simp at hz
  | b :: t, a, m, i, y, z, nd, hy, hz => by
    have ⟨n1, n2⟩ := List.nodup_cons.mp nd
    have ⟨n3, n4⟩ := List.nodup_cons.mp n2
    have hab : a ≠ b := fun e => n1 (e ▸ List.mem_cons_self ..)
    show shiftM (upf (upf m b none) a (m b)) b t y = m z
    cases i with
    | zero =>
      cases hy
      have hz : b = z := by simpa using hz
      subst hz
      rw [shift_off t b _ a n1]
      unfold upf; rw [if_pos rfl]
    | succ i =>
      rw [shift_at t b _ i y z n2 (by simpa using hy) (by simpa using hz)]
      have hzt : z ∈ t := by
        have : (b :: t)[i + 1]? = some z := by simpa using hz
        exact List.mem_of_getElem? (by simpa using this)
      have z1 : z ≠ a := fun e => n1 (e ▸ List.mem_cons_of_mem _ hzt)
      have z2 : z ≠ b := fun e => n3 (e ▸ hzt)
      unfold upf; rw [if_neg z1, if_neg z2]
theorem shift_last : ∀ (l : List Str) (a : Str) (m : Mp) (z : Str), (a :: l).Nodup → m a = none → (a :: l)[l.length]? = some z → shiftM m a l z = none
  | [], a, m, z, _, ha, hz => by cases hz; exact ha
  | b :: t, a, m, z, nd, ha, hz => by
    have ⟨n1, n2⟩ := List.nodup_cons.mp nd
    have hab : a ≠ b := fun e => n1 (e ▸ List.mem_cons_self ..)
    show shiftM (upf (upf m b none) a (m b)) b t z = none
    refine shift_last t b _ z n2 ?_ (by simpa using hz)
    unfold upf; rw [if_neg hab.symm, if_pos rfl]
theorem shiftD_map : ∀ (l : List Str) (a : Str), shiftD a l = (List.range l.length).map fun k => ((a :: l).getD (k + 1) "", some ((a :: l).getD k ""))
  | [], _ => rfl
  | b :: t, a => by
    show (b, some a) :: shiftD b t = _
    rw [shiftD_map t b, List.length_cons, List.range_succ_eq_map, List.map_cons, List.map_map]
    rfl
theorem rev_getD (r : List Str) (k : Nat) (h : k < r.length) : r.reverse.getD k "" = r.getD (r.length - 1 - k) "" := by
  rw [List.getD_eq_getElem?_getD, List.getD_eq_getElem?_getD, List.getElem?_reverse h]
theorem ringD_shift {r : List Str} {s : Str} (hl : 2 ≤ r.length) : ringD1 r s = shiftD s r.reverse ++ [(s, some (r.getD 0 ""))] := by
  rw [shiftD_map]
  unfold ringD1
  congr 1
  rw [List.length_reverse]
  obtain ⟨L, hL⟩ : ∃ L, r.length = L + 1 := ⟨r.length - 1, by omega⟩
  rw [show r.length - 1 = L by omega, show List.range r.length = List.range (L + 1) by rw [hL], List.range_succ_eq_map, List.map_cons, List.map_map, List.singleton_append]
  congr 1
  · show _ = (r.reverse.getD 0 "", some s)
    rw [rev_getD r 0 (by omega)]
    simp [show r.length - 1 - 0 = L by omega]
  · refine List.map_congr_left fun k hk => ?_
    have hk := List.mem_range.mp hk
    show _ = (r.reverse.getD (k + 1) "", some (r.reverse.getD k ""))
    rw [rev_getD r (k + 1) (by omega), rev_getD r k (by omega), show r.length - 2 - k = r.length - 1 - (k + 1) by omega, show L - k = r.length - 1 - k by omega]
theorem Cyc.fw {prs : Pr} {n : Str} {r : List Str} (h : Cyc prs n r) {x y : Str} (hx : x ∈ r) (e : nx prs x = some y) : y ∈ r := by
  obtain ⟨i, hi⟩ := List.mem_iff_getElem?.mp hx
  have hil := (List.getElem?_eq_some_iff.mp hi).1
  by_cases hl : i + 1 < r.length
  · have hj := List.getElem?_eq_getElem hl
    have := h.way.st i x _ hi hj
    rw [e] at this
    cases this
    exact List.getElem_mem hl
  · obtain ⟨z, hz, ez⟩ := h.up
    have : i = r.length - 1 := by omega
    rw [this, hz] at hi
    cases hi
    rw [e] at ez
    cases ez
    exact List.mem_of_getElem? h.hd
theorem ring_play {prs : Pr} {m0 : Mp} (w : Wld prs m0) {n s : Str} {r X : List Str} (c : Cyc prs n r) (hl : 2 ≤ r.length) (cX : Clo prs X) (ndX : X.Nodup) (dj : ∀ x ∈ r, x ∉ X) (hs : m0 s = none) (hsn : s ∉ news prs) : ∃ Y, Plyd prs m0 X (ringD1 r s) (· ∈ r) 1 Y := by
  have hk := c.keys
  have hsk : s ∉ keys prs := fun h => by obtain ⟨v, e⟩ := w.hold s h; rw [hs] at e; cases e
  have hsr : s ∉ r := fun h => hsk (hk s h)
  have hsX : s ∉ X := fun h => hsk (cX.key s h)
  have hsrc : src prs s = none := by
    cases e : src prs s with
    | none => rfl
    | some o => exact absurd (nx_new ((src_nx w.pl).mp e)) hsn
  have hGs : ∀ Y : List Str, s ∉ Y → Gst prs m0 Y s = none := fun Y hY => by unfold Gst; rw [hsrc]; dsimp only; rw [if_neg hY, hs]
  have hG : ∀ x ∈ r, ∃ v, m0 x = some v ∧ Gst prs m0 X x = some v := fun x hx => cX.hold w (hk x hx) (dj x hx)
  have ndl : (s :: r.reverse).Nodup := List.nodup_cons.mpr ⟨by simpa using hsr, (List.reverse_perm r).nodup_iff.mpr c.way.nd⟩
  have h1 := shift_play r.reverse s (Gst prs m0 X) ndl (hGs X hsX) fun x hx => let ⟨v, _, e⟩ := hG x (by simpa using hx); ⟨v, e⟩
  obtain ⟨z, hz, ez⟩ := c.up
  have rev : ∀ k, k < r.length → r.reverse[k]? = r[r.length - 1 - k]? := fun k h => List.getElem?_reverse h
  have h0 : r.getD 0 "" = n := by rw [List.getD_eq_getElem?_getD, c.hd]; rfl
  have hms : shiftM (Gst prs m0 X) s r.reverse s = Gst prs m0 X z := shift_at r.reverse s _ 0 s z ndl rfl (by
    show r.reverse[0]? = some z
    rw [rev 0 (by omega)]; simpa using hz)
  have hmn : shiftM (Gst prs m0 X) s r.reverse n = none := shift_last r.reverse s _ n ndl (hGs X hsX) (by
    rw [List.length_reverse, show r.length = (r.length - 1) + 1 by omega, List.getElem?_cons_succ, rev _ (by omega), show r.length - 1 - (r.length - 1) = 0 by omega]; exact c.hd)
  obtain ⟨v, hv0, hv⟩ := hG z (List.mem_of_getElem? hz)
  have cY : Clo prs (r ++ X) := ⟨fun x hx => (List.mem_append.mp hx).elim (hk x) (cX.key x), fun x hx k ek hkk => by
    rcases List.mem_append.mp hx with hx | hx
    · exact List.mem_append_left _ (c.fw hx ek)
    · exact List.mem_append_right _ (cX.nxt x hx k ek hkk)⟩
  refine ⟨r ++ X, ?_, cY, List.nodup_append.mpr ⟨c.way.nd, ndX, fun a ha b hb e => dj a ha (e ▸ hb)⟩, ?_, fun x => by rw [List.mem_append]; exact or_comm⟩
  · rw [ringD_shift hl, playM_append, h1, h0]
    show (stepM (shiftM (Gst prs m0 X) s r.reverse) (s, some n)).bind (fun m' => playM m' []) = _
    rw [step_move1 (hms.trans hv) hmn]
    show some (upf (upf (shiftM (Gst prs m0 X) s r.reverse) s none) n (some v)) = _
    congr 1
    funext x
    unfold upf
    by_cases e1 : x = n
    · subst e1
      rw [if_pos rfl]
      unfold Gst
      rw [(src_nx w.pl).mpr ez]
      dsimp only
      rw [if_pos (List.mem_append_left _ (List.mem_of_getElem? hz)), hv0]
    · rw [if_neg e1]
      by_cases e2 : x = s
      · subst e2
        rw [if_pos rfl, hGs _ (by simp [hsr, hsX])]
      · rw [if_neg e2]
        by_cases hx : x ∈ r
        · obtain ⟨i, hi⟩ := List.mem_iff_getElem?.mp hx
          have hil := (List.getElem?_eq_some_iff.mp hi).1
          obtain ⟨j, rfl⟩ : ∃ j, i = j + 1 := by
            cases i with
            | zero => rw [c.hd] at hi; cases hi; exact absurd rfl e1
            | succ j => exact ⟨j, rfl⟩
          obtain ⟨p, hp⟩ : ∃ p, r[j]? = some p := ⟨r[j]'(by omega), List.getElem?_eq_getElem _⟩
          have hnp := c.way.st j p x hp hi
          have hpr := List.mem_of_getElem? hp
          rw [shift_at r.reverse s _ (r.length - 1 - j) x p ndl (by
              rw [show r.length - 1 - j = (r.length - 1 - (j + 1)) + 1 by omega, List.getElem?_cons_succ, rev _ (by omega), show r.length - 1 - (r.length - 1 - (j + 1)) = j + 1 by omega]; exact hi) (by
              rw [List.getElem?_cons_succ, rev _ (by omega), show r.length - 1 - (r.length - 1 - j) = j by omega]; exact hp)]
          obtain ⟨u, hu0, hu⟩ := hG p hpr
          rw [hu]
          unfold Gst
          rw [(src_nx w.pl).mpr hnp]
          dsimp only
          rw [if_pos (List.mem_append_left _ hpr), hu0]
        · rw [shift_off r.reverse s _ x (by simp [e2, hx])]
          unfold Gst
          cases h : src prs x with
          | none => simp [hx]
          | some o =>
            have ho : o ∉ r := fun ho => hx (c.fw ho ((src_nx w.pl).mp h))
            simp [hx, ho]
  · rw [ring_dlen, List.length_append]; omega
theorem rings_play {prs : Pr} {m0 : Mp} (w : Wld prs m0) {s : Str} (hs : m0 s = none) (hsn : s ∉ news prs) : ∀ {rs : List (List Str)} {X : List Str}, Clo prs X → X.Nodup → (∀ r ∈ rs, 2 ≤ r.length ∧ (∃ n, Cyc prs n r) ∧ ∀ x ∈ r, x ∉ X) → rs.Pairwise (fun a b => ∀ x ∈ a, x ∉ b) → ∃ Y, Plyd prs m0 X (rs.flatMap fun r => ringD1 r s) (fun x => ∃ r ∈ rs, x ∈ r) rs.length Y
  | [], X, c, nd, _, _ => ⟨X, .nil c nd (by simp)⟩
  | r :: rs, X, c, nd, h, pw => by
    have ⟨p1, p2⟩ := List.pairwise_cons.mp pw
    have ⟨h1, ⟨n, h2⟩, h3⟩ := h r (List.mem_cons_self ..)
    obtain ⟨Y, hY⟩ := ring_play w h2 h1 c nd h3 hs hsn
    obtain ⟨Z, hZ⟩ := rings_play w hs hsn (rs := rs) (X := Y) hY.clo hY.nd (fun q hq => ⟨(h q (List.mem_cons_of_mem _ hq)).1, (h q (List.mem_cons_of_mem _ hq)).2.1, fun x hx hy => by
      rcases (hY.mem x).mp hy with hy | hy
      · exact (h q (List.mem_cons_of_mem _ hq)).2.2 x hx hy
      · exact p1 q hq x hy hx⟩) p2
    refine ⟨Z, ?_⟩
    rw [List.flatMap_cons, List.length_cons, Nat.add_comm]
    exact hY.append hZ fun x => by
      constructor
      · rintro ⟨q, hq, hx⟩
        rcases List.mem_cons.mp hq with rfl | hq
        · exact .inl hx
        · exact .inr ⟨q, hq, hx⟩
      · rintro (hx | ⟨q, hq, hx⟩)
        · exact ⟨r, List.mem_cons_self .., hx⟩
        · exact ⟨q, List.mem_cons_of_mem _ hq, hx⟩
end NN
/-! all deeds of a plan, played -/
namespace NN
open PySem L2
theorem way_grow {prs : Pr} (pl : PlOk prs) {o : Str} : ∀ (fuel : Nat) (r : List Str), Way prs r → r[0]? = some o → 43 ≤ r.length + fuel → ∃ r' z, Way prs r' ∧ r'[0]? = some o ∧ r'[r'.length - 1]? = some z ∧ (nx prs z = none ∨ nx prs z = some o)
  | 0, r, w, h0, hf => by
    have h1 := w.len
    have h : (news prs).length ≤ prs.length := List.length_filterMap_le ..
    have := pl.len; omega
  | fuel + 1, r, w, h0, hf => by
    have hp : 0 < r.length := (List.getElem?_eq_some_iff.mp h0).1
    have hz : r[r.length - 1]? = some r[r.length - 1] := List.getElem?_eq_getElem (by omega)
    generalize r[r.length - 1] = z at hz
    cases e : nx prs z with
    | none => exact ⟨r, z, w, h0, hz, .inl e⟩
    | some y =>
      by_cases hy : y ∈ r
      · obtain ⟨j, hj⟩ := List.mem_iff_getElem?.mp hy
        cases j with
        | zero => rw [h0] at hj; cases hj; exact ⟨r, z, w, h0, hz, .inr e⟩
        | succ j =>
          exfalso
          have hjl := (List.getElem?_eq_some_iff.mp hj).1
          have hc : r[j]? = some r[j] := List.getElem?_eq_getElem (by omega)
          have h2 := w.st j _ y hc hj
          have h3 := nx_inj pl.ndn h2 e
          have := nd_ix w.nd (i := j) (j := r.length - 1) (x := z) (by rw [hc, h3]) hz
          omega
      · exact way_grow pl fuel (r ++ [y]) (w.snoc hz e hy) (by rw [List.getElem?_append_left hp]; exact h0) (by simp; omega)
theorem way_back {prs : Pr} (pl : PlOk prs) {r : List Str} (w : Way prs r) : ∀ (d f j : Nat) (a b : Str), 1 ≤ d → d ≤ f → r[j]? = some a → r[j + d]? = some b → a ∈ backL prs f b
  | 0, _, _, _, _, h, _, _, _ => by omega
  | d + 1, 0, _, _, _, _, h, _, _ => by omega
  | d + 1, f + 1, j, a, b, _, hf, ha, hb => by
    have hbl := (List.getElem?_eq_some_iff.mp hb).1
    obtain ⟨c, hc⟩ : ∃ c, r[j + d]? = some c := ⟨_, List.getElem?_eq_getElem (by omega)⟩
    have e := w.st (j + d) c b hc (by rw [show j + d + 1 = j + (d + 1) by omega]; exact hb)
    rw [back_some ((src_nx pl).mpr e)]
    by_cases hd : d = 0
    · subst hd
      rw [Nat.add_zero] at hc
      rw [ha] at hc
      cases hc
      exact List.mem_cons_self ..
    · exact List.mem_cons_of_mem _ (way_back pl w d f j a _ (by omega) (by omega) ha hc)
theorem ring_of {prs : Pr} (pl : PlOk prs) {o : Str} {r : List Str} (c : Cyc prs o r) (hl : 2 ≤ r.length) : ∃ q ∈ rings prs, o ∈ q := by
  obtain ⟨x, xs, e⟩ : ∃ x xs, r = x :: xs := by
    cases r with
    | nil => simp at hl
    | cons x xs => exact ⟨x, xs, rfl⟩
  obtain ⟨M, hM, hmin⟩ : ∃ M, M ∈ x :: xs ∧ ∀ y ∈ x :: xs, ¬ sl y M := ⟨_, (minOf_is x xs).1, (minOf_is x xs).2⟩
  rw [← e] at hM hmin
  have hk := c.keys
  obtain ⟨r', z, w', h0, hz, hcase⟩ := way_grow pl 43 [M] (Way.one prs M) rfl (by simp)
  have sub : ∀ (i : Nat) (y : Str), r'[i]? = some y → y ∈ r := by
    intro i
    induction i with
    | zero => intro y hy; rw [h0] at hy; cases hy; exact hM
    | succ i ih =>
      intro y hy
      have hyl := (List.getElem?_eq_some_iff.mp hy).1
      have hc : r'[i]? = some r'[i] := List.getElem?_eq_getElem (by omega)
      exact c.fw (ih _ hc) (w'.st i _ y hc hy)
  have hzr := sub _ z hz
  have up : nx prs z = some M := by
    rcases hcase with h | h
    · exfalso
      obtain ⟨i, hi⟩ := List.mem_iff_getElem?.mp hzr
      have hil := (List.getElem?_eq_some_iff.mp hi).1
      by_cases hl2 : i + 1 < r.length
      · have := c.way.st i z _ hi (List.getElem?_eq_getElem hl2)
        rw [h] at this; cases this
      · obtain ⟨z2, hz2, ez2⟩ := c.up
        rw [show r.length - 1 = i by omega, hi] at hz2
        cases hz2
        rw [h] at ez2; cases ez2
    · exact h
  have c' : Cyc prs M r' := ⟨w', h0, z, hz, up⟩
  obtain ⟨i, hi⟩ := List.mem_iff_getElem?.mp hM
  have hMr' : M ∈ r' := List.mem_of_getElem? h0
  have ho : o ∈ r' := c'.backs pl.ndn c.way i o M hi hMr' c.hd
  have hl' : 1 < r'.length := by
    refine Nat.lt_of_not_le fun h => ?_
    have hp := c'.pos
    have e1 : r'.length = 1 := by omega
    rw [e1] at hz
    have hzM : z = M := by rw [h0] at hz; exact (Option.some.inj hz).symm
    subst hzM
    -- M leads to itself, but the ring has two
    by_cases hl2 : i + 1 < r.length
    · have h2 := c.way.st i z _ hi (List.getElem?_eq_getElem hl2)
      rw [up] at h2
      have h3 := Option.some.inj h2
      have := nd_ix c.way.nd hi (show r[i + 1]? = some z by rw [List.getElem?_eq_getElem hl2, ← h3])
      omega
    · obtain ⟨z2, hz2, ez2⟩ := c.up
      have hil := (List.getElem?_eq_some_iff.mp hi).1
      rw [show r.length - 1 = i by omega, hi] at hz2
      cases hz2
      rw [up] at ez2
      cases ez2
      have := nd_ix c.way.nd hi c.hd
      omega
  refine ⟨r', ?_, ho⟩
  unfold rings
  exact List.mem_filterMap.mpr ⟨M, mem_srt.mpr (hk M hM), ringAt_some ⟨c', hl', fun m hm => by
    obtain ⟨j, hj⟩ := List.mem_iff_getElem?.mp hm
    exact hmin m (sub j m hj)⟩⟩
theorem rings_pw {prs : Pr} (pl : PlOk prs) : (rings prs).Pairwise (fun a b => ∀ x ∈ a, x ∉ b) := by
  unfold rings
  rw [List.pairwise_filterMap]
  have nd : (srt (keys prs)).Nodup := (srt_perm (keys prs)).nodup_iff.mpr pl.ndo
  refine nd.imp fun {n1 n2} hne r1 h1 r2 h2 x hx1 hx2 => hne ?_
  have q1 := ringAt_is h1
  have q2 := ringAt_is h2
  obtain ⟨i, hi⟩ := List.mem_iff_getElem?.mp hx2
  obtain ⟨j, hj⟩ := List.mem_iff_getElem?.mp hx1
  have a1 : n2 ∈ r1 := q1.1.backs pl.ndn q2.1.way i n2 x hi hx1 q2.1.hd
  have a2 : n1 ∈ r2 := q2.1.backs pl.ndn q1.1.way j n1 x hj hx2 q1.1.hd
  by_cases e : n1 = n2
  · exact e
  · rcases sl_or e with h | h
    · exact absurd h (q2.2.2 n1 a2)
    · exact absurd h (q1.2.2 n2 a1)
def goneS (prs : Pr) : List Str := ((byOlds prs).filter fun p => p.2.isNone).map (·.1)
def freeS (prs : Pr) : List Str := (srt (news prs)).filter fun n => decide (n ∉ keys prs)
theorem mem_gone {prs : Pr} (pl : PlOk prs) {o : Str} : o ∈ goneS prs ↔ (o, none) ∈ prs := by
  unfold goneS
  constructor
  · intro h
    obtain ⟨p, hp, e⟩ := List.mem_map.mp h
    have ⟨h1, h2⟩ := List.mem_filter.mp hp
    obtain ⟨q, v⟩ := p
    cases v with
    | none => cases e; exact (byOlds_self pl.ndo).mem_iff.mp h1
    | some v => cases h2
  · intro h
    exact List.mem_map.mpr ⟨_, List.mem_filter.mpr ⟨(byOlds_self pl.ndo).mem_iff.mpr h, rfl⟩, rfl⟩
theorem gone_nx {prs : Pr} (pl : PlOk prs) {o : Str} (h : (o, none) ∈ prs) : nx prs o = none := by unfold nx; rw [lk_of_mem pl.ndo h]; rfl
theorem mem_free {prs : Pr} {n : Str} : n ∈ freeS prs ↔ n ∈ news prs ∧ n ∉ keys prs := by
  unfold freeS; rw [List.mem_filter, mem_srt]; simp
theorem free_nx {prs : Pr} {n : Str} (h : n ∉ keys prs) : nx prs n = none := by unfold nx; rw [lk_none.mpr h]; rfl
theorem gone_nd {prs : Pr} (pl : PlOk prs) : (goneS prs).Nodup := pl.by.ndo.sublist ((List.filter_sublist).map _)
theorem free_nd {prs : Pr} (pl : PlOk prs) : (freeS prs).Nodup := ((srt_perm _).nodup_iff.mpr pl.ndn).filter _
theorem deedsL_eq (prs : Pr) (sp : Option Str) : deedsL prs sp = (goneS prs).map (fun o => (o, none)) ++ (freeS prs ++ goneS prs).flatMap (chainL prs 50) ++ (rings prs).flatMap fun r => ringD1 r (spS sp) := by
  unfold deedsL dropsL goneS freeS
  rw [List.flatMap_append, List.map_map, ← List.append_assoc]
  rfl
/-- whose name changes, or who is let go -/
def Moved (prs : Pr) (o : Str) : Prop := o ∈ keys prs ∧ nx prs o ≠ some o
theorem moved_all {prs : Pr} (pl : PlOk prs) {o : Str} : Moved prs o ↔ o ∈ goneS prs ∨ (∃ n ∈ freeS prs ++ goneS prs, o ∈ backL prs 50 n) ∨ ∃ r ∈ rings prs, o ∈ r := by
  have term : ∀ n ∈ freeS prs ++ goneS prs, nx prs n = none := fun n hn => by
    rcases List.mem_append.mp hn with h | h
    · exact free_nx (mem_free.mp h).2
    · exact gone_nx pl ((mem_gone pl).mp h)
  constructor
  · rintro ⟨hk, hne⟩
    cases e : nx prs o with
    | none =>
      obtain ⟨v, hv⟩ := lk_of_key hk
      unfold nx at e
      rw [hv] at e
      have e : v = none := e
      subst e
      exact .inl ((mem_gone pl).mpr (lk_mem hv))
    | some k =>
      have hko : k ≠ o := fun h => hne (by rw [e, h])
      obtain ⟨r, z, w, h0, hz, hcase⟩ := way_grow pl 43 [o] (Way.one prs o) rfl (by simp)
      have hp : 0 < r.length := (List.getElem?_eq_some_iff.mp h0).1
      have hl : 2 ≤ r.length := by
        refine Nat.le_of_not_lt fun h => ?_
        have e1 : r.length = 1 := by omega
        rw [e1] at hz
        have : z = o := by rw [h0] at hz; exact (Option.some.inj hz).symm
        subst this
        rw [e] at hcase
        rcases hcase with h | h
        · cases h
        · exact hko (Option.some.inj h)
      refine .inr ?_
      rcases hcase with h | h
      · refine .inl ⟨z, ?_, ?_⟩
        · have hq : r[r.length - 2]? = some r[r.length - 2] := List.getElem?_eq_getElem (by omega)
          have hzn := nx_new (w.st (r.length - 2) _ z hq (by rw [show r.length - 2 + 1 = r.length - 1 by omega]; exact hz))
          by_cases hzk : z ∈ keys prs
          · obtain ⟨v, hv⟩ := lk_of_key hzk
            unfold nx at h
            rw [hv] at h
            have h : v = none := h
            subst h
            exact List.mem_append_right _ ((mem_gone pl).mpr (lk_mem hv))
          · exact List.mem_append_left _ (mem_free.mpr ⟨hzn, hzk⟩)
        · have hw := w.len
          have h : (news prs).length ≤ prs.length := List.length_filterMap_le ..
          have := pl.len
          exact way_back pl w (r.length - 1) 50 0 o z (by omega) (by omega) h0 (by rw [Nat.zero_add]; exact hz)
      · exact .inr (ring_of pl ⟨w, h0, z, hz, h⟩ hl)
  · rintro (h | ⟨n, hn, h⟩ | ⟨r, hr, h⟩)
    · have h := (mem_gone pl).mp h
      exact ⟨List.mem_map.mpr ⟨_, h, rfl⟩, by rw [gone_nx pl h]; simp⟩
    · obtain ⟨k, e⟩ := back_nx pl 50 n o h
      exact ⟨nx_key e, (back_lead pl 50 n o h).noid (term n hn)⟩
    · obtain ⟨m, c, hl, _⟩ := rings_mem hr
      refine ⟨c.keys o h, fun e => ?_⟩
      obtain ⟨i, hi⟩ := List.mem_iff_getElem?.mp h
      have hil := (List.getElem?_eq_some_iff.mp hi).1
      by_cases hl2 : i + 1 < r.length
      · have h2 := c.way.st i o _ hi (List.getElem?_eq_getElem hl2)
        rw [e] at h2
        have h3 := Option.some.inj h2
        have := nd_ix c.way.nd hi (show r[i + 1]? = some o by rw [List.getElem?_eq_getElem hl2, ← h3])
        omega
      · obtain ⟨z2, hz2, ez2⟩ := c.up
        rw [show r.length - 1 = i by omega, hi] at hz2
        cases hz2
        rw [e] at ez2
        cases ez2
        have := nd_ix c.way.nd hi c.hd
        omega
theorem lead_ring {prs : Pr} {m : Str} {r : List Str} (c : Cyc prs m r) {o n : Str} (h : Lead prs o n) (ho : o ∈ r) : n ∈ r := by
  induction h with
  | refl => exact ho
  | step e _ ih => exact ih (c.fw ho e)
theorem ring_nx {prs : Pr} {m : Str} {r : List Str} (c : Cyc prs m r) {o : Str} (ho : o ∈ r) : nx prs o ≠ none := by
  obtain ⟨i, hi⟩ := List.mem_iff_getElem?.mp ho
  have hil := (List.getElem?_eq_some_iff.mp hi).1
  by_cases hl2 : i + 1 < r.length
  · rw [c.way.st i o _ hi (List.getElem?_eq_getElem hl2)]; simp
  · obtain ⟨z2, hz2, ez2⟩ := c.up
    rw [show r.length - 1 = i by omega, hi] at hz2
    cases hz2
    rw [ez2]; simp
/-- the whole -/
theorem whole_play {prs : Pr} {m0 : Mp} (w : Wld prs m0) {sp : Option Str} (hs : rings prs ≠ [] → m0 (spS sp) = none ∧ spS sp ∉ news prs) : ∃ Y, Plyd prs m0 [] (deedsL prs sp) (Moved prs) (rings prs).length Y := by
  have pl := w.pl
  rw [deedsL_eq]
  obtain ⟨A, hA⟩ := drops_play w (os := goneS prs) (X := []) ⟨(fun _ h => by cases h), (fun _ h => by cases h)⟩ List.nodup_nil (gone_nd pl) fun o ho => by
    have h := (mem_gone pl).mp ho
    exact ⟨List.mem_map.mpr ⟨_, h, rfl⟩, gone_nx pl h, by simp⟩
  have hAm : ∀ x, x ∈ A ↔ x ∈ goneS prs := fun x => by rw [hA.mem]; simp
  have term : ∀ n ∈ freeS prs ++ goneS prs, nx prs n = none := fun n hn => by
    rcases List.mem_append.mp hn with h | h
    · exact free_nx (mem_free.mp h).2
    · exact gone_nx pl ((mem_gone pl).mp h)
  obtain ⟨B, hB⟩ := chains_play w 50 (ns := freeS prs ++ goneS prs) (X := A) hA.clo hA.nd (List.nodup_append.mpr ⟨free_nd pl, gone_nd pl, fun a ha b hb e => by
      subst e
      exact (mem_free.mp ha).2 (List.mem_map.mpr ⟨_, (mem_gone pl).mp hb, rfl⟩)⟩) fun n hn => ⟨term n hn, by
    rcases List.mem_append.mp hn with h | h
    · exact .inl (mem_free.mp h).2
    · exact .inr ((hAm n).mpr h), fun o ho hx => by
    obtain ⟨k, e⟩ := back_nx pl 50 n o ho
    rw [gone_nx pl ((mem_gone pl).mp ((hAm o).mp hx))] at e
    cases e⟩
  have hAB := hA.append hB (r := fun x => x ∈ goneS prs ∨ ∃ n ∈ freeS prs ++ goneS prs, x ∈ backL prs 50 n) fun x => Iff.rfl
  by_cases hr : rings prs = []
  · refine ⟨B, ?_⟩
    rw [hr, List.flatMap_nil, List.append_nil]
    exact ⟨hAB.play, hAB.clo, hAB.nd, hAB.len, fun x => by rw [hAB.mem, moved_all pl, hr]; simp [or_assoc]⟩
  · have ⟨h1, h2⟩ := hs hr
    obtain ⟨Y, hY⟩ := rings_play w h1 h2 (rs := rings prs) (X := B) hB.clo hB.nd (fun r hr => by
      obtain ⟨m, c, hl, _⟩ := rings_mem hr
      refine ⟨hl, ⟨m, c⟩, fun x hx hxB => ?_⟩
      rcases (hAB.mem x).mp hxB with h | h | ⟨n, hn, h⟩
      · cases h
      · exact ring_nx c hx (gone_nx pl ((mem_gone pl).mp h))
      · exact ring_nx c (lead_ring c (back_lead pl 50 n x h) hx) (term n hn)) (rings_pw pl)
    refine ⟨Y, ?_⟩
    have := hAB.append hY (r := Moved prs) fun x => by rw [moved_all pl, or_assoc]
    rw [show 0 + 0 + (rings prs).length = (rings prs).length by omega] at this
    exact this
/-- what a name holds in the end -/
theorem whole_at {prs : Pr} {m0 : Mp} (w : Wld prs m0) {Y : List Str} (hY : ∀ x, x ∈ Y ↔ Moved prs x) (k : Str) : Gst prs m0 Y k = match src prs k with | some o => m0 o | none => if k ∈ keys prs then none else m0 k := by
  unfold Gst
  cases h : src prs k with
  | some o =>
    have e := (src_nx w.pl).mp h
    dsimp only
    by_cases ho : o ∈ Y
    · rw [if_pos ho]
    · rw [if_neg ho]
      have hne : nx prs o = some o := Classical.byContradiction fun h => ho ((hY o).mpr ⟨nx_key e, h⟩)
      rw [e] at hne
      have e2 := Option.some.inj hne
      subst e2
      rw [if_neg ho]
  | none =>
    dsimp only
    by_cases hk : k ∈ keys prs
    · rw [if_pos hk, if_pos ((hY k).mpr ⟨hk, fun e => by rw [(src_nx w.pl).mpr e] at h; cases h⟩)]
    · rw [if_neg hk, if_neg (fun h => hk ((hY k).mp h).1)]
theorem whole_len {prs : Pr} {Y : List Str} (pl : PlOk prs) (nd : Y.Nodup) (hY : ∀ x, x ∈ Y ↔ Moved prs x) : Y.length = (prs.filter fun p => decide (p.2 ≠ some p.1)).length := by
  have h : Y.Perm ((prs.filter fun p => decide (p.2 ≠ some p.1)).map (·.1)) := by
    refine (List.perm_ext_iff_of_nodup nd (pl.ndo.sublist ((List.filter_sublist).map _))).mpr fun x => ?_
    rw [hY]
    constructor
    · rintro ⟨hk, hne⟩
      obtain ⟨v, hv⟩ := lk_of_key hk
      refine List.mem_map.mpr ⟨(x, v), List.mem_filter.mpr ⟨lk_mem hv, ?_⟩, rfl⟩
      have : nx prs x = v := by unfold nx; rw [hv]; rfl
      rw [this] at hne
      simpa using hne
    · intro h
      obtain ⟨⟨o, v⟩, hp, rfl⟩ := List.mem_map.mp h
      have ⟨h1, h2⟩ := List.mem_filter.mp hp
      refine ⟨List.mem_map.mpr ⟨_, h1, rfl⟩, ?_⟩
      have : nx prs o = v := by unfold nx; rw [lk_of_mem pl.ndo h1]; rfl
      rw [this]
      simpa using h2
  rw [h.length_eq, List.length_map]
end NN
/-! what the law does with deeds -/
namespace NN
open PySem L2
abbrev Th := List (Str × V)
def stepT (th : Th) (d : Dd) : Option Th := match lk th d.1 with
  | none => none
  | some v => match d.2 with
    | none => some (drop th d.1)
    | some n => if n ∈ keys th then none else some (put (drop th d.1) n v)
def playT (th : Th) : List Dd → Option Th
  | [] => some th
  | d :: r => (stepT th d).bind fun t => playT t r
theorem lk_drop_upf (th : Th) (o : Str) : lk (drop th o) = upf (lk th) o none := by funext j; rw [lk_drop]; rfl
theorem lk_put_upf (th : Th) (o n : Str) (v : V) : lk (put (drop th o) n v) = upf (upf (lk th) o none) n (some v) := by
  funext j; rw [lk_put, lk_drop_upf]; rfl
theorem stepT_map {th : Th} {m : Mp} {d : Dd} (nd : (keys th).Nodup) (h : stepM (lk th) d = some m) : ∃ t, stepT th d = some t ∧ lk t = m ∧ (keys t).Nodup := by
  obtain ⟨o, n⟩ := d
  unfold stepM at h
  unfold stepT
  cases e : lk th o with
  | none => rw [e] at h; cases h
  | some v =>
    rw [e] at h
    cases n with
    | none =>
      cases h
      exact ⟨_, rfl, lk_drop_upf th o, nd_keys_drop nd⟩
    | some n =>
      have h : (if (lk th n).isSome = true then none else some (upf (upf (lk th) o none) n (some v))) = some m := h
      rw [lk_isSome] at h
      by_cases hn : n ∈ keys th
      · rw [if_pos (decide_eq_true hn)] at h; cases h
      · rw [if_neg (by simpa using hn)] at h
        cases h
        refine ⟨_, ?_, lk_put_upf th o n v, nd_keys_put (nd_keys_drop nd)⟩
        show (if n ∈ keys th then none else some (put (drop th o) n v)) = _
        rw [if_neg hn]
theorem playT_map : ∀ {ds : List Dd} {th : Th} {m : Mp}, (keys th).Nodup → playM (lk th) ds = some m → ∃ t, playT th ds = some t ∧ lk t = m ∧ (keys t).Nodup
  | [], th, m, nd, h => by cases h; exact ⟨th, rfl, rfl, nd⟩
  | d :: r, th, m, nd, h => by
    have h : (stepM (lk th) d).bind (fun m' => playM m' r) = some m := h
    obtain ⟨m', h1, h2⟩ := Option.bind_eq_some_iff.mp h
    obtain ⟨t, e1, e2, e3⟩ := stepT_map nd h1
    subst e2
    obtain ⟨t', f1, f2, f3⟩ := playT_map e3 h2
    refine ⟨t', ?_, f2, f3⟩
    show (stepT th d).bind _ = _
    rw [e1]; exact f1
theorem lk_behD {th : Th} {prs : Pr} (pl : PlOk prs) (nd : (keys th).Nodup) (hf : fitE prs (keys th) = none) (k : Str) : lk (behD th prs) k = match src prs k with | some o => lk th o | none => if k ∈ keys prs then none else lk th k := by
  have ⟨f1, f2⟩ := fit_none hf
  have n1 := to_nd pl nd hf
  have ndb : (keys (behD th prs)).Nodup := by rw [keys_behD n1]; exact n1
  have mem : ∀ v, (k, v) ∈ behD th prs ↔ ∃ o, (o, v) ∈ th ∧ toO prs o = some k := fun v => by
    rw [behD_eq n1, List.mem_filterMap]
    constructor
    · rintro ⟨⟨o, u⟩, hm, e⟩
      obtain ⟨n, hn, e2⟩ := Option.map_eq_some_iff.mp e
      cases e2
      exact ⟨o, hm, hn⟩
    · rintro ⟨o, hm, hn⟩
      exact ⟨(o, v), hm, by show Option.map _ (toO prs o) = _; rw [hn]; rfl⟩
  refine Option.ext fun v => ?_
  rw [lk_iff ndb, mem]
  cases hs : src prs k with
  | some o =>
    have hnx := (src_nx pl).mp hs
    have hto : toO prs o = some k := toO_key pl.ndo (p := (o, some k)) (nx_mem hnx)
    dsimp only
    rw [lk_iff nd]
    constructor
    · rintro ⟨o', hm, e⟩
      have : o' = o := by
        by_cases ho : o' ∈ keys prs
        · obtain ⟨u, hu⟩ := lk_of_key ho
          unfold toO at e
          rw [hu] at e
          have e : u = some k := e
          subst e
          exact nx_inj pl.ndn (nx_of_mem pl.ndo (lk_mem hu)) hnx
        · rw [toO_free ho] at e
          cases e
          exact absurd (f2 k (nx_new hnx) (List.mem_map.mpr ⟨_, hm, rfl⟩)) ho
      rw [← this]; exact hm
    · intro hm
      exact ⟨o, hm, hto⟩
  | none =>
    dsimp only
    have key : ∀ o, toO prs o = some k → o = k ∧ k ∉ keys prs := fun o e => by
      by_cases ho : o ∈ keys prs
      · obtain ⟨u, hu⟩ := lk_of_key ho
        unfold toO at e
        rw [hu] at e
        have e : u = some k := e
        subst e
        rw [(src_nx pl).mpr (nx_of_mem pl.ndo (lk_mem hu))] at hs
        cases hs
      · rw [toO_free ho] at e
        cases e
        exact ⟨rfl, ho⟩
    by_cases hk : k ∈ keys prs
    · rw [if_pos hk]
      exact ⟨fun ⟨o, _, e⟩ => absurd hk (key o e).2, fun h => by cases h⟩
    · rw [if_neg hk, lk_iff nd]
      constructor
      · rintro ⟨o, hm, e⟩
        rw [← (key o e).1]; exact hm
      · intro hm
        exact ⟨k, hm, toO_free hk⟩
theorem same_lk {a b : Th} (ha : (keys a).Nodup) (hb : (keys b).Nodup) (h : ∀ k, lk a k = lk b k) : a.length = b.length ∧ ∀ kv ∈ a, kv ∈ b := by
  have pk : (keys a).Perm (keys b) := by
    refine (List.perm_ext_iff_of_nodup ha hb).mpr fun k => ?_
    have h1 := lk_isSome a k
    have h2 := lk_isSome b k
    rw [h k] at h1
    exact decide_eq_decide.mp (h1.symm.trans h2)
  refine ⟨by have := pk.length_eq; simpa [keys] using this, fun kv hkv => ?_⟩
  have := lk_of_mem ha (k := kv.1) (v := kv.2) hkv
  rw [h] at this
  exact lk_mem this
/-- the deeds do the plan, one by one -/
theorem deeds_do {th : Th} {prs : Pr} {sp : Option Str} (pl : PlOk prs) (nd : (keys th).Nodup) (hf : fitE prs (keys th) = none) (hs : rings prs ≠ [] → spS sp ∉ keys th ∧ spS sp ∉ news prs) :
    ∃ t, playT th (deedsL prs sp) = some t ∧ (keys t).Nodup ∧ (∀ k, lk t k = lk (behD th prs) k) ∧ (deedsL prs sp).length = (prs.filter fun p => decide (p.2 ≠ some p.1)).length + (rings prs).length := by
  have ⟨f1, f2⟩ := fit_none hf
  have w : Wld prs (lk th) := ⟨pl, fun o ho => lk_of_key (f1 o ho), fun n hn hk => lk_none.mpr fun h => hk (f2 n hn h)⟩
  obtain ⟨Y, hY⟩ := whole_play w (sp := sp) fun hr => ⟨lk_none.mpr (hs hr).1, (hs hr).2⟩
  have hp := hY.play
  rw [Gst_nil] at hp
  obtain ⟨t, e1, e2, e3⟩ := playT_map nd hp
  have hm : ∀ x, x ∈ Y ↔ Moved prs x := fun x => by rw [hY.mem]; simp
  refine ⟨t, e1, e3, fun k => ?_, ?_⟩
  · (rw [e2, whole_at w hm, lk_behD pl nd hf]) <;> (cases src prs k <;> rfl)
  · have h1 := hY.len
    have h2 := whole_len pl hY.nd hm
    simp at h1
    omega
theorem playT_append (th : Th) : ∀ (a b : List Dd), playT th (a ++ b) = (playT th a).bind fun m' => playT m' b
  | [], b => rfl
  | d :: r, b => by
    show (stepT th d).bind (fun m' => playT m' (r ++ b)) = ((stepT th d).bind fun m' => playT m' r).bind _
    cases stepT th d with
    | none => rfl
    | some m' => exact playT_append m' r b
/-- a row of deeds that can be played, cut at i -/
theorem playT_cut {th t : Th} {ds : List Dd} (h : playT th ds = some t) {i : Nat} {d : Dd} (hd : ds[i]? = some d) : ∃ u w, playT th (ds.take i) = some u ∧ stepT u d = some w ∧ playT th (ds.take (i + 1)) = some w := by
  have hl := (List.getElem?_eq_some_iff.mp hd).1
  have e : ds = ds.take i ++ d :: ds.drop (i + 1) := by
    rw [← (List.getElem?_eq_some_iff.mp hd).2, ← List.drop_eq_getElem_cons hl, List.take_append_drop]
  rw [e, playT_append] at h
  obtain ⟨u, h1, h2⟩ := Option.bind_eq_some_iff.mp h
  have h2 : (stepT u d).bind (fun m' => playT m' (ds.drop (i + 1))) = some t := h2
  obtain ⟨w, h3, _⟩ := Option.bind_eq_some_iff.mp h2
  refine ⟨u, w, h1, h3, ?_⟩
  rw [List.take_add_one, hd, playT_append, h1]
  show (stepT u d).bind (fun m' => some m') = _
  rw [h3]; rfl
/-! ### the spare name -/
abbrev SpSt := Option (List (List Str)) × Nat
def spStep (rs : List (List Str)) (s : Str) (st : SpSt) (d : Dd) : Option SpSt :=
  if d.1 ≠ s ∧ d.2 ≠ some s then some st else match d.2 with
  | none => none
  | some n => match st.1 with
    | none => some (some (rs.filter fun r => decide (d.1 ∈ r) && decide (n = s)), st.2 + 1)
    | some fs => if (fs.filter fun r => decide (d.1 = s) && decide (n ∈ r)) = [] then none else some (none, st.2 + 1)
def spRun (rs : List (List Str)) (s : Str) (st : SpSt) : List Dd → Option SpSt
  | [] => some st
  | d :: r => (spStep rs s st d).bind fun t => spRun rs s t r
theorem spRun_append (rs : List (List Str)) (s : Str) (st : SpSt) : ∀ (a b : List Dd), spRun rs s st (a ++ b) = (spRun rs s st a).bind fun t => spRun rs s t b
  | [], b => rfl
  | d :: r, b => by
    show (spStep rs s st d).bind (fun m' => spRun rs s m' (r ++ b)) = ((spStep rs s st d).bind fun m' => spRun rs s m' r).bind _
    cases spStep rs s st d with
    | none => rfl
    | some m' => exact spRun_append rs s m' r b
theorem spRun_cut {rs : List (List Str)} {s : Str} {st t : SpSt} {ds : List Dd} (h : spRun rs s st ds = some t) {i : Nat} {d : Dd} (hd : ds[i]? = some d) : ∃ u w, spRun rs s st (ds.take i) = some u ∧ spStep rs s u d = some w ∧ spRun rs s st (ds.take (i + 1)) = some w := by
  have hl := (List.getElem?_eq_some_iff.mp hd).1
  have e : ds = ds.take i ++ d :: ds.drop (i + 1) := by
    rw [← (List.getElem?_eq_some_iff.mp hd).2, ← List.drop_eq_getElem_cons hl, List.take_append_drop]
  rw [e, spRun_append] at h
  obtain ⟨u, h1, h2⟩ := Option.bind_eq_some_iff.mp h
  have h2 : (spStep rs s u d).bind (fun m' => spRun rs s m' (ds.drop (i + 1))) = some t := h2
  obtain ⟨w, h3, _⟩ := Option.bind_eq_some_iff.mp h2
  refine ⟨u, w, h1, h3, ?_⟩
  rw [List.take_add_one, hd, spRun_append, h1]
  show (spStep rs s u d).bind (fun m' => some m') = _
  rw [h3]; rfl
theorem spRun_skip {rs : List (List Str)} {s : Str} : ∀ {ds : List Dd} (st : SpSt), (∀ d ∈ ds, d.1 ≠ s ∧ d.2 ≠ some s) → spRun rs s st ds = some st
  | [], _, _ => rfl
  | d :: r, st, h => by
    show (spStep rs s st d).bind _ = _
    unfold spStep
    rw [if_pos (h d (List.mem_cons_self ..))]
    exact spRun_skip st fun q hq => h q (List.mem_cons_of_mem _ hq)
theorem ddIn_skip {N : List Str} {s : Str} (hs : s ∉ N) {d : Dd} (h : DdIn N d) : d.1 ≠ s ∧ d.2 ≠ some s := ⟨fun e => hs (e ▸ h.1), fun e => hs (h.2 s e)⟩
theorem spRun_ring {rs : List (List Str)} {s : Str} {r : List Str} (hr : r ∈ rs) (hl : 2 ≤ r.length) (hs : s ∉ r) (c : Nat) : spRun rs s (none, c) (ringD1 r s) = some (none, c + 2) := by
  have gm : ∀ i, i < r.length → r.getD i "" ∈ r := fun i hi => getD_mem hi
  unfold ringD1
  rw [spRun_append, spRun_append]
  have e1 : spRun rs s (none, c) [(r.getD (r.length - 1) "", some s)] = some (some (rs.filter fun q => decide (r.getD (r.length - 1) "" ∈ q) && decide (s = s)), c + 1) := by
    show (spStep rs s (none, c) (r.getD (r.length - 1) "", some s)).bind (fun t => some t) = _
    unfold spStep
    rw [if_neg (by simp)]; rfl
  rw [e1]
  show ((spRun rs s _ _).bind _) = _
  rw [spRun_skip _ fun d hd => ?_]
  · show (spStep rs s _ (s, some (r.getD 0 ""))).bind (fun t => some t) = _
    unfold spStep
    rw [if_neg (by simp)]
    show Option.bind (if ((rs.filter fun q => decide (r.getD (r.length - 1) "" ∈ q) && decide (s = s)).filter fun q => decide (s = s) && decide (r.getD 0 "" ∈ q)) = [] then none else some (none, c + 1 + 1)) _ = _
    rw [if_neg (fun e => ?_)]
    · rfl
    · have : r ∈ ((rs.filter fun q => decide (r.getD (r.length - 1) "" ∈ q) && decide (s = s)).filter fun q => decide (s = s) && decide (r.getD 0 "" ∈ q)) := by
        refine List.mem_filter.mpr ⟨List.mem_filter.mpr ⟨hr, ?_⟩, ?_⟩
        · simp only [decide_true, Bool.and_true, decide_eq_true_eq]; exact gm _ (by omega)
        · simp only [decide_true, Bool.true_and, decide_eq_true_eq]; exact gm _ (by omega)
      rw [e] at this; cases this
  · obtain ⟨k, hk, rfl⟩ := List.mem_map.mp hd
    have := List.mem_range.mp hk
    exact ⟨fun e => hs (by rw [← e]; exact gm _ (by omega)), fun e => hs (by rw [← Option.some.inj e]; exact gm _ (by omega))⟩
theorem spRun_rings {all : List (List Str)} {s : Str} : ∀ {rs : List (List Str)} (c : Nat), (∀ r ∈ rs, r ∈ all ∧ 2 ≤ r.length ∧ s ∉ r) → spRun all s (none, c) (rs.flatMap fun r => ringD1 r s) = some (none, c + 2 * rs.length)
  | [], c, _ => rfl
  | r :: rs, c, h => by
    have ⟨h1, h2, h3⟩ := h r (List.mem_cons_self ..)
    rw [List.flatMap_cons, spRun_append, spRun_ring h1 h2 h3]
    show spRun all s (none, c + 2) _ = _
    rw [spRun_rings (c + 2) fun q hq => h q (List.mem_cons_of_mem _ hq), List.length_cons]
    congr 2
    omega
theorem spare_run {prs : Pr} {sp : Option Str} {s : Str} (h1 : s ∉ keys prs) (h2 : s ∉ news prs) (hs : rings prs ≠ [] → sp = some s) : spRun (rings prs) s (none, 0) (deedsL prs sp) = some (none, 2 * (rings prs).length) := by
  rw [deedsL_eq, spRun_append, spRun_skip _ fun d hd => ddIn_skip (N := keys prs ++ news prs) (by simp [h1, h2]) ?_]
  · show spRun _ s (none, 0) _ = _
    by_cases hr : rings prs = []
    · rw [hr]; rfl
    · rw [hs hr]
      have := spRun_rings (all := rings prs) (s := s) (rs := rings prs) 0 fun r hr => ⟨hr, (rings_shape hr).1, fun h => h1 ((rings_shape hr).2 s h)⟩
      rw [Nat.zero_add] at this
      exact this
  · have k1 : ∀ o ∈ keys prs, o ∈ keys prs ++ news prs := fun o ho => List.mem_append_left _ ho
    have gk : ∀ o ∈ goneS prs, o ∈ keys prs := fun o ho => by
      obtain ⟨p, hp, e⟩ := List.mem_map.mp ho
      rw [← e]; exact byOlds_key (p := p) (List.mem_filter.mp hp).1
    rcases List.mem_append.mp hd with hd | hd
    · obtain ⟨o, ho, rfl⟩ := List.mem_map.mp hd
      exact ⟨k1 o (gk o ho), fun m hm => nomatch hm⟩
    · obtain ⟨n, hn, hd⟩ := List.mem_flatMap.mp hd
      refine chain_in k1 50 n ?_ d hd
      rcases List.mem_append.mp hn with hn | hn
      · exact List.mem_append_right _ (mem_free.mp hn).1
      · exact k1 n (gk n hn)
theorem deeds_len {prs : Pr} (pl : PlOk prs) (sp : Option Str) : (deedsL prs sp).length ≤ 6040 := by
  have hbl : (byOlds prs).length ≤ 40 := by have := (byOlds_self pl.ndo).length_eq; have := pl.len; omega
  have hnl : (srt (news prs)).length ≤ 40 := by have := pl.len; rw [len_srt]; have h : (news prs).length ≤ prs.length := List.length_filterMap_le ..; omega
  have hrl := rings_len pl
  rw [deedsL_parts sp (Nat.le_refl _) (Nat.le_refl _) (Nat.le_refl _), List.length_append, List.length_append, List.length_append]
  have h1 := dropP_len prs (byOlds prs).length
  have h2 := newP_len prs (srt (news prs)).length
  have h3 := goneP_len prs (byOlds prs).length
  have h4 := ringP_len pl sp (rings prs).length
  omega
theorem stepT_nd {th t : Th} {d : Dd} (nd : (keys th).Nodup) (h : stepT th d = some t) : (keys t).Nodup ∧ t.length ≤ th.length + 1 := by
  unfold stepT at h
  have dl : (drop th d.1).length ≤ th.length := List.length_filter_le ..
  cases e : lk th d.1 with
  | none => rw [e] at h; cases h
  | some v =>
    rw [e] at h
    cases hn : d.2 with
    | none => rw [hn] at h; cases h; exact ⟨nd_keys_drop nd, by omega⟩
    | some n =>
      rw [hn] at h
      have h : (if n ∈ keys th then none else some (put (drop th d.1) n v)) = some t := h
      split at h
      · cases h
      · cases h
        refine ⟨nd_keys_put (nd_keys_drop nd), ?_⟩
        have := put_len (drop th d.1) n v
        omega
theorem playT_nd : ∀ {ds : List Dd} {th t : Th}, (keys th).Nodup → playT th ds = some t → (keys t).Nodup ∧ t.length ≤ th.length + ds.length
  | [], th, t, nd, h => by cases h; exact ⟨nd, Nat.le_refl _⟩
  | d :: r, th, t, nd, h => by
    have h : (stepT th d).bind (fun m' => playT m' r) = some t := h
    obtain ⟨m', h1, h2⟩ := Option.bind_eq_some_iff.mp h
    have ⟨n1, l1⟩ := stepT_nd nd h1
    have ⟨n2, l2⟩ := playT_nd n1 h2
    exact ⟨n2, by rw [List.length_cons]; omega⟩
theorem item_D {S S' : List Addr} {H H' : Hp} {vx : List V} {ds : List Dd} {i : Nat} {z : V} (hvx : AtL S H vx (ds.map encDd)) (hz : vx[i]? = some z) (k : Kp S' H H') (hs : ∀ a ∈ S', a ∈ S) : ∃ t d, z = .ref t ∧ ds[i]? = some d ∧ H' t = some (.tup (ddV d)) := by
  obtain ⟨d, hd, hzd⟩ := (hvx.kp k hs).get' hz
  rw [List.getElem?_map] at hd
  obtain ⟨⟨o, n⟩, hpp, rfl⟩ := Option.map_eq_some_iff.mp hd
  cases n with
  | none =>
    obtain ⟨t, ws, rfl, _, ht, hws⟩ := At.isT (ds := [.v (.str "drop"), .v (.str o)]) hzd
    have e : ws = [.str "drop", .str o] := AtL.vals_eq (ws := [.str "drop", .str o]) hws
    subst e
    exact ⟨t, (o, none), rfl, hpp, ht⟩
  | some n =>
    obtain ⟨t, ws, rfl, _, ht, hws⟩ := At.isT (ds := [.v (.str "move"), .v (.str o), .v (.str n)]) hzd
    have e : ws = [.str "move", .str o, .str n] := AtL.vals_eq (ws := [.str "move", .str o, .str n]) hws
    subst e
    exact ⟨t, (o, some n), rfl, hpp, ht⟩
theorem g_dpop {σ : L2.St} {H : Hp} {Q : VK} {td ty : TE} (q : td σ H fun x H1 => ∃ a, x = V.ref a ∧ IsD H1 a ∧ ty σ H1 fun y H2 => ∃ kvs k v, H2 a = some (.dK kvs) ∧ y = kV k ∧ valV kvs k = some v ∧ Q v (upd H2 a (.dK (dropK kvs k)))) : tDPop1 td ty σ H Q := q
def rEqDE : R2 := fun x y H Q => ∃ a b ks, x = V.ref a ∧ y = V.ref b ∧ H a = some (HO.dK ks) ∧ H b = some (HO.dK []) ∧ Q (.bl ks.isEmpty) H
theorem op_eqDE {X : Cx} (hu : X.A.units + 1 < cLine) : OpR X (PySem.compareOp .Eq) rEqDE := by
  intro pins s σ H x y v u Q I rx ry h
  obtain ⟨a, b, ks, rfl, rfl, ea, eb, q⟩ := h
  obtain rfl : v = PySem.Value.ref a := rx
  obtain rfl : u = PySem.Value.ref b := ry
  have h1 := I.hok a (HO.dK ks) ea
  have h2 := I.hok b (HO.dK []) eb
  obtain ⟨_, ya, va, ra, da⟩ := h1
  obtain ⟨_, yb, vb, rb, db⟩ := h2
  have l1 := KV.length ra
  have l2 : 0 = vb.length := KV.length rb
  refine PySem.W.keq_eq (r := true) ya yb da db (by omega) (fun e => hits_all rb ra fun p hp => ?_) (fin_bl I q ?_)
  · exfalso
    have : ks.length = 0 := by omega
    rw [List.length_eq_zero_iff] at this
    rw [this] at hp; cases hp
  · rw [Bool.and_true]
    cases ks with
    | nil => have : va.length = vb.length := by rw [← l1, ← l2]; rfl
             rw [this]; simp
    | cons k ks => have : va.length ≠ vb.length := by rw [← l1, ← l2]; simp
                   simp [this]
def spDone : Sp := fun vs H Q _ => ∃ (d a : Addr) (th t : Th) (ds : List Dd) (ws : List V), vs = [.ref d, .ref a] ∧ H d = some (.dK (dS th)) ∧ (keys th).Nodup ∧ th.length ≤ 40 ∧ H a = some (.lst ws) ∧ AtL [] H ws (ds.map encDd) ∧ ds.length ≤ 10000 ∧ playT th ds = some t ∧
  ∀ q H', H q = none → Kp [] H H' → H' q = some (.dK (dS t)) → Q (.ref q) H'
def spSpareRight : Sp := fun vs H Q _ => ∃ (a rl : Addr) (s : Str) (ds : List Dd) (ws rws : List V) (rs : List (List Str)), vs = [.ref a, .str s, .ref rl] ∧ H a = some (.lst ws) ∧ AtL [] H ws (ds.map encDd) ∧ H rl = some (.lst rws) ∧ AtL [] H rws (ringsD rs) ∧
  s.length = 2 ∧ rs.length ≤ 40 ∧ (∀ r ∈ rs, ∀ n ∈ r, fineS n) ∧ ds.length ≤ 10000 ∧ spRun rs s (none, 0) ds = some (none, 2 * rs.length) ∧ ∀ H', Kp [] H H' → Q (.bl true) H'
def spAsked (C : Addr) : Sp := fun vs H Q _ => ∃ (p a : Addr) (prs : Pr) (nm : List Str) (sp : Option Str), vs = [.ref p, .ref a, oV sp] ∧ PlanAt [] C H p prs ∧ PlOk prs ∧ H a = some (.lst (nm.map V.str)) ∧ SpF sp ∧ deedsE prs nm sp = none ∧
  ∀ q ws H', H q = none → Kp [] H H' → H' q = some (.lst ws) → (∀ S, Live S H → AtL (q :: S) H' ws ((deedsL prs sp).map encDd)) → Q (.ref q) H'
theorem inV_dd {s : Str} (hs : s.length = 2) (d : Dd) : inV (.str s) (ddV d) = !(decide (d.1 ≠ s) && decide (d.2 ≠ some s)) := by
  have e1 : s ≠ "move" := fun e => by rw [e] at hs; revert hs; decide +kernel
  have e2 : s ≠ "drop" := fun e => by rw [e] at hs; revert hs; decide +kernel
  obtain ⟨o, n⟩ := d
  cases n with
  | none =>
    have : ddV (o, none) = [("drop" : Str), o].map V.str := rfl
    rw [this, inV_strs]
    by_cases h : o = s
    · simp [h]
    · have h' : s ≠ o := fun e => h e.symm
      simp [e2, h, h']
  | some n =>
    have : ddV (o, some n) = [("move" : Str), o, n].map V.str := rfl
    rw [this, inV_strs]
    by_cases h : o = s
    · simp [h]
    · have h' : s ≠ o := fun e => h e.symm
      by_cases h2 : n = s
      · simp [h2]
      · have h2' : s ≠ n := fun e => h2 e.symm
        simp [e1, h', h2', h, h2]
theorem ddV_flat (d : Dd) : (ddV d).all flatV = true := by
  obtain ⟨o, n⟩ := d
  cases n <;> rfl
theorem g_eqNilD {K : PySem.W.Frag} {S : List Addr} {H : Hp} {Q : VK} {x : V} {b : Addr} {ds : List D} (h1 : At S H x (.l ds)) (hb : H b = some (.lst [])) (f : fineD (.l ds)) (q : Q (.bl ds.isEmpty) H) : rEqU K x (.ref b) H Q := by
  obtain ⟨p, e, c, dd⟩ := f
  have h2 : At [] H (.ref b) (.l []) := .l (by simp) hb .nil
  refine g_eqD (h1.dp e) (h2.dp (p := .list []) rfl) (shaped_of c dd) (shaped_of (p := .list []) rfl (by decide)) ?_
  cases ds with
  | nil => cases e; exact q
  | cons d ds => obtain ⟨x, xs, rfl⟩ := pys_ne e; exact q
theorem fine_ringsL {rs : List (List Str)} (h : ∀ r ∈ rs, ∀ n ∈ r, fineS n) : FineN 2 (.l (ringsD rs)) := FineN.l (n := 1) fun d hd => by
  obtain ⟨r, hr, rfl⟩ := List.mem_map.mp hd
  refine FineN.t (n := 0) fun d hd => ?_
  obtain ⟨n, hn, rfl⟩ := List.mem_map.mp hd
  exact FineN.str (h r hr n hn)
end NN
/-! errors as values; repr, where nothing else is being told; a law that asks for it -/
namespace NN
open PySem PySem.Spec PyProof.Rows L2
section
variable {X : Cx}
/-- NoName(e): no __init__ of its own -/
theorem pe_excV {C : Addr} {bmB : List Value} {B newId initId : String} {x : Str} {e : Expr} {te : TE} {p pos : Pos} (F : ExcBaseFacts B newId initId bmB) (hx : PySem.W.excIn X.K C bmB newId = true) (gC : X.mg x = some (.ref C)) (kC : PySem.W.keepIn X.K (.ref C) = true)
    (he : PE X e te) (hg : Gl X x := by rfl) (hs : starEach [e] X.env = (false, eval e X.env) :: starEach [] X.env := by rfl) (hdb : (x == ("__debug__" : Str)) = false := by decide) :
    PE X (.Call (.Name x p) [e] [] pos) (fun σ H Q => te σ H fun _ H1 => ∀ a, H1 a = none → Q (.ref a) (upd H1 a (exk a (.ref C) none))) := by
  constructor
  intro pins s σ H Q I h
  apply wpAny_Call_Name_kw (ld_glob I hg gC _ hdb)
  apply PySem.W.callWith_K (h₀ := X.base) I.ok.mod.kin kC _ hs rfl
  rw [hs]
  show wpAny _ _ (spliced ((false, eval e X.env) :: backTo pos (starEach [] X.env))) _ _ s
  apply Calls.spliced_cons
  apply thn (he.run pins s σ H _ I h)
  rintro u s1 ⟨v, H1, I1, r1, q1⟩
  apply Calls.spliced_nil
  refine ⟨I1.kIn, ?_⟩
  show wpAny _ _ (call (.ref C) [u]) _ _ _
  obtain ⟨m1, m2, m3, m4, m5, m6, m7, m8, m9, m10, m11, m12, m13, m14, m15, m16, m17, hC, hN, hni, T⟩ := exc_obj I1.kIn hx
  refine wpAny_call_exc_subT F T hC hN hni (fun h2 a hm => ?_) (by show 1 ≤ sizeLine; rw [sizeLine_eq]; omega)
  have free : H1 a = none := I1.hok.gone hm.new
  obtain ⟨t, ht, _⟩ := hm.there
  exact ⟨.ref a, _, I1.laidN hm.keeps hm.new free (exk_ok ht ⟨rfl, rfl⟩ rfl), rfl, q1 a free⟩
/-- C(e), C with an __init__ of its own -/
theorem pe_oexV {k : Nat} {x : Str} {C : Addr} {ps : List Str} {sp : Sp} {e : Expr} {es : List Expr} {ta : TA} {p pos : Pos} (F : XmAt X.prog X.w X.K X.mg X.base k x C ps sp) (hr : Room (k + 1) X.A) (ha : PA X (e :: es) ta) (hg : Gl X x := by rfl)
    (hdb : (x == ("__debug__" : Str)) = false := by decide) (he : starEach (e :: es) X.env = (false, eval e X.env) :: starEach es X.env := by rfl) (hpl : (backTo pos (starEach es X.env)).any (·.1) = false := by rfl) :
    PE X (.Call (.Name x p) (e :: es) [] pos) (fun σ H Q => ta σ H fun vs H1 => vs.length ≤ 1000 ∧ ∀ a, H1 a = none → sp (.ref a :: vs) (upd H1 a (exo a C none)) (fun v H2 => v = .non ∧ Q (.ref a) H2) fun _ _ _ => False) := by
  obtain ⟨fI, fd, hm, T, iC, tI, hb, F1⟩ := F
  constructor
  intro pins s σ H Q I h
  obtain ⟨n1, n2, n3, n4, bm, n6, n7, n8, n9, n10, n11, n12, n13, n14, n15, hC, hbm⟩ := T.cls
  apply wpAny_Call_Name_kw (ld_glob I hg hm _ hdb)
  refine PySem.W.callWith_K (h₀ := X.base) I.ok.mod.kin T.kC (thn (ha.run pos pins s σ H _ I h) fun us s1 y => ?_) he hpl
  obtain ⟨vs, H1, I1, r1, hz, q1⟩ := y
  refine ⟨I1.kIn, ?_⟩
  show wpAny _ _ (call (.ref C) us) _ _ _
  obtain ⟨h1, gs, dr, tk, os⟩ := s1
  have la : h1.objs.size ≤ h1.objs.size + 1 := Nat.le_succ _
  generalize ea : h1.objs.size + 1 = a at la
  have free : H1 a = none := I1.hok.fresh la
  have keep : ∀ b o, h1.get? b = some o → ((h1.push (PySem.W.kdv_tup us)).push (PySem.HandSPX.excO C h1.objs.size)).get? b = some o := fun b o z => Heap.get?_push_of_some _ (Heap.get?_push_of_some _ z)
  have there : ((h1.push (PySem.W.kdv_tup us)).push (PySem.HandSPX.excO C h1.objs.size)).get? a = some (PySem.HandSPX.excO C h1.objs.size) := by rw [← ea]; heap_get
  have I2 : Inv X pins σ (upd H1 a (exo a C none)) ⟨(h1.push (PySem.W.kdv_tup us)).push (PySem.HandSPX.excO C h1.objs.size), gs, dr, tk, os⟩ := I1.laid (t' := tk) keep la (exo_ok there)
  have hq := q1 a free
  have r2 : Vals (V.ref a :: vs) (Value.ref a :: us) := .cons rfl r1
  have hlen : (Value.ref a :: us ++ ([] : List Value)).length = ps.length := by
    rw [List.append_nil, ← F1.len _ _ _ _ hq]; exact r2.length.symm
  have hus : us.length ≤ sizeLine := by rw [← Paired.length r1, sizeLine_eq]; omega
  have hbind := hb _ (Value.ref a :: us) I2.kIn (by simpa using hlen)
  rw [List.append_nil] at hbind
  refine wpAny_call (PySem.HandSPX.call_own F.excBase_ValueError (fun Y => PySem.HandSPX.refsVE_contains Y bm hbm) (I1.kIn _ _ hC) (PySem.W.looks_findIn I1.kIn iC) (fun self => PySem.W.bind_fn I1.kIn self tI) hus ?_)
  rw [ea]
  refine codeAny_mono (F1.run _ X.stack _ _ ⟨Value.ref a :: us, []⟩ (Value.ref a :: us) _ _ (fun _ _ _ => False) (hr.make C us []) (I2.env0.make C us []) hbind r2 hq) fun r s2 z => ?_
  cases r with
  | error er => exact False.elim z
  | ok fl =>
    cases fl with
    | next => exact False.elim z
    | brk => exact False.elim z
    | cont => exact False.elim z
    | ret u =>
      obtain ⟨v, H2, os2, bare2, un2, hok2, rv, ev, q2⟩ := z
      subst ev
      have na : ∀ {b : Addr} {o : Obj}, h1.get? b = some o → b ≠ a := fun {b o} z => Nat.ne_of_lt (Nat.lt_of_lt_of_le (Heap.lt_size z) (by omega))
      have up : ∀ {b : Addr}, b ≠ a → H1 b = none → upd H1 a (exo a C none) b = none := fun {b} hb n => by rw [upd_ne hb]; exact n
      have up2 : ∀ {b : Addr} {o : HO}, H1 b = some o → upd H1 a (exo a C none) b = some o := fun {b o} z => by rw [upd_ne (ne_of_none z free)]; exact z
      have U : Un (frs X.stack) [] H1 H2 h1 s2.heap := {
        keep := fun b o z n hf hx => un2.keep b o (keep b o z) (up (na z) n) hf hx
        slot := fun b o z n hf hx => un2.slot b o (keep b o z) (up (na z) n) hf hx
        free := fun b o z n hx => un2.free b o (keep b o z) (up (na z) n) hx
        there := fun b o z hx => un2.there b o (keep b o z) hx
        tups := fun b xs z => un2.tups b xs (up2 z)
        frzs := fun b o v z => un2.frzs b o v (up2 z)
        tbls := fun b ps z => un2.tbls b ps (up2 z) }
      exact ⟨rv, .ref a, H2, I1.call' (ch := []) os2 U hok2 bare2 (fun b z => absurd z (by simp)), rfl, q2⟩
/-- the reading of C(e) as a value: a is the error, dx its own dict, both new -/
def tXv (C : Addr) (f : Str) (ok : V → Hp → Prop) (t : TA) : TE := fun σ H Q => t σ H fun vs H1 => ∃ y, vs = [y] ∧ (∀ a, H1 a = none → ok y (upd H1 a (exo a C none))) ∧ ∀ a dx H2, H1 a = none → H1 dx = none → dx ≠ a → Kp [] H1 H2 → IsE H2 a (.ref C) (some dx) → HasF H2 (some dx) [(f, y)] → Q (.ref a) H2
theorem te_cl {X : Cx} {e : Expr} {t : TE} (h : PE X e t) : PE X e (fun σ H R => ∃ Q, t σ H Q ∧ ∀ v H1, Q v H1 → R v H1) := ⟨fun pins s σ H R I z => wpAny_mono (h.run pins s σ H z.choose I z.choose_spec.1) (fun u s1 y => let ⟨v, H1, I1, r, q⟩ := y; ⟨v, H1, I1, r, z.choose_spec.2 v H1 q⟩) fun _ _ x => x⟩
theorem pe_xv {k : Nat} {x : Str} {C : Addr} {ps : List Str} {f : Str} {ok : V → Hp → Prop} {e : Expr} {es : List Expr} {t : TA} {p pos : Pos} (F : XmAt X.prog X.w X.K X.mg X.base k x C ps (spXm C f ok)) (hr : Room (k + 1) X.A) (ha : PA X (e :: es) t) (hg : Gl X x := by rfl)
    (hdb : (x == ("__debug__" : Str)) = false := by decide) (he : starEach (e :: es) X.env = (false, eval e X.env) :: starEach es X.env := by rfl) (hpl : (backTo pos (starEach es X.env)).any (·.1) = false := by rfl) :
    PE X (.Call (.Name x p) (e :: es) [] pos) (tXv C f ok t) := by
  constructor
  intro pins s σ H Q I h
  refine (pe_oexV F hr (pa_cl ha) hg hdb he hpl).run pins s σ H Q I ⟨_, h, fun vs H1 z => ?_⟩
  obtain ⟨y, rfl, ho, q⟩ := z
  refine ⟨by simp, fun a na => ⟨a, y, rfl, upd_same, ho a na, fun dx ndx ne => ⟨rfl, ?_⟩⟩⟩
  have nd : H1 dx = none := by rw [upd_ne ne] at ndx; exact ndx
  refine q a dx _ na nd ne (fun b o e _ => ?_) (.inr ⟨C, rfl, upd_same⟩) (.inr ?_)
  · rw [upd_ne (ne_of_none e na), upd_ne (ne_of_none e nd), upd_ne (ne_of_none e na)]; exact e
  · rw [upd_ne ne]; exact upd_same
/-! ### repr -/
def rReprG (K : PySem.W.Frag) : List V → Hp → VK → Prop := fun xs H Q => ∃ (x : V) (d : PyData), xs = [x] ∧ Dp K H x d ∧ d.showable = true ∧ d.hasDict = false ∧ d.depth ≤ 10 ∧ d.shown.length ≤ sizeLine ∧ Q (.str d.shown) H
theorem call_reprG {K : PySem.W.Frag} (hK : X.K = K) (hg : X.A.guards = some []) (hu : X.A.units + 64 < cLine) : CallR X (.builtin "repr") (rReprG K) := by
  subst hK
  intro pins s σ H xs us Q I r h
  obtain ⟨x, d, rfl, hd, h1, h2, h3, h4, q⟩ := h
  cases r with
  | cons rx rr =>
    cases rr
    rename_i u
    obtain ⟨as, hr⟩ := Dp.reads I d x u hd rx
    cases hr with
    | none => exact PySem.P.repr_of_none ⟨.str _, H, I.tok _, ⟨_, rfl⟩, q⟩
    | bool => exact PySem.P.repr_of_bool ⟨.str _, H, I.tok _, ⟨_, rfl⟩, q⟩
    | int => exact PySem.P.repr_of_int (by simpa [PyData.showable] using h1) ⟨.str _, H, I.tok _, ⟨_, rfl⟩, q⟩
    | str => exact PySem.P.repr_of_str ⟨.str _, H, I.tok _, ⟨_, rfl⟩, q⟩ h4
    | list a b c d => exact PySem.repr_of_reads' (.list a b c d) h1 (fun z => by rw [h2] at z; cases z) hg (by omega) (fun b o z => z) (fun h' u tk hk => ⟨.str _, H, I.kept hk, ⟨_, rfl⟩, q⟩) h4
    | tuple a b c d => exact PySem.repr_of_reads' (.tuple a b c d) h1 (fun z => by rw [h2] at z; cases z) hg (by omega) (fun b o z => z) (fun h' u tk hk => ⟨.str _, H, I.kept hk, ⟨_, rfl⟩, q⟩) h4
    | dict a b c d e => cases h2
end
/-! ### a law's def, where nothing is being told -/
structure LawG (P : Program) (w : World) (K : PySem.W.Frag) (mg : Str → Option Value) (base : Heap) (k : Nat) (f : Addr) (fd : FuncData) (ps : List Str) (sp : Sp) : Prop where
  run : ∀ (s : Shared) (H : Hp) (args : Args) (us : List Value) (vs : List V) (Q : VK), Env0 P w K mg base callerA [] s H → BindsTo s fd args (ps.zip us) → Vals vs us → sp vs H Q (fun _ _ _ => False) →
    codeAny (model P w) callerA (.call (.ref f) args) (CR CX0 [] P w H s Q fun _ _ _ => False) s
theorem guards_deeper (A : Around) (env : Env) : (A.deeper env).guards = A.guards := rfl
section
variable {P : Program} {w : World} {K : PySem.W.Frag} {mg : Str → Option Value} {base : Heap}
theorem okG {x qual : Str} {st : Stmt} {f : Addr} {fd : FuncData} {N ps : List Str} {k : Nat} {sp : Sp} (F : Fun K x qual st f fd) (S : FnScope N ps (defScope st)) (hk : Room (k + 1) callerA) (len : ∀ vs H Q E, sp vs H Q E → vs.length = ps.length)
    (body : ∀ (cdv : Value) (s : Shared) (H : Hp) (vs : List V) (Q : VK), Room k (callerA.deeper (envOfC qual (defScope st) s.heap.objs.size f cdv)) → sp vs H Q (fun _ _ _ => False) →
      ∃ t, PSs (cxOf CX0 P w K mg base N qual (defScope st) f cdv callerA [] s H fun _ _ _ => False).nox (defBody st) t ∧ t { nx := fun _ H' => Q .non H', rt := Q } (start N vs) H) : LawG P w K mg base (k + 1) f fd ps sp := by
  obtain ⟨o1, o2, o3, o4, o5, o6, cdv, o8, o9, rfl, lk, hcd⟩ := F.ex
  constructor
  intro s H args us vs Q e0 hb r hsp
  have same := len _ _ _ _ hsp
  have inK : K.In s.heap := e0.mod.kin.keeps fun b o z => (e0.bs b o z).1
  have nolim : s.heap.NoLimit := e0.mod.nolimit.keeps fun b o z => (e0.bs b o z).1
  have kinds : ∀ y ∈ ps.zip us, (defScope st).names.lookup y.1 = some .local ∨ ((defScope st).names.lookup y.1 = some .cell ∧ ((cellsFrom (s.heap.objs.size + 1) (defScope st).names []).lookup y.1).isSome = true) := fun y hy =>
    (S.par y.1 (List.of_mem_zip hy).1).imp id fun z => ⟨z, PySem.W.cellsFrom_some _ _ _ (.inl z)⟩
  apply codeAny_call_function hk.depth (inK _ _ lk) rfl S.co S.gen rfl (PySem.W.codeRec_of inK hcd) (hb _ _ _ _ _)
  apply wpAny_newFunctionEnv_cells S.kind kinds
  intro env he s1 new
  subst he
  refine ⟨nolim.keeps new.toInCall.keep, codeAny_func ?_⟩
  obtain ⟨t, ht, q⟩ := body cdv s H vs Q (hk.deeper _) hsp
  have I := inv_start (CX := CX0) (E := fun _ _ _ => False) S hk.hd e0 same r new
  refine wpAny_mono (ht.nox.run [] s1 _ H _ I q) (fun fl s2 z => ?_) fun _ _ z => z
  cases fl with
  | ret u => exact let ⟨v, _, H2, J, rv, q⟩ := z; ⟨v, H2, J.os, J.bare, J.base, J.hok, rv, q⟩
  | next => exact let ⟨_, H2, J, q⟩ := z; ⟨V.non, H2, J.os, J.bare, J.base, J.hok, rfl, q⟩
  | brk => exact let ⟨_, _, _, q⟩ := z; False.elim q
  | cont => exact let ⟨_, _, _, q⟩ := z; False.elim q
theorem law_callG {mb : Str → Option Value} {k : Nat} {fa a : Addr} {fd : FuncData} {x : Str} {sp : Sp} {s : Shared} {vs : List Value} {ns : List Int} (inK : K.In s.heap) (glob : s.heap.Ns mainGlobals mg) (blt : s.heap.Ns builtinsNs mb)
    (boot : ∀ x : Str, x ≠ "__name__" → mb x = bootBuiltins x) (nolim : s.heap.NoLimit) (gens : s.gens = #[]) (obj : s.heap.get? a = some { cls := .type "list", data := .seq vs.toArray }) (hints : IntsAre vs ns) (small : ns.length ≤ sizeLine)
    (F : ∀ base : Heap, K.In base → base.Ns mainGlobals mg → LawG P w K mg base k fa fd [x] sp) (hbind : ∀ (s : Shared) (u : Value), BindsTo s fd ⟨[u], []⟩ [(x, u)])
    (hsp : ∀ H : Hp, SqL K H a (ns.map V.int) → sp [.ref a] H (fun v _ => v = .bl true) fun _ _ _ => False) :
    codeAny (model P w) callerA (.call (.ref fa) ⟨[.ref a], []⟩) (fun r s' => r = .ok (.ret (.bool true)) ∧ OldK s.heap s'.heap ∧ s'.os = s.os ∧ AllBare s'.gens) s := by
  have vals := vals_ints hints
  have lenv := hints.length
  have key : ∀ H : Hp, Only H → SqL K H a (ns.map V.int) → HOk P w H s.heap → (∀ b, H b ≠ none → b = a) → (H a ≠ none → K.lookup a = none) →
      codeAny (model P w) callerA (.call (.ref fa) ⟨[.ref a], []⟩) (fun r s' => r = .ok (.ret (.bool true)) ∧ OldK s.heap s'.heap ∧ s'.os = s.os ∧ AllBare s'.gens) s := by
    intro H only seq ok alone apart
    have noD : ∀ {b : Addr} {o : Obj} {es : Array DictEntry} {ep : Nat}, s.heap.get? b = some o → o.data = .dict es ep → H b = none := fun {b o es ep} z d => by
      cases q : H b with
      | none => rfl
      | some u =>
        rw [alone b (ne_some q), obj] at z
        cases z
        cases d
    have nsB : ∀ {b : Addr} {m : Str → Option Value}, s.heap.Ns b m → (hidT s.heap H).Ns b m := fun {b m} z => let ⟨o, es, ep, e, d, r⟩ := z; ⟨o, es, ep, hidT_get e (noD e d), d, r⟩
    have inB : K.In (hidT s.heap H) := fun b o z => hidT_get (inK b o z) (by
      cases q : H b with
      | none => rfl
      | some u =>
        have e : b = a := alone b (ne_some q)
        subst e
        rw [apart (ne_some q)] at z
        cases z)
    have mod : Mod K mg (hidT s.heap H) := ⟨inB, nsB glob, ⟨mb, nsB blt, boot⟩, let ⟨m, z1, z2⟩ := nolim; ⟨m, nsB z1, z2⟩⟩
    have env : Env0 P w K mg (hidT s.heap H) callerA [] s H := ⟨rfl, mod, fun b o z => of_hidT z, Nat.le_of_eq (hidT_size _ _), trivial, (fun b z => nomatch (show b ∈ ([] : List Addr) from z)), ok, .of_eq gens⟩
    refine codeAny_mono ((F _ inB (nsB glob)).run s H ⟨[.ref a], []⟩ [.ref a] [.ref a] _ env (hbind s (.ref a)) (.cons rfl .nil) (hsp H seq)) fun r s2 z => ?_
    match r, z with
    | .error _, z => exact False.elim z
    | .ok .next, z => exact False.elim z
    | .ok .brk, z => exact False.elim z
    | .ok .cont, z => exact False.elim z
    | .ok (.ret u), z =>
      obtain ⟨v, H2, os, bare, un, ok2, rv, q⟩ := z
      have q : v = .bl true := q
      subst q
      have e : u = Value.bool true := rv
      subst e
      refine ⟨rfl, OldK.of_keep fun b o z => ?_, os, bare⟩
      cases q : H b with
      | none => exact un.keep b o z q (fun y => nomatch (show b ∈ ([] : List Addr) from y)) (fun y => nomatch y)
      | some u =>
        rcases only b with y | ⟨ob, xs, y⟩
        · rw [q] at y; cases y
        · obtain ⟨e1, _⟩ := ok b _ y
          obtain ⟨e2, _⟩ := ok2 b _ (un.frzs b ob _ y)
          rw [z] at e1
          cases e1
          exact e2
  cases q : K.lookup a with
  | some o =>
    have e := inK a o q
    rw [obj] at e
    cases e
    exact key (fun _ => none) (fun _ => .inl rfl) (.inr ⟨_, vs.toArray, _, q, rfl, rfl, rfl, by rw [List.size_toArray, lenv]; exact small, by simpa using vals⟩) (fun b u z => by have z : (none : Option HO) = some u := z; cases z) (fun b z => absurd rfl z) fun z => absurd rfl z
  | none =>
    have at_ : ∀ b, (if b = a then some (HO.frz { cls := .type "list", data := .seq vs.toArray } (.lst (ns.map V.int))) else none) = (none : Option HO) ∨ b = a := fun b => by by_cases e : b = a <;> simp [e]
    refine key (fun b => if b = a then some (.frz { cls := .type "list", data := .seq vs.toArray } (.lst (ns.map V.int))) else none) (fun b => ?_) (.inl (.inr ⟨_, if_pos rfl⟩)) (fun b u z => ?_) (fun b z => (at_ b).resolve_left z) fun _ => q
    · rcases at_ b with e | rfl
      · exact .inl e
      · exact .inr ⟨_, _, if_pos rfl⟩
    · rcases at_ b with e | rfl
      · rw [show (if b = a then some (HO.frz { cls := .type "list", data := .seq vs.toArray } (.lst (ns.map V.int))) else none) = some u from z] at e; cases e
      · have z := (if_pos rfl).symm.trans z
        cases z
        exact ⟨obj, by rw [List.length_map]; exact small, vs, _, vals, obj⟩
end
theorem walk_ofG {l : PySem.W.OpenLaw} {n k : Nat} {q : Program} {loose : List Str} {XP : (Str → Option Value) → Heap → Prop} {YP : World → Heap → Prop} {d : DefRec} {K : Params → PySem.W.Frag} {sp : World → Sp} {x : Str} (hn : l.most = some n) (hn2 : n ≤ sizeLine) (hdf : d.params.defaults = [])
    (hY : ∀ (w : World) (h : Heap), YP w h → (K w.params).In h)
    (F : ∀ (w : World) (mg : Str → Option Value) (fa : Addr) (h : Heap), (K w.params).In h → h.Ns mainGlobals mg → mg d.name = some (.ref fa) →
      ∃ fd : FuncData, (∀ (s : Shared) (u : Value), BindsTo s fd ⟨[u], []⟩ [(x, u)]) ∧ ∀ base : Heap, (K w.params).In base → base.Ns mainGlobals mg → LawG l.prog w (K w.params) mg base k fa fd [x] (sp w))
    (hsp : ∀ (w : World) (H : Hp) (a : Addr) (ns : List Int), ns.length ≤ n → SqL (K w.params) H a (ns.map V.int) → sp w [.ref a] H (fun v _ => v = .bl true) fun _ _ _ => False) :
    PySem.W.WalkO q loose XP YP l.row.toRowW d [] (fun f vs => PySem.call f vs) := by
  refine Att.attach_call hn hdf fun w s₀ s₁ mg mb fa o pm cd doc a vs ns G Y ho hd hcd hmg hobj hints hlen hg => ?_
  obtain ⟨fd, hb, hF⟩ := F w mg fa _ (hY w _ Y) G.T.g hmg
  exact law_callG (hY w _ Y) G.T.g G.T.b G.T.builtins G.T.nolimit hg hobj hints (Nat.le_trans hlen hn2) hF hb fun H hS => hsp w H a ns hlen hS
end NN
/-! refusals made by place -/
namespace NN
open PySem PySem.Spec PyProof.Rows L2
/-- what is drawn from: a dict, with two lists -/
def stD (g c : Addr) (r t : Int) : List (Key × V) := [(.inr "great", .ref g), (.inr "cells", .ref c), (.inr "rest", .int r), (.inr "turn", .int t)]
structure StE (n : Nat) (H : Hp) (st g c : Addr) : Prop where
  ex : ∃ (gs cs : List Int) (r t : Int), H st = some (.dK (stD g c r t)) ∧ H g = some (.lst (gs.map V.int)) ∧ H c = some (.lst (cs.map V.int)) ∧ gs.length ≤ 100 ∧ cs.length ≤ 100 ∧ 0 ≤ t ∧ t ≤ (n : Nat)
  ne : g ≠ c
theorem StE.nst {n : Nat} {H : Hp} {st g c : Addr} (h : StE n H st g c) : g ≠ st ∧ c ≠ st := by
  obtain ⟨gs, cs, r, t, e1, e2, e3, _⟩ := h.ex
  refine ⟨fun e => ?_, fun e => ?_⟩
  · rw [e, e1] at e2; cases e2
  · rw [e, e1] at e3; cases e3
theorem StE.live {n : Nat} {H : Hp} {st g c : Addr} (h : StE n H st g c) : Live [st, g, c] H := fun a ha => by
  obtain ⟨gs, cs, r, t, e1, e2, e3, _⟩ := h.ex
  simp only [List.mem_cons, List.not_mem_nil, or_false] at ha
  rcases ha with rfl | rfl | rfl
  · exact ne_some e1
  · exact ne_some e2
  · exact ne_some e3
theorem StE.up {n m : Nat} {H : Hp} {st g c : Addr} (h : StE n H st g c) (l : n ≤ m) : StE m H st g c := by
  obtain ⟨gs, cs, r, t, e1, e2, e3, l1, l2, l3, l4⟩ := h.ex
  exact ⟨⟨gs, cs, r, t, e1, e2, e3, l1, l2, l3, by omega⟩, h.ne⟩
theorem StE.kp {m : Nat} {S : List Addr} {H H' : Hp} {st g c : Addr} (h : StE m H st g c) (k : Kp S H H') (n : ∀ a ∈ [st, g, c], a ∉ S) : StE m H' st g c := by
  obtain ⟨gs, cs, r, t, e1, e2, e3, l⟩ := h.ex
  exact ⟨⟨gs, cs, r, t, k.at e1 (n _ (by simp)), k.at e2 (n _ (by simp)), k.at e3 (n _ (by simp)), l⟩, h.ne⟩
theorem StE.kp0 {n : Nat} {H H' : Hp} {st g c : Addr} (h : StE n H st g c) (k : Kp [] H H') : StE n H' st g c := h.kp k (by simp)
theorem StE.upn {n : Nat} {H : Hp} {p : Addr} {o : HO} {st g c : Addr} (h : StE n H st g c) (hp : H p = none) : StE n (upd H p o) st g c := h.kp0 (Kp.new hp)
theorem stD_get {H : Hp} {st g c : Addr} {r t : Int} {k : Str} {v : V} (h : H st = some (.dK (stD g c r t))) (e : valV (stD g c r t) (.inr k) = some v) : DGet H st (.str k) (some v) := by rw [← e]; exact DGet.k (k := .inr k) h
theorem stD_great (g c : Addr) (r t : Int) : valV (stD g c r t) (.inr "great") = some (.ref g) := by rfl
theorem stD_cells (g c : Addr) (r t : Int) : valV (stD g c r t) (.inr "cells") = some (.ref c) := by rfl
theorem stD_rest (g c : Addr) (r t : Int) : valV (stD g c r t) (.inr "rest") = some (.int r) := by rfl
theorem stD_turn (g c : Addr) (r t : Int) : valV (stD g c r t) (.inr "turn") = some (.int t) := by rfl
theorem stD_setR (g c : Addr) (r t x : Int) : putK (stD g c r t) (.inr "rest") (.int x) = stD g c x t := by rfl
theorem stD_setT (g c : Addr) (r t x : Int) : putK (stD g c r t) (.inr "turn") (.int x) = stD g c r x := by rfl
def spBegunL (K : PySem.W.Frag) : Sp := fun vs H Q _ => ∃ (a : Addr) (ns : List Int), vs = [.ref a] ∧ SqL K H a (ns.map V.int) ∧ ns.length ≤ 63 ∧ ∀ st g c H', H st = none → H g = none → H c = none → Kp [] H H' → StE 0 H' st g c → Q (.ref st) H'
def spMixed : Sp := fun vs H Q _ => ∃ (N : Nat) (st g c : Addr), vs = [.ref st] ∧ N ≤ 100000 ∧ StE N H st g c ∧ ∀ n H', Kp [st] H H' → StE (N + 1) H' st g c → (∀ gs, H g = some (.lst gs) → H' g = some (.lst gs)) → Q (.int n) H'
def spTake : Sp := fun vs H Q _ => ∃ (N : Nat) (st g c : Addr) (n : Int), vs = [.ref st, .int n] ∧ N ≤ 100000 ∧ StE N H st g c ∧ 0 < n ∧ n < 1073741824 ∧ ∀ r H', 0 ≤ r → r < n → Kp [st, g] H H' → StE (N + 1) H' st g c → Q (.int r) H'
def spPick : Sp := fun vs H Q _ => ∃ (N : Nat) (st g c : Addr) (y : V), vs = [.ref st, y] ∧ N ≤ 100000 ∧ StE N H st g c ∧
  ((∃ z : Str, y = .str z ∧ 0 < z.length ∧ z.length ≤ 1000 ∧ ∀ b H', b ∈ z.cps.toList → Kp [st, g] H H' → StE (N + 1) H' st g c → Q (.str ⟨#[b]⟩) H') ∨
    ∃ (l : Addr) (xs : List V), y = .ref l ∧ H l = some (.lst xs) ∧ l ≠ g ∧ 0 < xs.length ∧ xs.length ≤ 1000 ∧ ∀ x H', x ∈ xs → Kp [st, g] H H' → StE (N + 1) H' st g c → Q x H')
def spWord : Sp := fun vs H Q _ => ∃ (N : Nat) (st g c : Addr), vs = [.ref st] ∧ N ≤ 90000 ∧ StE N H st g c ∧ ∀ z H', isName z = true → Kp [st, g] H H' → StE (N + 9) H' st g c → Q (.str z) H'
def spRing : Sp := fun vs H Q _ => ∃ (N : Nat) (st g c : Addr), vs = [.ref st] ∧ N ≤ 80000 ∧ StE N H st g c ∧ ∀ (t : Addr) (zs : List Str) (H' : Hp), H t = none → Kp [st, g] H H' → StE (N + 46) H' st g c → H' t = some (.tup (zs.map V.str)) → 2 ≤ zs.length → zs.length ≤ 5 → (∀ z ∈ zs, isName z = true) → Q (.ref t) H'
/-- data that is told -/
def ShownD (d : D) : Prop := ∃ p, d.py = some p ∧ p.showable = true ∧ p.hasDict = false ∧ p.depth ≤ 10 ∧ p.shown.length ≤ sizeLine
def fldE : List Str := ["", "name", "name", "name", "name", "ring", "row"]
structure ErrAt (S : List Addr) (H : Hp) (i : Nat) (e C : Addr) (v : V) : Prop where
  ex : ∃ d fs, e ∉ S ∧ (∀ x, d = some x → x ∉ S) ∧ IsE H e (.ref C) d ∧ HasF H d fs ∧ ((i = 0 ∧ v = .non) ∨ (i ≠ 0 ∧ ∃ f q, fldE[i]? = some f ∧ fs.lookup f = some v ∧ At S H v q ∧ ShownD q))
theorem ErrAt.kp {S S' : List Addr} {H H' : Hp} {i : Nat} {e C : Addr} {v : V} (h : ErrAt S H i e C v) (k : Kp S' H H') (s : ∀ a ∈ S', a ∈ S) : ErrAt S H' i e C v := by
  obtain ⟨d, fs, n1, n2, h1, h2, h3⟩ := h.ex
  exact ⟨d, fs, n1, n2, h1.kp k fun z => n1 (s _ z), h2.kp k (fun x hx z => n2 x hx (s _ z)), h3.imp id fun ⟨a, f, q, b, c, d, e⟩ => ⟨a, f, q, b, c, d.kp k s, e⟩⟩
theorem ErrAt.sub {S S' : List Addr} {H : Hp} {i : Nat} {e C : Addr} {v : V} (h : ErrAt S H i e C v) (s : ∀ a ∈ S', a ∈ S) : ErrAt S' H i e C v := by
  obtain ⟨d, fs, n1, n2, h1, h2, h3⟩ := h.ex
  exact ⟨d, fs, fun z => n1 (s _ z), fun x hx z => n2 x hx (s _ z), h1, h2, h3.imp id fun ⟨a, f, q, b, c, d, e⟩ => ⟨a, f, q, b, c, d.sub s, e⟩⟩
structure MadeAt (S : List Addr) (Cs : List Addr) (H : Hp) (p : Addr) : Prop where
  ex : ∃ (m du : Addr) (es : List Addr) (ds : List V), p ∉ S ∧ m ∉ S ∧ du ∉ S ∧ H p = some (.tup [.ref m, .ref du]) ∧ H m = some (.lst (es.map V.ref)) ∧ es.length = 7 ∧ H du = some (.lst ds) ∧ ds.length = 7 ∧
    ∀ (i : Nat) (e C : Addr) (v : V), es[i]? = some e → ds[i]? = some v → Cs[i]? = some C → ErrAt S H i e C v
theorem MadeAt.kp {S S' Cs : List Addr} {H H' : Hp} {p : Addr} (h : MadeAt S Cs H p) (k : Kp S' H H') (s : ∀ a ∈ S', a ∈ S) : MadeAt S Cs H' p := by
  obtain ⟨m, du, es, ds, n1, n2, n3, h1, h2, l1, h3, l2, h4⟩ := h.ex
  exact ⟨m, du, es, ds, n1, n2, n3, k.at h1 fun z => n1 (s _ z), k.at h2 fun z => n2 (s _ z), l1, k.at h3 fun z => n3 (s _ z), l2, fun i e C v a b c => (h4 i e C v a b c).kp k s⟩
theorem MadeAt.sub {S S' Cs : List Addr} {H : Hp} {p : Addr} (h : MadeAt S Cs H p) (s : ∀ a ∈ S', a ∈ S) : MadeAt S' Cs H p := by
  obtain ⟨m, du, es, ds, n1, n2, n3, h1, h2, l1, h3, l2, h4⟩ := h.ex
  exact ⟨m, du, es, ds, fun z => n1 (s _ z), fun z => n2 (s _ z), fun z => n3 (s _ z), h1, h2, l1, h3, l2, fun i e C v a b c => (h4 i e C v a b c).sub s⟩
def spMade (Cs : List Addr) : Sp := fun vs H Q _ => ∃ (N : Nat) (st g c : Addr), vs = [.ref st] ∧ N ≤ 70000 ∧ StE N H st g c ∧ ∀ p H', H p = none → Kp [st, g] H H' → StE (N + 100) H' st g c → (∀ S, Live S H → MadeAt S Cs H' p) → Q (.ref p) H'
/-- of which classes -/
def spKinds (Cs : List Addr) : Sp := fun vs H Q _ => ∃ (e C : Addr) (d : Option Addr) (fs : List (Str × V)) (i : Nat), vs = [.ref e] ∧ Cs[i]? = some C ∧ i < 7 ∧ IsE H e (.ref C) d ∧ HasF H d fs ∧ ∀ l H', H l = none → Kp [] H H' → H' l = some (.lst ((List.range 7).map fun j => V.bl (decide (j = i)))) → Q (.ref l) H'
def spField (Cs : List Addr) : Sp := fun vs H Q _ => ∃ (e C : Addr) (v : V) (i : Nat), vs = [.ref e, .int i] ∧ Cs[i]? = some C ∧ i < 7 ∧ ErrAt [] H i e C v ∧ Q v H
theorem atL_ints {S : List Addr} {H : Hp} : ∀ ws : List Int, AtL S H (ws.map V.int) (ws.map fun z => .v (.int z))
  | [] => .nil
  | z :: r => .cons (.v _) (atL_ints r)
theorem fine_ints (ws : List Int) : fineD (.l (ws.map fun z => .v (.int z))) := FineN.fine (n := 1) (FineN.l (n := 0) fun d hd => by obtain ⟨z, _, rfl⟩ := List.mem_map.mp hd; exact .int) (by decide)
theorem shown_non : ShownD (.v .non) := ⟨.none, rfl, rfl, rfl, by decide, by decide⟩
theorem shown_int {i : Int} (h : i.natAbs.log2 < 1920) : ShownD (.v (.int i)) := ⟨.int i, rfl, by simpa [PyData.showable] using h, rfl, by simp [PyData.depth], int_text_fits h⟩
theorem name_shown {z : Str} (h : fineS z) (hl : z.length ≤ 100) : (reprText z).length ≤ 1002 := by
  have := PySem.StrLaws.reprText_len z fun c hc => by
    have := fine_lt h c hc
    omega
  omega
theorem shown_str {z : Str} (h : fineS z) (hl : z.length ≤ 100) : ShownD (.v (.str z)) := by
  refine ⟨.str z, rfl, rfl, rfl, by simp [PyData.depth], ?_⟩
  have := name_shown h hl
  show (reprText z).length ≤ sizeLine
  rw [sizeLine_eq]; omega
theorem pys_strs : ∀ zs : List Str, D.pys (zs.map fun z => .v (.str z)) = some (zs.map PyData.str)
  | [] => rfl
  | z :: r => by
    show (D.py (.v (.str z))).bind (fun p => (D.pys (r.map fun z => .v (.str z))).map (p :: ·)) = _
    rw [pys_strs r]; rfl
theorem shownAll_strs : ∀ zs : List Str, PyData.shownAll (zs.map PyData.str) = zs.map reprText
  | [] => rfl
  | z :: r => by
    show reprText z :: PyData.shownAll (r.map PyData.str) = _
    rw [shownAll_strs r]; rfl
theorem strs_flat : ∀ zs : List Str, PyData.showableAll (zs.map PyData.str) = true ∧ PyData.hasDictAll (zs.map PyData.str) = false ∧ PyData.depthAll (zs.map PyData.str) ≤ 1
  | [] => ⟨rfl, rfl, by simp [PyData.depthAll]⟩
  | z :: r => by
    obtain ⟨h1, h2, h3⟩ := strs_flat r
    refine ⟨?_, ?_, ?_⟩
    · show (PyData.showable (.str z) && PyData.showableAll (r.map PyData.str)) = true
      rw [h1]; rfl
    · show (PyData.hasDict (.str z) || PyData.hasDictAll (r.map PyData.str)) = false
      rw [h2]; rfl
    · rw [List.map_cons]
      simp only [PyData.depthAll, PyData.depth]
      omega
theorem piled_le {n : Nat} : ∀ ts : List Str, (∀ t ∈ ts, t.length ≤ n) → piled ts ≤ (n + 2) * ts.length
  | [], _ => by simp [piled]
  | t :: r, h => by
    have h1 := piled_le (n := n) r fun u hu => h u (List.mem_cons_of_mem _ hu)
    have h2 := h t (List.mem_cons_self ..)
    rw [piled_cons, List.length_cons, Nat.mul_succ]; omega
theorem shown_ring {zs : List Str} (h1 : 2 ≤ zs.length) (h2 : zs.length ≤ 5) (h : ∀ z ∈ zs, isName z = true) : ShownD (.t (zs.map fun z => .v (.str z))) := by
  obtain ⟨f1, f2, f3⟩ := strs_flat zs
  refine ⟨.tuple (zs.map PyData.str), by show (D.pys _).map PyData.tuple = _; rw [pys_strs]; rfl, f1, f2, by simp only [PyData.depth]; omega, ?_⟩
  show (tupleText (PyData.shownAll (zs.map PyData.str))).length ≤ sizeLine
  rw [shownAll_strs]
  have e1 := join_length_add (zs.map reprText) (by intro e; rw [List.map_eq_nil_iff] at e; rw [e] at h1; simp at h1)
  have e2 := piled_le (n := 1002) (zs.map reprText) fun t ht => by
    obtain ⟨z, hz, rfl⟩ := List.mem_map.mp ht
    exact name_shown (name_fine (h z hz)) (by have := name_len (h z hz); omega)
  rw [List.length_map] at e2
  have e3 : (1002 + 2) * zs.length ≤ 1004 * 5 := Nat.mul_le_mul_left _ h2
  have e4 : ((zs.map reprText).length == 1) = false := by rw [List.length_map]; simp; omega
  unfold tupleText
  rw [e4]
  simp only [strLen_append, Bool.false_eq_true, if_false]
  have e5 : (("(" : String) : Str).length = 1 := rfl
  have e6 : ((")" : String) : Str).length = 1 := rfl
  rw [sizeLine_eq]
  first | omega | (rw [e5, e6]; omega)
end NN
namespace NN
open PySem L2
/-- a name and those beside it -/
def nearL (z : Str) : List Str := z :: letters.cps.toList.map fun b => tx (z.cps.toList.take 7 ++ [b])
theorem near_name {z : Str} (h : isName z = true) : ∀ y ∈ nearL z, isName y = true := fun y hy => by
  rcases List.mem_cons.mp hy with rfl | hy
  · exact h
  · obtain ⟨b, hb, rfl⟩ := List.mem_map.mp hy
    have ⟨_, _, h3⟩ := isName_iff.mp h
    refine isName_iff.mpr ⟨by rw [tx_len]; simp, by rw [tx_len, List.length_append, List.length_take, List.length_singleton]; omega, fun c hc => ?_⟩
    rw [tx_cps] at hc
    rcases List.mem_append.mp hc with hc | hc
    · exact h3 c (List.mem_of_mem_take hc)
    · rw [List.mem_singleton.mp hc]; exact hb
theorem near_free {z : Str} {zs : List Str} (hl : zs.length ≤ 25) : (nearL z).filter (fun y => decide (y ∉ zs)) ≠ [] := fun e => by
  have hall : ∀ y ∈ nearL z, y ∈ zs := fun y hy => by
    have := List.filter_eq_nil_iff.mp e y hy
    simpa using this
  have nd : (letters.cps.toList.map fun b => tx (z.cps.toList.take 7 ++ [b])).Nodup := by
    have h0 : letters.cps.toList.Nodup := by decide +kernel
    rw [List.nodup_iff_pairwise_ne, List.pairwise_map]
    refine h0.imp fun {a b} hab e => hab ?_
    have := congrArg (fun s : Str => s.cps.toList) e
    simp only [tx_cps] at this
    exact List.singleton_inj.mp (List.append_cancel_left this)
  have := nd_le nd fun y hy => hall y (List.mem_cons_of_mem _ hy)
  rw [List.length_map] at this
  have e26 : letters.cps.toList.length = 26 := by decide +kernel
  omega
theorem first_at {M : Str} : ∀ {zs : List Str}, M ∈ zs → ∃ k, k < zs.length ∧ zs[k]? = some M ∧ ∀ m, m < k → zs[m]? ≠ some M
  | [], h => nomatch h
  | z :: r, h => by
    by_cases e : z = M
    · exact ⟨0, by simp, by rw [e]; rfl, fun m hm => by omega⟩
    · rcases List.mem_cons.mp h with h | h
      · exact absurd h.symm e
      · obtain ⟨k, h1, h2, h3⟩ := first_at h
        refine ⟨k + 1, by simp; omega, by simpa using h2, fun m hm => ?_⟩
        cases m with
        | zero => exact fun z => e (Option.some.inj z)
        | succ m => exact fun z => h3 m (by omega) (by simpa using z)
end NN
namespace NN
open PySem L2
theorem kit_ne {K : PySem.W.Frag} {mg : Str → Option Value} {CN C : Addr} {n fl : Str} (N : Ne K mg CN) (e : Er K mg CN n fl C) : PySem.W.kitOne K (.ref C) (.ref CN) = some true :=
  kit_own (by obtain ⟨cd, hc, _⟩ := PySem.W.any_some N.hd; show (PySem.W.clsIn K CN).isSome = true; rw [hc]; rfl) N.ty e.me e.sn
theorem g_reprD {K : PySem.W.Frag} {S : List Addr} {H : Hp} {Q : VK} {x : V} {d : D} (h : At S H x d) {p : PyData} (e : d.py = some p) (h1 : p.showable = true) (h2 : p.hasDict = false) (h3 : p.depth ≤ 10) (h4 : p.shown.length ≤ sizeLine) (q : Q (.str p.shown) H) : rReprG K [x] H Q := ⟨x, p, rfl, h.dp e, h1, h2, h3, h4, q⟩
end NN
local macro_rules | `(tactic| fail "kb") => `(tactic| first
  | exact NN.kb_str_str
  | exact NN.kb_str_bool
  | exact NN.kb_str_dict
  | exact NN.kb_str_tuple
  | exact NN.kb_str_list
  | exact NN.kb_int_str
  | exact NN.kb_int_bool
  | exact NN.kb_int_dict
  | exact NN.kb_int_tuple
  | exact NN.kb_int_list
  | exact NN.kb_bool_str
  | exact NN.kb_bool_bool
  | exact NN.kb_bool_dict
  | exact NN.kb_bool_tuple
  | exact NN.kb_bool_list
  | exact NN.kb_NoneType_str
  | exact NN.kb_NoneType_bool
  | exact NN.kb_NoneType_dict
  | exact NN.kb_NoneType_tuple
  | exact NN.kb_NoneType_list
  | exact NN.kb_list_str
  | exact NN.kb_list_bool
  | exact NN.kb_list_dict
  | exact NN.kb_list_tuple
  | exact NN.kb_list_list
  | exact NN.kb_tuple_str
  | exact NN.kb_tuple_bool
  | exact NN.kb_tuple_dict
  | exact NN.kb_tuple_tuple
  | exact NN.kb_tuple_list
  | exact NN.kb_dict_str
  | exact NN.kb_dict_bool
  | exact NN.kb_dict_dict
  | exact NN.kb_dict_tuple
  | exact NN.kb_dict_list)
local macro_rules | `(tactic| fail "ar") => `(tactic| first | omega | (dsimp only; omega) | (unfold L2.CMul; omega) | (unfold L2.CDiv; omega) | (unfold L2.CPow; omega) | decide | (simp only [List.length_cons, List.length_nil, List.length_append, List.length_map]; omega))
local macro_rules | `(tactic| fail "hp") => `(tactic| first | assumption | exact L2.upd_same | (rw [L2.upd_ne (by assumption)]; assumption) | (rw [L2.upd_ne (Ne.symm (by assumption))]; assumption))
local macro_rules | `(tactic| fail "ev") => `(tactic| set_option simprocs false in simp (config := { proj := false, decide := false }) only [-eq_self, -iff_self, NN.e_var, NN.e_vAt, NN.e_c, NN.e_op, NN.e_un, NN.e_test, NN.e_B, NN.e_isbl, NN.e_isint, NN.e_isS, NN.e_isstr, NN.e_and, NN.e_or, NN.e_not, NN.e_andV, NN.e_orV, NN.e_notV, NN.e_if, NN.e_chain, NN.e_nil, NN.e_cons, NN.e_tup, NN.e_lst, NN.e_cb, NN.e_call, NN.e_sl, NN.e_part, NN.e_nopart, NN.e_bm, NN.e_bm0, NN.e_m1, NN.e_fld, NN.e_meth, NN.e_make, NN.e_callS, NN.e_makeS, NN.e_methS, NN.e_xm, NN.e_veI, NN.e_xfd, NN.e_get1, NN.e_get2, NN.e_pnil, NN.e_pcons, NN.e_lc, NN.e_for, NN.e_iList, NN.e_iStr, NN.e_iRng1, NN.e_iEnum, NN.e_iKeys, NN.e_yes, NN.e_next, NN.e_asg, NN.e_drop, NN.e_ret, NN.e_retN, NN.e_ifS, NN.e_sfld, NN.e_name, NN.e_gsub, NN.e_gcons, NN.e_gnil, NN.e_rI, NN.e_rI0, NN.e_rU, NN.e_addI, NN.e_ltI, NN.e_leI, NN.e_gtI, NN.e_geI, NN.e_ifT, NN.e_ifF, NN.e_wipe0, NN.e_wipe1, NN.e_map0, NN.e_map1, NN.e_ifTr, NN.e_ifFa, NN.e_intB, List.getElem?_cons_zero, List.getElem?_cons_succ, List.set_cons_zero, List.set_cons_succ])
local macro_rules | `(tactic| fail "g2") => `(tactic| first
  | (with_reducible apply NN.g_newt; (focus simp); intro p hp)
  | (with_reducible apply NN.g_wipe; (focus (with_unfolding_all exact rfl)))
  | (with_reducible refine NN.g_ck ?c ?_; (case c => fail "ar"))
  | (with_reducible refine NN.g_disp ?_; intro p hp)
  | (with_reducible refine NN.g_new ?_; intro p hp)
  | (with_reducible apply NN.g_iL; (focus (fail "hp")))
  | (with_reducible refine NN.g_iR ?c ?_; (case c => fail "ar"))
  | (with_reducible apply NN.g_iEL; (focus (fail "hp")))
  | (with_reducible refine NN.g_iZip ?_)
  | (with_reducible apply NN.g_iZL; (focus (fail "hp")); (focus (fail "hp")))
  | (with_reducible apply NN.g_iZT; (focus (fail "hp")); (focus (fail "hp")))
  | (with_reducible refine NN.g_iRev ?_)
  | (with_reducible apply NN.g_iV; (focus (fail "hp")))
  | (with_reducible refine NN.g_inSign ?_)
  | (with_reducible refine NN.g_addS ?c ?_; (case c => fail "ar"))
  | with_reducible refine NN.g_ltS ?_
  | with_reducible refine NN.g_leS ?_
  | with_reducible refine NN.g_eqS rfl ?_
  | with_reducible refine NN.g_neS rfl ?_
  | with_reducible refine NN.g_isN ?_
  | with_reducible refine NN.g_isB ?_
  | (with_reducible refine NN.g_lenS ?c ?_; (case c => fail "ar"))
  | (with_reducible apply NN.g_lenL; (focus (fail "hp")))
  | (with_reducible apply NN.g_lenT; (focus (fail "hp")))
  | (with_reducible refine NN.g_slS ?c ?_; (case c => fail "ar"))
  | (with_reducible apply NN.g_slL; (focus (fail "hp")))
  | (with_reducible apply NN.g_isiS; (focus (fail "kb")))
  | (with_reducible apply NN.g_isiI; (focus (fail "kb")))
  | (with_reducible apply NN.g_isiB; (focus (fail "kb")))
  | (with_reducible apply NN.g_isiN; (focus (fail "kb")))
  | (with_reducible refine NN.g_ifT rfl ?_)
  | (with_reducible refine NN.g_ifF rfl ?_))
local macro_rules | `(tactic| fail "g1") => `(tactic| first
  | with_reducible refine NN.g_seq ?_
  | (with_reducible refine NN.g_name ?_; try dsimp only [List.set_cons_zero, List.set_cons_succ])
  | fail "ev"
  | fail "g2")
local macro_rules | `(tactic| fail "gs") => `(tactic| ((repeat ((fail_if_success (with_reducible refine NN.g_seq ?_)); first | fail "ev" | fail "g2" | (dsimp only; fail_if_success (with_reducible refine NN.g_seq ?_)))); try dsimp only))
local macro_rules | `(tactic| fail "go") => `(tactic| ((repeat (first | with_reducible refine NN.g_seq ?_ | fail "ev" | fail "g2" | (dsimp only))); try dsimp only))

namespace Nw
open PySem L2 NN
def top (i : Nat) : Stmt := PySem.Challenge.pw_newnames_k17_refusals_made.main.body.getD i (.Pass ⟨0, 0, 0, 0⟩)
abbrev slaw_begun : Stmt := top 10
theorem sclaw_begun : FnScope ["_law_script", "_law_wide", "_law_cell"] ["_law_script"] (defScope slaw_begun) := ⟨rfl, rfl, rfl, by decide +kernel, rfl, by decide +kernel, by decide +kernel⟩
abbrev slaw_mixed : Stmt := top 11
theorem sclaw_mixed : FnScope ["_law_state", "_law_found", "_law_prime", "_law_blend", "_law_cell"] ["_law_state"] (defScope slaw_mixed) := ⟨rfl, rfl, rfl, by decide +kernel, rfl, by decide +kernel, by decide +kernel⟩
abbrev slaw_take : Stmt := top 12
theorem sclaw_take : FnScope ["_law_state", "_law_size", "_law_found"] ["_law_state", "_law_size"] (defScope slaw_take) := ⟨rfl, rfl, rfl, by decide +kernel, rfl, by decide +kernel, by decide +kernel⟩
abbrev slaw_pick : Stmt := top 13
theorem sclaw_pick : FnScope ["_law_state", "_law_some"] ["_law_state", "_law_some"] (defScope slaw_pick) := ⟨rfl, rfl, rfl, by decide +kernel, rfl, by decide +kernel, by decide +kernel⟩
abbrev slaw_word : Stmt := top 14
theorem sclaw_word : FnScope ["_law_state", "_law_turn"] ["_law_state"] (defScope slaw_word) := ⟨rfl, rfl, rfl, by decide +kernel, rfl, by decide +kernel, by decide +kernel⟩
structure Txt (K : PySem.W.Frag) (mg : Str → Option Value) (C_Held : Addr) (C_LetGo : Addr) (C_Missing : Addr) (C_NewError : Addr) (C_NoName : Addr) (C_NoRow : Addr) (C_NoSpare : Addr) (C_Twice : Addr) : Prop where
  g_Held : mg "Held" = some (.ref C_Held)
  g_LetGo : mg "LetGo" = some (.ref C_LetGo)
  g_Missing : mg "Missing" = some (.ref C_Missing)
  g_NewError : mg "NewError" = some (.ref C_NewError)
  g_NoName : mg "NoName" = some (.ref C_NoName)
  g_NoRow : mg "NoRow" = some (.ref C_NoRow)
  g_NoSpare : mg "NoSpare" = some (.ref C_NoSpare)
  g_Twice : mg "Twice" = some (.ref C_Twice)
  ne : NN.Ne K mg C_NewError
  err : NN.ErrX K mg C_NewError [C_NoName, C_Twice, C_Missing, C_Held, C_LetGo, C_NoSpare, C_NoRow]
  er_NoName : NN.Er K mg C_NewError "NoName" "name" C_NoName
  own_NoName : NN.OwnX K C_NoName
  er_Twice : NN.Er K mg C_NewError "Twice" "name" C_Twice
  o_Twice : OexC K C_Twice
  er_Missing : NN.Er K mg C_NewError "Missing" "name" C_Missing
  o_Missing : OexC K C_Missing
  er_Held : NN.Er K mg C_NewError "Held" "name" C_Held
  o_Held : OexC K C_Held
  er_LetGo : NN.Er K mg C_NewError "LetGo" "name" C_LetGo
  o_LetGo : OexC K C_LetGo
  er_NoSpare : NN.Er K mg C_NewError "NoSpare" "ring" C_NoSpare
  o_NoSpare : OexC K C_NoSpare
  er_NoRow : NN.Er K mg C_NewError "NoRow" "row" C_NoRow
  o_NoRow : OexC K C_NoRow
  b_ValueError : mg "ValueError" = none
  b_enumerate : mg "enumerate" = none
  b_isinstance : mg "isinstance" = none
  b_len : mg "len" = none
  b_list : mg "list" = none
  b_min : mg "min" = none
  b_range : mg "range" = none
  b_repr : mg "repr" = none
  b_str : mg "str" = none
  b_tuple : mg "tuple" = none
section
variable {P : Program} {w : World} {K : PySem.W.Frag} {mg : Str → Option Value} {base : Heap} {C_Held : Addr} {C_LetGo : Addr} {C_Missing : Addr} {C_NewError : Addr} {C_NoName : Addr} {C_NoRow : Addr} {C_NoSpare : Addr} {C_Twice : Addr}
theorem ok_begun17 {f} {fd} (F : Fun K "_law_begun" "_law_begun" slaw_begun f fd) (T : Txt K mg C_Held C_LetGo C_Missing C_NewError C_NoName C_NoRow C_NoSpare C_Twice) : FnOk P w K mg base CX0 1 f fd ["_law_script"] (spBegunL K) := by
  refine F.ok sclaw_begun (fun vs H Q E h => ?_) (fun cdv A outer s H vs Q E hr h => ?_)
  · obtain ⟨a, ns, rfl, _⟩ := h
    rfl
  · obtain ⟨a, ns, rfl, hS, hl, q⟩ := h
    have hu := hu_of hr
    have hu64 : (A.deeper (PyProof.Rows.envOfC "_law_begun" (defScope slaw_begun) s.heap.objs.size f cdv)).units + 64 < cLine := by have := hr.un; omega
    refine ⟨_, (pss_cons (ps_setLc (i := 1) (own := [("_law_cell", 2)]) rfl sclaw_begun.nd rfl rfl (sw_true rfl rfl rfl (by decide +kernel)) (NN.pi_listK (K := K) rfl (NN.pv 0)) (blkOk_by (own := [("_law_cell", 2)]) (N := ["_law_script", "_law_wide", "_law_cell"]) (sc := defScope slaw_begun) (by decide +kernel)) (fun _ _ _ _ _ => (pg_name (i := 2) sclaw_begun.nd rfl (Or.inl rfl))) (fun _ _ _ _ _ => (pts_one (pt_cmpR NN.op_geU (NN.pv 2) (pe_op op_pow pe_int pe_int) (nomark _)))) (fun _ _ _ _ _ => (pe_op op_sub (NN.pv 2) (pe_op op_pow pe_int pe_int))))
      (pss_one (ps_ret (pe_disp (pps_cons pe_str (NN.pv 1) (pps_cons pe_str (pe_callTy (NN.call_listK (K := K) rfl rfl) (by rfl) T.b_list (by decide +kernel) (pa_cons (NN.pv 0) pa_nil)) (pps_cons pe_str pe_int (pps_cons pe_str pe_int pps_nil)))) (by rfl) (by rfl) (fun z => by cases z) (by decide))))), ?_⟩
    refine NN.g_st [some (.ref a), none, none] rfl ?_
    fail "g1"
    fail "gs"
    refine ⟨a, rfl, ⟨_, hS⟩, fun D hD => ?_⟩
    refine lc_kp (walk_list (xs := ns.map V.int)) [] (fun i acc _ => ∃ ws : List Int, acc = ws.map V.int ∧ ws.length ≤ i) hD ⟨[], rfl, Nat.le_refl _⟩ (fun i acc H5 _ k5 _ => (k5.drop hD).same.seq hS) ?_ ?_
    · rintro i x H2 H3 acc hi hacc hl' k2 ⟨ws, rfl, hw⟩ ⟨rfl, hx⟩
      obtain ⟨z, rfl⟩ := script_int hx
      rw [List.length_map] at hi
      fail "gs"
      refine g_ifB (fun e1 => ?_) (fun e1 => ?_)
      · fail "gs"
        refine lc_add hacc hl' (by omega) k2 ⟨ws ++ [z - 10 ^ 18], by simp, by simp; omega⟩
      · exact lc_skip hacc hl' k2 ⟨ws, rfl, by omega⟩
    · rintro H1 acc hacc k1 ⟨ws, rfl, hw⟩
      rw [List.length_map] at hw
      fail "gs"
      rename_i p0 hp0
      have k2 : Kp [] H1 (upd H1 p0 (.dK [])) := Kp.new hp0
      have hD2 : upd H1 p0 (.dK []) D = some (.lst (ws.map V.int)) := k2.at hacc (by simp)
      refine .inl ⟨a, ns.map V.int, rfl, .inl ((k1.trans k2).same.seq hS), fun l hl => ?_⟩
      have nDl := ne_of_none hD2 hl
      have hp02 : upd H1 p0 (.dK []) p0 = some (.dK []) := upd_same
      have npl := ne_of_none hp02 hl
      have nDp := ne_of_none hacc hp0
      refine ⟨by rw [upd_ne npl]; exact hp02, stD D l 0 0, rfl, by show 4 ≤ 15; omega, ?_⟩
      rw [show mergeK [] (stD D l 0 0) = stD D l 0 0 from rfl]
      refine q p0 D l _ (k1.free hp0 (by simp)) hD ((k1.trans k2).free hl (by simp)) (fun b o e _ => ?_) ⟨⟨ws, ns, 0, 0, upd_same, ?_, ?_, by omega, by omega, by omega, by omega⟩, nDl⟩
      · have e1 := k1.at e (by simp)
        have nb := ne_of_none e1 hp0
        rw [upd_ne nb, upd_ne (ne_of_none ((k1.trans k2).at e (by simp)) hl), upd_ne nb]; exact e1
      · rw [upd_ne nDp, upd_ne nDl]; exact hD2
      · rw [upd_ne npl.symm]; exact upd_same
theorem ok_mixed {f} {fd} (F : Fun K "_law_mixed" "_law_mixed" slaw_mixed f fd) (T : Txt K mg C_Held C_LetGo C_Missing C_NewError C_NoName C_NoRow C_NoSpare C_Twice) : FnOk P w K mg base CX0 1 f fd ["_law_state"] spMixed := by
  refine F.ok sclaw_mixed (fun vs H Q E h => ?_) (fun cdv A outer s H vs Q E hr h => ?_)
  · obtain ⟨N, st, g, c, rfl, _⟩ := h
    rfl
  · obtain ⟨N, st, g, c, rfl, hN, hst, q⟩ := h
    have hu := hu_of hr
    have hu64 : (A.deeper (PyProof.Rows.envOfC "_law_mixed" (defScope slaw_mixed) s.heap.objs.size f cdv)).units + 64 < cLine := by have := hr.un; omega
    refine ⟨_, (pss_cons (ps_asg (pe_op NN.op_addU (pe_ix (NN.ix_K (K := K) rfl hu) (NN.pv 0) pe_str (fun _ _ => rfl)) pe_int) (pg_sub (NN.pv 0) pe_str (NN.set_U hu)))
      (pss_cons (ps_set (i := 1) sclaw_mixed.nd rfl (Or.inl rfl) pe_int)
      (pss_cons (ps_for PassesOwn.never rfl (NN.pi_listK (K := K) rfl (pe_lst (pa_cons pe_int (pa_cons pe_int (pa_cons pe_int (pa_cons pe_int pa_nil)))))) (pg_name (i := 2) sclaw_mixed.nd rfl (Or.inl rfl)) (pss_cons (ps_set (i := 3) sclaw_mixed.nd rfl (Or.inl rfl) (pe_op NN.op_addU (pe_op op_mul pe_int (pe_ix (NN.ix_K (K := K) rfl hu) (NN.pv 0) pe_str (fun _ _ => rfl))) (pe_op op_fdiv (NN.pv 2) pe_int)))
      (pss_cons (ps_for PassesOwn.never rfl (NN.pi_listK (K := K) rfl (pe_ix (NN.ix_K (K := K) rfl hu) (NN.pv 0) pe_str (fun _ _ => rfl))) (pg_name (i := 4) sclaw_mixed.nd rfl (Or.inl rfl)) (pss_one (ps_set (i := 3) sclaw_mixed.nd rfl (Or.inl rfl) (pe_op op_mod (pe_op NN.op_addU (pe_op op_mul (NN.pv 3) pe_int) (NN.pv 4)) (NN.pv 2)))))
      (pss_one (ps_set (i := 1) sclaw_mixed.nd rfl (Or.inl rfl) (pe_op NN.op_addU (pe_op op_mul (NN.pv 1) pe_int) (pe_op op_mod (pe_op op_pow (NN.pv 3) pe_int) (NN.pv 2))))))))
      (pss_one (ps_ret (NN.pv 1)))))), ?_⟩
    refine NN.g_st [some (.ref st), none, none, none, none] rfl ?_
    fail "g1"
    fail "gs"
    obtain ⟨gs, cs, r, t, e1, e2, e3, l1, l2, t0, t1⟩ := id hst.ex
    obtain ⟨ng, nc⟩ := hst.nst
    refine g_ixD (stD_get e1 (stD_turn ..)) ?_
    fail "gs"
    refine g_setD e1 (sz2 (by show 4 < 100000; omega)) ?_
    rw [stD_setT]
    have k1 : Kp [st] H (upd H st (.dK (stD g c r (t + 1)))) := Kp.mut (by simp)
    have hst1 : upd H st (.dK (stD g c r (t + 1))) st = some (.dK (stD g c r (t + 1))) := upd_same
    generalize upd H st (.dK (stD g c r (t + 1))) = H1 at k1 hst1 ⊢
    have hc1 := k1.at e3 (by simpa using nc)
    have hg1 := k1.at e2 (by simpa using ng)
    fail "gs"
    fail "g1"
    fail "gs"
    fail "g1"
    fail "gs"
    rename_i pL hpL
    have k2 : Kp [] H1 (upd H1 pL (.lst [.int 2147483629, .int 2147483587, .int 2147483579, .int 2147483563])) := Kp.new hpL
    have hL : upd H1 pL (.lst [.int 2147483629, .int 2147483587, .int 2147483579, .int 2147483563]) pL = some (.lst [.int 2147483629, .int 2147483587, .int 2147483579, .int 2147483563]) := upd_same
    generalize upd H1 pL (.lst [.int 2147483629, .int 2147483587, .int 2147483579, .int 2147483563]) = H2 at k2 hL ⊢
    have hst2 := k2.at hst1 (by simp)
    have hc2 := k2.at hc1 (by simp)
    refine for_it (walk_list (xs := [.int 2147483629, .int 2147483587, .int 2147483579, .int 2147483563])) (fun j σ H' => H' = H2 ∧ ∃ (fo : Int) (u2 u3 u4 : Option V), σ = [some (.ref st), some (.int fo), u2, u3, u4]) ?_ ?_ ?_ ?_
    · exact ⟨rfl, _, _, _, _, rfl⟩
    · rintro j σ H' _ ⟨rfl, _⟩
      exact SqL.of hL
    · rintro j y σ H3 H4 hj ⟨rfl, fo, u2, u3, u4, rfl⟩ ⟨rfl, hy⟩
      obtain ⟨pr, rfl, hp0, hp1⟩ : ∃ pr : Int, y = V.int pr ∧ 0 < pr ∧ pr < 4294967296 := by
        match j, hy with
        | 0, hy => cases hy; exact ⟨_, rfl, by omega, by omega⟩
        | 1, hy => cases hy; exact ⟨_, rfl, by omega, by omega⟩
        | 2, hy => cases hy; exact ⟨_, rfl, by omega, by omega⟩
        | 3, hy => cases hy; exact ⟨_, rfl, by omega, by omega⟩
      fail "gs"
      fail "g1"
      fail "gs"
      refine g_ixD (stD_get hst2 (stD_turn ..)) ?_
      fail "gs"
      fail "g1"
      fail "gs"
      refine g_ixD (stD_get hst2 (stD_cells ..)) ?_
      refine ⟨c, rfl, ⟨_, SqL.of hc2⟩, ?_⟩
      have hp7 : 0 ≤ pr / 7 ∧ pr / 7 < 4294967296 := by omega
      refine for_it (walk_list (xs := cs.map V.int)) (fun j σ H' => H' = H4 ∧ ∃ (bl : Int) (u4 : Option V), σ = [some (.ref st), some (.int fo), some (.int pr), some (.int bl), u4] ∧ 0 ≤ bl ∧ bl < 9223372036854775808) ?_ ?_ ?_ ?_
      · exact ⟨rfl, _, _, rfl, by omega, by omega⟩
      · rintro j σ H' _ ⟨rfl, _⟩
        exact SqL.of hc2
      · rintro j y σ H5 H6 hj ⟨rfl, bl, u4, rfl, hb0, hb1⟩ ⟨rfl, hy⟩
        obtain ⟨z, rfl⟩ := script_int hy
        fail "gs"
        exact ⟨rfl, _, _, rfl, Int.emod_nonneg _ (by omega), by have := Int.emod_lt_of_pos (bl * 48271 + z) hp0; omega⟩
      · rintro σ H5 ⟨rfl, bl, u4, rfl, hb0, hb1⟩
        fail "gs"
        exact ⟨rfl, _, _, _, _, rfl⟩
    · rintro σ H3 ⟨rfl, fo, u2, u3, u4, rfl⟩
      fail "gs"
      refine q _ _ (k1.trans (k2.sub (by simp))) ⟨⟨gs, cs, r, t + 1, hst2, k2.at hg1 (by simp), hc2, l1, l2, by omega, by omega⟩, hst.ne⟩ fun gs' hgs' => k2.at (k1.at hgs' (by simpa using ng)) (by simp)
theorem ok_take {f} {fd} (F : Fun K "_law_take" "_law_take" slaw_take f fd) (T : Txt K mg C_Held C_LetGo C_Missing C_NewError C_NoName C_NoRow C_NoSpare C_Twice) (F_law_mixed : FnAt P w K mg base CX0 1 "_law_mixed" ["_law_state"] spMixed) : FnOk P w K mg base CX0 2 f fd ["_law_state", "_law_size"] spTake := by
  refine F.ok sclaw_take (fun vs H Q E h => ?_) (fun cdv A outer s H vs Q E hr h => ?_)
  · obtain ⟨N, st, g, c, n, rfl, _⟩ := h
    rfl
  · obtain ⟨N, st, g, c, n, rfl, hN, hst, hn0, hn1, q⟩ := h
    have hu := hu_of hr
    have hu64 : (A.deeper (PyProof.Rows.envOfC "_law_take" (defScope slaw_take) s.heap.objs.size f cdv)).units + 64 < cLine := by have := hr.un; omega
    refine ⟨_, (pss_cons (ps_if (pt_cmpR (NN.op_eqK (K := K) rfl hu64) (pe_ix (NN.ix_K (K := K) rfl hu) (NN.pv 0) pe_str (fun _ _ => rfl)) pe_int (nomark _)) (pss_one (ps_asg (pe_ifExp (pt_cmpR (NN.op_neK (K := K) rfl hu64) (pe_ix (NN.ix_K (K := K) rfl hu) (NN.pv 0) pe_str (fun _ _ => rfl)) (pe_lst pa_nil) (nomark _)) (NN.pe_bmK (K := K) rfl PySem.F.plainAttrs_list PySem.F.slot_list_pop PySem.F.type_list_pop mt_popAt (pe_ix (NN.ix_K (K := K) rfl hu) (NN.pv 0) pe_str (fun _ _ => rfl)) (pa_cons pe_int pa_nil)) (NN.pe_fn F_law_mixed (hr.mono (by first | decide | omega)) (pa_cons (NN.pv 0) pa_nil))) (pg_sub (NN.pv 0) pe_str (NN.set_U hu)))) pss_nil)
      (pss_cons (ps_set (i := 2) sclaw_take.nd rfl (Or.inl rfl) (pe_op op_mod (pe_ix (NN.ix_K (K := K) rfl hu) (NN.pv 0) pe_str (fun _ _ => rfl)) (NN.pv 1)))
      (pss_cons (ps_asg (pe_op op_fdiv (pe_ix (NN.ix_K (K := K) rfl hu) (NN.pv 0) pe_str (fun _ _ => rfl)) (NN.pv 1)) (pg_sub (NN.pv 0) pe_str (NN.set_U hu)))
      (pss_one (ps_ret (NN.pv 2)))))), ?_⟩
    refine NN.g_st [some (.ref st), some (.int n), none] rfl ?_
    obtain ⟨gs, cs, r, t, e1, e2, e3, l1, l2, t0, t1⟩ := id hst.ex
    obtain ⟨ng, nc⟩ := hst.nst
    refine g_thenO (fun σ H' => σ = [some (.ref st), some (.int n), none] ∧ Kp [st, g] H H' ∧ StE (N + 1) H' st g c) ?_ fun nx2 hP => ?_
    rotate_left
    · fail "g1"
      fail "gs"
      refine g_ixD (stD_get e1 (stD_rest ..)) ?_
      fail "gs"
      refine g_ifB (fun e0 => ?_) (fun e0 => ?_)
      · refine g_ixD (stD_get e1 (stD_great ..)) ?_
        refine ⟨Nat.zero_le _, fun p hp => ?_⟩
        have k1 : Kp [] H (upd H p (.lst [])) := Kp.new hp
        have hp1 : upd H p (.lst []) p = some (.lst []) := upd_same
        generalize upd H p (.lst []) = H1 at k1 hp1 ⊢
        have e11 := k1.at e1 (by simp)
        have e21 := k1.at e2 (by simp)
        have e31 := k1.at e3 (by simp)
        refine g_neNilD (S := []) (ds := gs.map fun z => .v (.int z)) (.l (by simp) e21 (atL_ints gs)) hp1 (fine_ints gs) ?_
        refine ⟨_, rfl, ?_⟩
        refine g_ifB (fun e0 => ?_) (fun e0 => ?_)
        · refine g_ixD (stD_get e11 (stD_great ..)) ?_
          cases gs with
          | nil => cases e0
          | cons z gs =>
            refine ⟨tyL e21, g_popAt e21 (by omega) (by simp) (by rw [List.length_map]; omega) (y := .int z) rfl ?_⟩
            have e22 : upd H1 g (.lst (gs.map V.int)) g = some (.lst (gs.map V.int)) := upd_same
            have k2 : Kp [g] H1 (upd H1 g (.lst (gs.map V.int))) := Kp.mut (by simp)
            rw [show (((z :: gs).map V.int).eraseIdx (Int.toNat 0)) = gs.map V.int from rfl]
            generalize upd H1 g (.lst (gs.map V.int)) = H2 at k2 e22 ⊢
            have e12 := k2.at e11 (by simpa using ng.symm)
            have e32 := k2.at e31 (by simpa using hst.ne.symm)
            refine g_setD e12 (sz2 (by show 4 < 100000; omega)) ?_
            rw [stD_setR]
            fail "gs"
            refine hP _ _ ⟨rfl, ((k1.sub (by simp)).trans (k2.sub (by simp))).trans (Kp.mut (by simp)), ⟨⟨gs, cs, z, t, upd_same, by rw [upd_ne ng]; exact e22, by rw [upd_ne nc]; exact e32, by simp at l1; omega, l2, t0, by omega⟩, hst.ne⟩⟩
        · refine ⟨N, st, g, c, rfl, hN, hst.kp0 k1, fun z H2 k2 hst2 _ => ?_⟩
          obtain ⟨gs2, cs2, r2, t2, f1, f2, f3, m1, m2, m3, m4⟩ := id hst2.ex
          refine g_setD f1 (sz2 (by show 4 < 100000; omega)) ?_
          rw [stD_setR]
          fail "gs"
          refine hP _ _ ⟨rfl, ((k1.sub (by simp)).trans (k2.sub (by simp))).trans (Kp.mut (by simp)), ⟨⟨gs2, cs2, z, t2, upd_same, by rw [upd_ne ng]; exact f2, by rw [upd_ne nc]; exact f3, m1, m2, m3, m4⟩, hst.ne⟩⟩
      · exact hP _ _ ⟨rfl, Kp.refl _ _, hst.up (by omega)⟩
    rintro σ H1 ⟨rfl, k1, hst1⟩
    obtain ⟨gs2, cs2, r2, t2, f1, f2, f3, m1, m2, m3, m4⟩ := id hst1.ex
    fail "g1"
    fail "gs"
    refine g_ixD (stD_get f1 (stD_rest ..)) ?_
    fail "gs"
    fail "g1"
    fail "gs"
    refine g_ixD (stD_get f1 (stD_rest ..)) ?_
    fail "gs"
    refine g_setD f1 (sz2 (by show 4 < 100000; omega)) ?_
    rw [stD_setR]
    fail "gs"
    exact q _ _ (Int.emod_nonneg _ (by omega)) (Int.emod_lt_of_pos _ hn0) (k1.trans (Kp.mut (by simp))) ⟨⟨gs2, cs2, _, t2, upd_same, by rw [upd_ne ng]; exact f2, by rw [upd_ne nc]; exact f3, m1, m2, m3, m4⟩, hst.ne⟩
theorem ok_pick {f} {fd} (F : Fun K "_law_pick" "_law_pick" slaw_pick f fd) (T : Txt K mg C_Held C_LetGo C_Missing C_NewError C_NoName C_NoRow C_NoSpare C_Twice) (F_law_take : FnAt P w K mg base CX0 2 "_law_take" ["_law_state", "_law_size"] spTake) : FnOk P w K mg base CX0 3 f fd ["_law_state", "_law_some"] spPick := by
  refine F.ok sclaw_pick (fun vs H Q E h => ?_) (fun cdv A outer s H vs Q E hr h => ?_)
  · obtain ⟨N, st, g, c, y, rfl, _⟩ := h
    rfl
  · obtain ⟨N, st, g, c, y, rfl, hN, hst, q⟩ := h
    have hu := hu_of hr
    have hu64 : (A.deeper (PyProof.Rows.envOfC "_law_pick" (defScope slaw_pick) s.heap.objs.size f cdv)).units + 64 < cLine := by have := hr.un; omega
    refine ⟨_, (pss_one (ps_ret (pe_ix (NN.ix_K (K := K) rfl hu) (NN.pv 1) (NN.pe_fn F_law_take (hr.mono (by first | decide | omega)) (pa_cons (NN.pv 0) (pa_cons (pe_callB (NN.call_lenK (K := K) rfl) (by rfl) T.b_len (by decide +kernel) (pa_cons (NN.pv 1) pa_nil)) pa_nil))) (fun _ _ => rfl)))), ?_⟩
    refine NN.g_st [some (.ref st), some y, ] rfl ?_
    fail "g1"
    fail "gs"
    obtain ⟨z, rfl, hz0, hz1, q⟩ | ⟨l, xs, rfl, hl, nl, hz0, hz1, q⟩ := q
    · refine g_lenS (by have : (1000 : Nat) ≤ sizeLine := (by decide); omega) ?_
      refine ⟨N, st, g, c, _, rfl, hN, hst, by omega, by omega, fun r H' hr0 hr1 k' hst' => ?_⟩
      obtain ⟨b, hb⟩ : ∃ b, z.cps.toList[r.toNat]? = some b := ⟨_, List.getElem?_eq_getElem (by have : z.length = z.cps.toList.length := (by simp [Str.length]); omega)⟩
      refine g_ixS (by have : (1000 : Nat) ≤ sizeLine := (by decide); omega) (c := b) (by rw [show r = (r.toNat : Nat) by omega]; exact atI_nat hb) ?_
      fail "gs"
      exact q b H' (List.mem_of_getElem? hb) k' hst'
    · refine g_lenL hl ?_
      refine ⟨N, st, g, c, _, rfl, hN, hst, by omega, by omega, fun r H' hr0 hr1 k' hst' => ?_⟩
      obtain ⟨x, hx⟩ : ∃ x, xs[r.toNat]? = some x := ⟨_, List.getElem?_eq_getElem (by omega)⟩
      have nls : l ≠ st := fun e => by
        obtain ⟨gs, cs, r, t, e1, _⟩ := hst.ex
        rw [e, e1] at hl; cases hl
      refine g_ixL (k'.at hl (by simp [nls, nl])) (v := x) (by rw [show r = (r.toNat : Nat) by omega]; exact atI_nat hx) ?_
      fail "gs"
      exact q x H' (List.mem_of_getElem? hx) k' hst'
theorem ok_word {f} {fd} (F : Fun K "_law_word" "_law_word" slaw_word f fd) (T : Txt K mg C_Held C_LetGo C_Missing C_NewError C_NoName C_NoRow C_NoSpare C_Twice) (F_law_take : FnAt P w K mg base CX0 2 "_law_take" ["_law_state", "_law_size"] spTake) (F_law_pick : FnAt P w K mg base CX0 3 "_law_pick" ["_law_state", "_law_some"] spPick) : FnOk P w K mg base CX0 4 f fd ["_law_state"] spWord := by
  refine F.ok sclaw_word (fun vs H Q E h => ?_) (fun cdv A outer s H vs Q E hr h => ?_)
  · obtain ⟨N, st, g, c, rfl, _⟩ := h
    rfl
  · obtain ⟨N, st, g, c, rfl, hN, hst, q⟩ := h
    have hu := hu_of hr
    have hu64 : (A.deeper (PyProof.Rows.envOfC "_law_word" (defScope slaw_word) s.heap.objs.size f cdv)).units + 64 < cLine := by have := hr.un; omega
    refine ⟨_, (pss_one (ps_ret (NN.pe_joinK (K := K) rfl pe_str (pe_lc (own := [("_law_turn", 1)]) rfl sclaw_word.nd (pi_range1 (by rfl) T.b_range (pa_cons (pe_op NN.op_addU pe_int (NN.pe_fn F_law_take (hr.mono (by first | decide | omega)) (pa_cons (NN.pv 0) (pa_cons pe_int pa_nil)))) pa_nil)) (blkOk_by (own := [("_law_turn", 1)]) (N := ["_law_state", "_law_turn"]) (sc := defScope slaw_word) (by decide +kernel)) (fun _ _ _ _ _ => (pg_name (i := 1) sclaw_word.nd rfl (Or.inl rfl))) (fun _ _ _ _ _ => pts_nil) (fun _ _ _ _ _ => (NN.pe_fn F_law_pick (hr.mono (by first | decide | omega)) (pa_cons (NN.pv 0) (pa_cons pe_str pa_nil)))))))), ?_⟩
    refine NN.g_st [some (.ref st), none] rfl ?_
    fail "g1"
    fail "gs"
    refine ⟨N, st, g, c, 8, rfl, by omega, hst, by omega, by omega, fun r H1 hr0 hr1 k1 hst1 => ?_⟩
    fail "gs"
    intro D hD
    have nD : ∀ b ∈ [st, g, c], b ∉ [D] := fun b hb => by
      have := hst1.live.fresh hD
      intro z
      rw [List.mem_singleton.mp z] at hb
      exact this hb
    have nD2 : D ≠ st ∧ D ≠ g := ⟨fun e => nD st (by simp) (by simp [e]), fun e => nD g (by simp) (by simp [e])⟩
    refine lc_kp walk_range [st, g] (fun i acc H' => ∃ cs : List Nat, acc = (cs.map sg).map V.str ∧ cs.length = i ∧ (∀ c ∈ cs, c ∈ letters.cps.toList) ∧ StE (N + 1 + i) H' st g c) hD ⟨[], rfl, rfl, by simp, hst1.upn hD⟩ (fun _ _ _ _ _ _ => trivial) ?_ ?_
    · rintro i x H5 H6 acc hi hacc hl k5 ⟨cs, rfl, hcs, hcl, hst5⟩ ⟨rfl, rfl⟩
      fail "gs"
      refine ⟨N + 1 + i, st, g, c, _, rfl, by omega, hst5, .inl ⟨_, rfl, by decide +kernel, by decide +kernel, fun b H7 hb k6 hst7 => ?_⟩⟩
      refine lc_add (k6.at hacc (by simp [nD2])) hl (by omega) (k5.trans (k6.sub (by simp))) ?_
      refine ⟨cs ++ [b], by simp [sg], by simp [hcs], fun c hc => ?_, hst7.kp (S := [D]) (Kp.mut (by simp)) nD⟩
      rcases List.mem_append.mp hc with h | h
      · exact hcl c h
      · rw [List.mem_singleton.mp h]; exact hb
    · rintro H2 acc hacc k2 ⟨cs, rfl, hcs, hcl, hst2⟩
      have hle : 0 < cs.length ∧ cs.length ≤ 8 := by omega
      fail "gs"
      refine NN.g_join (ys := cs.map sg) hacc (by rw [sum_len_sg, List.length_map]; have : ("" : Str).length = 0 := by decide +kernel
                                                  rw [this]; omega) ?_
      rw [join_sg]
      exact q _ _ (isName_iff.mpr ⟨by rw [tx_len]; exact hle.1, by rw [tx_len]; exact hle.2, by rw [tx_cps]; exact hcl⟩) (k1.trans k2) (hst2.up (by omega))
end
end Nw
namespace Nw
open PySem L2 NN
abbrev slaw_ring : Stmt := top 15
theorem sclaw_ring : FnScope ["_law_state", "_law_found", "_law_turn", "_law_word_here", "_law_near", "_law_least", "_law_letter", "_law_one"] ["_law_state"] (defScope slaw_ring) := ⟨rfl, rfl, rfl, by decide +kernel, rfl, by decide +kernel, by decide +kernel⟩
section
variable {P : Program} {w : World} {K : PySem.W.Frag} {mg : Str → Option Value} {base : Heap} {C_Held : Addr} {C_LetGo : Addr} {C_Missing : Addr} {C_NewError : Addr} {C_NoName : Addr} {C_NoRow : Addr} {C_NoSpare : Addr} {C_Twice : Addr}
theorem ok_ring {f} {fd} (F : Fun K "_law_ring" "_law_ring" slaw_ring f fd) (T : Txt K mg C_Held C_LetGo C_Missing C_NewError C_NoName C_NoRow C_NoSpare C_Twice) (F_law_take : FnAt P w K mg base CX0 2 "_law_take" ["_law_state", "_law_size"] spTake) (F_law_word : FnAt P w K mg base CX0 4 "_law_word" ["_law_state"] spWord) : FnOk P w K mg base CX0 5 f fd ["_law_state"] spRing := by
  refine F.ok sclaw_ring (fun vs H Q E h => ?_) (fun cdv A outer s H vs Q E hr h => ?_)
  · obtain ⟨N, st, g, c, rfl, _⟩ := h
    rfl
  · obtain ⟨N, st, g, c, rfl, hN, hst, q⟩ := h
    have hu := hu_of hr
    have hu64 : (A.deeper (PyProof.Rows.envOfC "_law_ring" (defScope slaw_ring) s.heap.objs.size f cdv)).units + 64 < cLine := by have := hr.un; omega
    refine ⟨_, (pss_cons (ps_set (i := 1) sclaw_ring.nd rfl (Or.inr rfl) (pe_lst pa_nil))
      (pss_cons (ps_for PassesOwn.never rfl (pi_range1 (by rfl) T.b_range (pa_cons (pe_op NN.op_addU pe_int (NN.pe_fn F_law_take (hr.mono (by first | decide | omega)) (pa_cons (NN.pv 0) (pa_cons pe_int pa_nil)))) pa_nil)) (pg_name (i := 2) sclaw_ring.nd rfl (Or.inl rfl)) (pss_cons (ps_set (i := 3) sclaw_ring.nd rfl (Or.inr rfl) (NN.pe_fn F_law_word (hr.mono (by first | decide | omega)) (pa_cons (NN.pv 0) pa_nil)))
      (pss_cons (ps_set (i := 4) sclaw_ring.nd rfl (Or.inl rfl) (pe_op NN.op_addU (pe_lst (pa_cons (NN.pv 3) pa_nil)) (pe_lc (own := [("_law_letter", 6)]) rfl sclaw_ring.nd (pi_str pe_str) (blkOk_by (own := [("_law_letter", 6)]) (N := ["_law_state", "_law_found", "_law_turn", "_law_word_here", "_law_near", "_law_least", "_law_letter", "_law_one"]) (sc := defScope slaw_ring) (by decide +kernel)) (fun _ _ _ _ _ => (pg_name (i := 6) sclaw_ring.nd rfl (Or.inl rfl))) (fun _ _ _ _ _ => pts_nil) (fun _ _ _ _ _ => (pe_op NN.op_addU (pe_slice (NN.sl_K (K := K) rfl) (NN.pv 3) po_none (po_some pe_int)) (NN.pv 6))))))
      (pss_one (ps_expr (NN.pe_bmK (K := K) rfl PySem.F.plainAttrs_list PySem.F.slot_list_append PySem.F.type_list_append mt_append (NN.pv 1) (pa_cons (pe_ix (NN.ix_K (K := K) rfl hu) (pe_lc (own := [("_law_one", 7)]) rfl sclaw_ring.nd (NN.pi_listK (K := K) rfl (NN.pv 4)) (blkOk_by (own := [("_law_one", 7)]) (N := ["_law_state", "_law_found", "_law_turn", "_law_word_here", "_law_near", "_law_least", "_law_letter", "_law_one"]) (sc := defScope slaw_ring) (by decide +kernel)) (fun _ _ _ _ _ => (pg_name (i := 7) sclaw_ring.nd rfl (Or.inl rfl))) (fun _ _ _ _ _ => (pts_one (pt_cmpR (NN.op_notInK (K := K) rfl hu) (NN.pv 7) (NN.pv 1) (by rfl)))) (fun _ _ _ _ _ => (NN.pv 7))) pe_int (fun _ _ => rfl)) pa_nil)))))))
      (pss_cons (ps_set (i := 5) sclaw_ring.nd rfl (Or.inl rfl) (NN.pe_bmK (K := K) rfl PySem.F.plainAttrs_list PySem.F.slot_list_index PySem.F.type_list_index (NN.mt_indexK (K := K) rfl) (NN.pv 1) (pa_cons (pe_callB (NN.call_minK (K := K) rfl rfl hu64) (by rfl) T.b_min (by decide +kernel) (pa_cons (NN.pv 1) pa_nil)) pa_nil)))
      (pss_one (ps_ret (pe_callTy (NN.call_tupleK (K := K) rfl) (by rfl) T.b_tuple (by decide +kernel) (pa_cons (pe_op NN.op_addU (pe_slice (NN.sl_K (K := K) rfl) (NN.pv 1) (po_some (NN.pv 5)) po_none) (pe_slice (NN.sl_K (K := K) rfl) (NN.pv 1) po_none (po_some (NN.pv 5)))) pa_nil))))))), ?_⟩
    refine NN.g_st [some (.ref st), none, none, none, none, none, none, none] rfl ?_
    fail "g1"
    fail "gs"
    rename_i pf hpf
    have kf : Kp [] H (upd H pf (.lst [])) := Kp.new hpf
    have hf0 : upd H pf (.lst []) pf = some (.lst (([] : List Str).map V.str)) := upd_same
    have hst0 := hst.upn (o := .lst []) hpf
    have npf : pf ∉ [st, g, c] := hst.live.fresh hpf
    simp only [List.mem_cons, List.not_mem_nil, or_false, not_or] at npf
    generalize upd H pf (.lst []) = H0 at kf hf0 hst0 ⊢
    fail "g1"
    fail "gs"
    refine ⟨N, st, g, c, 4, rfl, by omega, hst0, by omega, by omega, fun r H1 hr0 hr1 k1 hst1 => ?_⟩
    fail "gs"
    refine for_it (walk_range (lo := 0) (n := (2 + r).toNat)) (fun j σ H' => ∃ (zs : List Str) (u2 u3 u4 u5 : Option V), σ = [some (.ref st), some (.ref pf), u2, u3, u4, u5, none, none] ∧ Kp [st, g] H H' ∧ StE (N + 1 + 9 * j) H' st g c ∧ H' pf = some (.lst (zs.map V.str)) ∧ zs.length = j ∧ ∀ z ∈ zs, isName z = true) ?_ (fun _ _ _ _ _ => trivial) ?_ ?_
    · exact ⟨[], _, _, _, _, rfl, (kf.sub (by simp)).trans k1, hst1, k1.at hf0 (by simp [npf]), rfl, by simp⟩
    · rintro j y σ H2 H3 hj ⟨zs, u2, u3, u4, u5, rfl, k2, hst2, hf2, hzl, hzn⟩ ⟨rfl, rfl⟩
      fail "gs"
      fail "g1"
      fail "gs"
      refine ⟨N + 1 + 9 * j, st, g, c, rfl, by omega, hst2, fun z H4 hz k4 hst4 => ?_⟩
      have hf4 := k4.at hf2 (by simp [npf])
      have hz8 := name_len hz
      fail "gs"
      fail "g1"
      fail "gs"
      rename_i pw hpw
      have k5 : Kp [] H4 (upd H4 pw (.lst [.str z])) := Kp.new hpw
      have hpw1 : upd H4 pw (.lst [.str z]) pw = some (.lst [.str z]) := upd_same
      generalize upd H4 pw (.lst [.str z]) = H5 at k5 hpw1 ⊢
      intro D hD
      have nDw := ne_of_none hpw1 hD
      obtain ⟨w7, hw7⟩ : ∃ w, w = z.cps.toList.take 7 := ⟨_, rfl⟩
      have hw7l : w7.length ≤ 7 := by rw [hw7, List.length_take]; omega
      refine lc_kp walk_str [] (fun i acc _ => acc = ((letters.cps.toList.take i).map fun b => tx (w7 ++ [b])).map V.str) hD rfl (fun _ _ _ _ _ _ => trivial) ?_ ?_
      · rintro i x H6 H7 acc hi hacc hl k rfl ⟨rfl, b, hb, rfl⟩
        fail "gs"
        refine g_slS (by have : (1000 : Nat) ≤ sizeLine := (by decide); omega) ?_
        rw [cut_to (by decide), show z.cps.toList.take (Int.toNat 7) = w7 from hw7.symm]
        refine g_addS (by have : (1000 : Nat) ≤ sizeLine := (by decide); rw [tx_len]; show _ + 1 ≤ _; omega) ?_
        refine lc_add hacc hl (by have : (letters.cps.toList.length) = 26 := (by decide +kernel); have : i < letters.cps.toList.length := hi; omega) k ?_
        have hb' : letters.cps.toList[i]? = some b := by rw [Array.getElem?_toList]; exact hb
        rw [List.take_add_one, hb']
        simp only [Option.toList, List.map_append, List.map_cons, List.map_nil]
        exact congrArg (fun y => _ ++ [V.str y]) (tx_app _ [b])
      rintro H6 acc hacc k6 rfl
      have hpw6 := k6.at hpw1 (by simp)
      have e26 : ((letters.cps.toList.take (Str.ofString "abcdefghijklmnopqrstuvwxyz").cps.size).map fun b => tx (w7 ++ [b])) = letters.cps.toList.map fun b => tx (w7 ++ [b]) := by
        rw [List.take_of_length_le (by decide +kernel)]
      rw [e26] at hacc
      refine g_addLk (xs := [V.str z]) hpw6 hacc (by simp only [List.length_map, List.length_singleton]; have : (letters.cps.toList.length) = 26 := (by decide +kernel); rw [this]; decide) fun pn H7 hpn0 k7 hpn => ?_
      have hpn : H7 pn = some (.lst ((nearL z).map V.str)) := by unfold nearL; rw [← hw7]; exact hpn
      have k47 := (k5.trans k6).trans k7
      have hf7 := k47.at hf4 (by simp)
      have hst7 := hst4.kp0 k47
      have nln : (nearL z).length = 27 := by unfold nearL; rw [List.length_cons, List.length_map]; decide +kernel
      fail "gs"
      refine ⟨tyL hf7, pn, rfl, ⟨_, SqL.of hpn⟩, fun D2 hD2 => ?_⟩
      have nDp := ne_of_none hpn hD2
      refine lc_kp (walk_list (xs := (nearL z).map V.str)) [] (fun i acc _ => acc = (((nearL z).take i).filter fun y => decide (y ∉ zs)).map V.str) hD2 rfl (fun i acc H5 _ k5 _ => SqL.of (k5.at hpn (by simpa using nDp))) ?_ ?_
      · rintro i x H8 H9 acc hi hacc2 hl k8 rfl ⟨rfl, hx⟩
        obtain ⟨y, hy, rfl⟩ := str_at hx
        rw [List.length_map] at hi
        have hf8 := (k8.drop hD2).at hf7 (by simp)
        fail "gs"
        refine g_inL hf8 rfl (flat_strs _) ?_
        rw [inV_strs]
        refine ⟨_, rfl, ?_⟩
        have tk : ((nearL z).take (i + 1)).filter (fun y => decide (y ∉ zs)) = ((nearL z).take i).filter (fun y => decide (y ∉ zs)) ++ [y].filter (fun y => decide (y ∉ zs)) := by
          rw [List.take_add_one, hy, List.filter_append]; rfl
        by_cases hin : y ∈ zs
        · rw [if_neg (by simp [hin])]
          refine lc_skip hacc2 hl k8 ?_
          rw [tk]; simp [hin]
        · rw [if_pos (by simp [hin])]
          fail "gs"
          refine lc_add hacc2 hl (by omega) k8 ?_
          rw [tk]; simp [hin]
      rintro H8 acc hacc2 k8 rfl
      rw [List.length_map, List.take_length] at hacc2
      obtain ⟨y, ys, hys⟩ := List.exists_cons_of_ne_nil (near_free (z := z) (zs := zs) (by omega))
      have hyn : isName y = true := near_name hz y (List.mem_filter.mp (by rw [hys]; exact List.mem_cons_self ..)).1
      rw [hys] at hacc2
      refine g_ixL hacc2 (v := .str y) (by show atI _ ((0 : Nat) : Int) = _; exact atI_nat (by simp)) ?_
      have hf8 := k8.at hf7 (by simp)
      refine g_append hf8 (sz2 (by rw [List.length_map]; omega)) ?_
      have k28 := k4.trans ((k47.trans k8).sub (S' := [st, g]) (by simp))
      have hst8 := hst7.kp0 k8
      fail "gs"
      refine ⟨zs ++ [y], _, _, _, _, rfl, fun b o e n => ?_, (hst8.kp (S := [pf]) (Kp.mut (by simp)) (fun b hb hz => ?_)).up (by omega), by rw [upd_same]; simp, by simp [hzl], fun u hu => ?_⟩
      · rw [upd_ne (ne_of_none e hpf)]; exact (k2.trans k28).at e n
      · rw [List.mem_singleton.mp hz] at hb
        simp only [List.mem_cons, List.not_mem_nil, or_false] at hb
        rcases hb with h | h | h
        · exact npf.1 h
        · exact npf.2.1 h
        · exact npf.2.2 h
      · rcases List.mem_append.mp hu with hu | hu
        · exact hzn u hu
        · rw [List.mem_singleton.mp hu]; exact hyn
    rintro σ H2 ⟨zs, u2, u3, u4, u5, rfl, k2, hst2, hf2, hzl, hzn⟩
    fail "gs"
    fail "g1"
    fail "gs"
    have hz2 : 2 ≤ zs.length ∧ zs.length ≤ 5 := by omega
    refine ⟨tyL hf2, g_minS hf2 (by omega) fun M hM hMin => ?_⟩
    obtain ⟨k, hkl, hk, hk2⟩ := first_at hM
    refine g_index hf2 rfl (flat_strs _) k (z := .str M) (by rw [List.getElem?_map, hk]; rfl) (by show (M == M) = true; simp) (fun m' z' hm hz => ?_) ?_
    · rw [List.getElem?_map] at hz
      obtain ⟨y, hy, e⟩ := Option.map_eq_some_iff.mp hz
      subst e
      have : y ≠ M := fun e => hk2 m' hm (by rw [hy, e])
      show (y == M) = false
      simpa using this
    fail "gs"
    intro p1 hp1
    rw [cutV_from (by omega), ← List.map_drop, Int.toNat_natCast]
    have k3 : Kp [] H2 (upd H2 p1 (.lst ((zs.drop k).map V.str))) := Kp.new hp1
    have h1 : upd H2 p1 (.lst ((zs.drop k).map V.str)) p1 = some (.lst ((zs.drop k).map V.str)) := upd_same
    generalize upd H2 p1 (.lst ((zs.drop k).map V.str)) = H3 at k3 h1 ⊢
    refine g_slL (k3.at hf2 (by simp)) fun p2 hp2 => ?_
    rw [cutV_to (by omega), ← List.map_take, Int.toNat_natCast]
    have k4 : Kp [] H3 (upd H3 p2 (.lst ((zs.take k).map V.str))) := Kp.new hp2
    have h2 : upd H3 p2 (.lst ((zs.take k).map V.str)) p2 = some (.lst ((zs.take k).map V.str)) := upd_same
    generalize upd H3 p2 (.lst ((zs.take k).map V.str)) = H4 at k4 h2 ⊢
    refine g_addLk (k4.at h1 (by simp)) h2 (sz1 (by rw [List.length_map, List.length_map, List.length_drop, List.length_take]; omega)) fun p3 H5 hp3 k5 h3 => ?_
    rw [← List.map_append] at h3
    refine g_tupL h3 fun p4 hp4 => ?_
    have k25 := (k3.trans k4).trans k5
    have k6 : Kp [] H5 (upd H5 p4 (.tup ((zs.drop k ++ zs.take k).map V.str))) := Kp.new hp4
    have n4 : p4 ∉ [st, g] := fun h => (hst2.kp0 k25).live.fresh hp4 ((by simp : [st, g] ⊆ [st, g, c]) h)
    refine q p4 (zs.drop k ++ zs.take k) _ ((k2.trans (k25.sub (by simp))).free hp4 n4) (k2.trans ((k25.trans k6).sub (by simp))) ((hst2.kp0 (k25.trans k6)).up (by omega)) upd_same ?_ ?_ fun z hz => ?_
    · rw [List.length_append, List.length_drop, List.length_take]; omega
    · rw [List.length_append, List.length_drop, List.length_take]; omega
    · rcases List.mem_append.mp hz with hz | hz
      · exact hzn z (List.mem_of_mem_drop hz)
      · exact hzn z (List.mem_of_mem_take hz)
end
end Nw
namespace Nw
open PySem L2 NN
abbrev sTwice___init__ : Stmt := inClass (top 3) 0
theorem scTwice___init__ : FnScope ["self", "name"] ["self", "name"] (defScope sTwice___init__) := ⟨rfl, rfl, rfl, by decide +kernel, rfl, by decide +kernel, by decide +kernel⟩
abbrev sMissing___init__ : Stmt := inClass (top 4) 0
theorem scMissing___init__ : FnScope ["self", "name"] ["self", "name"] (defScope sMissing___init__) := ⟨rfl, rfl, rfl, by decide +kernel, rfl, by decide +kernel, by decide +kernel⟩
abbrev sHeld___init__ : Stmt := inClass (top 5) 0
theorem scHeld___init__ : FnScope ["self", "name"] ["self", "name"] (defScope sHeld___init__) := ⟨rfl, rfl, rfl, by decide +kernel, rfl, by decide +kernel, by decide +kernel⟩
abbrev sLetGo___init__ : Stmt := inClass (top 6) 0
theorem scLetGo___init__ : FnScope ["self", "name"] ["self", "name"] (defScope sLetGo___init__) := ⟨rfl, rfl, rfl, by decide +kernel, rfl, by decide +kernel, by decide +kernel⟩
abbrev sNoSpare___init__ : Stmt := inClass (top 7) 0
theorem scNoSpare___init__ : FnScope ["self", "ring"] ["self", "ring"] (defScope sNoSpare___init__) := ⟨rfl, rfl, rfl, by decide +kernel, rfl, by decide +kernel, by decide +kernel⟩
abbrev sNoRow___init__ : Stmt := inClass (top 8) 0
theorem scNoRow___init__ : FnScope ["self", "row"] ["self", "row"] (defScope sNoRow___init__) := ⟨rfl, rfl, rfl, by decide +kernel, rfl, by decide +kernel, by decide +kernel⟩
section
variable {P : Program} {w : World} {K : PySem.W.Frag} {mg : Str → Option Value} {base : Heap} {C_Held : Addr} {C_LetGo : Addr} {C_Missing : Addr} {C_NewError : Addr} {C_NoName : Addr} {C_NoRow : Addr} {C_NoSpare : Addr} {C_Twice : Addr}
theorem ok_x_Twice {f} {fd} (F : Fun K "__init__" "Twice.__init__" sTwice___init__ f fd) (T : Txt K mg C_Held C_LetGo C_Missing C_NewError C_NoName C_NoRow C_NoSpare C_Twice) : FnOk P w K mg base CX0 1 f fd ["self", "name"] (spXm C_Twice "name" okName) := by
  refine F.ok scTwice___init__ (fun vs H Q E h => ?_) (fun cdv A outer s H vs Q E hr h => ?_)
  · obtain ⟨a, y, rfl, _⟩ := h
    rfl
  · obtain ⟨a, y, rfl, ha, hy, q⟩ := h
    have hu := hu_of hr
    refine ⟨_, (pss_cons (ps_expr (NN.pe_base T.ne.mg T.ne.ini (pa_cons (NN.pv 0) (pa_cons (NN.pv 1) pa_nil))))
      (pss_one (ps_ost (NN.pv 0) (NN.pv 1)))), ?_⟩
    refine NN.g_st [some (.ref a), some y] rfl ?_
    fail "go"
    refine ⟨a, C_Twice, _, rfl, by simp, T.o_Twice, ha, ?_⟩
    fail "go"
    exact ⟨a, C_Twice, rfl, T.o_Twice, T.er_Twice.no, .inl ⟨ha, q⟩⟩
theorem ok_x_Missing {f} {fd} (F : Fun K "__init__" "Missing.__init__" sMissing___init__ f fd) (T : Txt K mg C_Held C_LetGo C_Missing C_NewError C_NoName C_NoRow C_NoSpare C_Twice) : FnOk P w K mg base CX0 1 f fd ["self", "name"] (spXm C_Missing "name" okName) := by
  refine F.ok scMissing___init__ (fun vs H Q E h => ?_) (fun cdv A outer s H vs Q E hr h => ?_)
  · obtain ⟨a, y, rfl, _⟩ := h
    rfl
  · obtain ⟨a, y, rfl, ha, hy, q⟩ := h
    have hu := hu_of hr
    refine ⟨_, (pss_cons (ps_expr (NN.pe_base T.ne.mg T.ne.ini (pa_cons (NN.pv 0) (pa_cons (NN.pv 1) pa_nil))))
      (pss_one (ps_ost (NN.pv 0) (NN.pv 1)))), ?_⟩
    refine NN.g_st [some (.ref a), some y] rfl ?_
    fail "go"
    refine ⟨a, C_Missing, _, rfl, by simp, T.o_Missing, ha, ?_⟩
    fail "go"
    exact ⟨a, C_Missing, rfl, T.o_Missing, T.er_Missing.no, .inl ⟨ha, q⟩⟩
theorem ok_x_Held {f} {fd} (F : Fun K "__init__" "Held.__init__" sHeld___init__ f fd) (T : Txt K mg C_Held C_LetGo C_Missing C_NewError C_NoName C_NoRow C_NoSpare C_Twice) : FnOk P w K mg base CX0 1 f fd ["self", "name"] (spXm C_Held "name" okName) := by
  refine F.ok scHeld___init__ (fun vs H Q E h => ?_) (fun cdv A outer s H vs Q E hr h => ?_)
  · obtain ⟨a, y, rfl, _⟩ := h
    rfl
  · obtain ⟨a, y, rfl, ha, hy, q⟩ := h
    have hu := hu_of hr
    refine ⟨_, (pss_cons (ps_expr (NN.pe_base T.ne.mg T.ne.ini (pa_cons (NN.pv 0) (pa_cons (NN.pv 1) pa_nil))))
      (pss_one (ps_ost (NN.pv 0) (NN.pv 1)))), ?_⟩
    refine NN.g_st [some (.ref a), some y] rfl ?_
    fail "go"
    refine ⟨a, C_Held, _, rfl, by simp, T.o_Held, ha, ?_⟩
    fail "go"
    exact ⟨a, C_Held, rfl, T.o_Held, T.er_Held.no, .inl ⟨ha, q⟩⟩
theorem ok_x_LetGo {f} {fd} (F : Fun K "__init__" "LetGo.__init__" sLetGo___init__ f fd) (T : Txt K mg C_Held C_LetGo C_Missing C_NewError C_NoName C_NoRow C_NoSpare C_Twice) : FnOk P w K mg base CX0 1 f fd ["self", "name"] (spXm C_LetGo "name" okName) := by
  refine F.ok scLetGo___init__ (fun vs H Q E h => ?_) (fun cdv A outer s H vs Q E hr h => ?_)
  · obtain ⟨a, y, rfl, _⟩ := h
    rfl
  · obtain ⟨a, y, rfl, ha, hy, q⟩ := h
    have hu := hu_of hr
    refine ⟨_, (pss_cons (ps_expr (NN.pe_base T.ne.mg T.ne.ini (pa_cons (NN.pv 0) (pa_cons (NN.pv 1) pa_nil))))
      (pss_one (ps_ost (NN.pv 0) (NN.pv 1)))), ?_⟩
    refine NN.g_st [some (.ref a), some y] rfl ?_
    fail "go"
    refine ⟨a, C_LetGo, _, rfl, by simp, T.o_LetGo, ha, ?_⟩
    fail "go"
    exact ⟨a, C_LetGo, rfl, T.o_LetGo, T.er_LetGo.no, .inl ⟨ha, q⟩⟩
theorem ok_x_NoSpare {f} {fd} (F : Fun K "__init__" "NoSpare.__init__" sNoSpare___init__ f fd) (T : Txt K mg C_Held C_LetGo C_Missing C_NewError C_NoName C_NoRow C_NoSpare C_Twice) : FnOk P w K mg base CX0 1 f fd ["self", "ring"] (spXm C_NoSpare "ring" okRing) := by
  refine F.ok scNoSpare___init__ (fun vs H Q E h => ?_) (fun cdv A outer s H vs Q E hr h => ?_)
  · obtain ⟨a, y, rfl, _⟩ := h
    rfl
  · obtain ⟨a, y, rfl, ha, hy, q⟩ := h
    have hu := hu_of hr
    refine ⟨_, (pss_cons (ps_expr (NN.pe_base T.ne.mg T.ne.ini (pa_cons (NN.pv 0) (pa_cons (pe_ix (NN.ix_K (K := K) rfl hu) (NN.pv 1) pe_int (fun _ _ => rfl)) pa_nil))))
      (pss_one (ps_ost (NN.pv 0) (NN.pv 1)))), ?_⟩
    refine NN.g_st [some (.ref a), some y] rfl ?_
    fail "go"
    obtain ⟨t, x, xs, rfl, ht⟩ := hy
    refine g_ixT ht (atI_nat (j := 0) rfl) ?_
    fail "go"
    refine ⟨a, C_NoSpare, _, rfl, by simp, T.o_NoSpare, ha, ?_⟩
    fail "go"
    exact ⟨a, C_NoSpare, rfl, T.o_NoSpare, T.er_NoSpare.no, .inl ⟨ha, q⟩⟩
theorem ok_x_NoRow {f} {fd} (F : Fun K "__init__" "NoRow.__init__" sNoRow___init__ f fd) (T : Txt K mg C_Held C_LetGo C_Missing C_NewError C_NoName C_NoRow C_NoSpare C_Twice) : FnOk P w K mg base CX0 1 f fd ["self", "row"] (spXm C_NoRow "row" okRow) := by
  refine F.ok scNoRow___init__ (fun vs H Q E h => ?_) (fun cdv A outer s H vs Q E hr h => ?_)
  · obtain ⟨a, y, rfl, _⟩ := h
    rfl
  · obtain ⟨a, y, rfl, ha, hy, q⟩ := h
    have hu := hu_of hr
    refine ⟨_, (pss_cons (ps_expr (NN.pe_base T.ne.mg T.ne.ini (pa_cons (NN.pv 0) (pa_cons (pe_callTy call_str_int (by rfl) T.b_str (by decide +kernel) (pa_cons (NN.pv 1) pa_nil)) pa_nil))))
      (pss_one (ps_ost (NN.pv 0) (NN.pv 1)))), ?_⟩
    refine NN.g_st [some (.ref a), some y] rfl ?_
    fail "go"
    obtain ⟨i, rfl, hi⟩ := hy
    refine ⟨_, rfl, hi, ?_⟩
    fail "go"
    refine ⟨a, C_NoRow, _, rfl, by simp, T.o_NoRow, ha, ?_⟩
    fail "go"
    exact ⟨a, C_NoRow, rfl, T.o_NoRow, T.er_NoRow.no, .inl ⟨ha, q⟩⟩
end
end Nw
namespace Nw
open PySem L2 NN
abbrev slaw_made : Stmt := top 16
theorem sclaw_made : FnScope ["_law_state", "_law_names", "_law_ring_here", "_law_row", "_law_text", "_law_made_here", "_law_turn"] ["_law_state"] (defScope slaw_made) := ⟨rfl, rfl, rfl, by decide +kernel, rfl, by decide +kernel, by decide +kernel⟩
section
variable {P : Program} {w : World} {K : PySem.W.Frag} {mg : Str → Option Value} {base : Heap} {C_Held : Addr} {C_LetGo : Addr} {C_Missing : Addr} {C_NewError : Addr} {C_NoName : Addr} {C_NoRow : Addr} {C_NoSpare : Addr} {C_Twice : Addr}
theorem ok_made {f} {fd} (F : Fun K "_law_made" "_law_made" slaw_made f fd) (T : Txt K mg C_Held C_LetGo C_Missing C_NewError C_NoName C_NoRow C_NoSpare C_Twice) (F_law_take : FnAt P w K mg base CX0 2 "_law_take" ["_law_state", "_law_size"] spTake) (F_law_pick : FnAt P w K mg base CX0 3 "_law_pick" ["_law_state", "_law_some"] spPick) (F_law_word : FnAt P w K mg base CX0 4 "_law_word" ["_law_state"] spWord)
    (F_law_ring : FnAt P w K mg base CX0 5 "_law_ring" ["_law_state"] spRing) (F_Twice : XmAt P w K mg base 1 "Twice" C_Twice ["self", "name"] (spXm C_Twice "name" okName)) (F_Missing : XmAt P w K mg base 1 "Missing" C_Missing ["self", "name"] (spXm C_Missing "name" okName))
    (F_Held : XmAt P w K mg base 1 "Held" C_Held ["self", "name"] (spXm C_Held "name" okName)) (F_LetGo : XmAt P w K mg base 1 "LetGo" C_LetGo ["self", "name"] (spXm C_LetGo "name" okName)) (F_NoSpare : XmAt P w K mg base 1 "NoSpare" C_NoSpare ["self", "ring"] (spXm C_NoSpare "ring" okRing))
    (F_NoRow : XmAt P w K mg base 1 "NoRow" C_NoRow ["self", "row"] (spXm C_NoRow "row" okRow)) : FnOk P w K mg base CX0 6 f fd ["_law_state"] (spMade [C_NoName, C_Twice, C_Missing, C_Held, C_LetGo, C_NoSpare, C_NoRow]) := by
  refine F.ok sclaw_made (fun vs H Q E h => ?_) (fun cdv A outer s H vs Q E hr h => ?_)
  · obtain ⟨N, st, g, c, rfl, _⟩ := h
    rfl
  · obtain ⟨N, st, g, c, rfl, hN, hst, q⟩ := h
    have hu := hu_of hr
    have hu64 : (A.deeper (PyProof.Rows.envOfC "_law_made" (defScope slaw_made) s.heap.objs.size f cdv)).units + 64 < cLine := by have := hr.un; omega
    refine ⟨_, (pss_cons (ps_par (i := 1) (j := 2) (by rfl) sclaw_made.nd rfl rfl (by decide) rfl rfl (pa_cons (pe_lc (own := [("_law_turn", 6)]) rfl sclaw_made.nd (pi_range1 (by rfl) T.b_range (pa_cons pe_int pa_nil)) (blkOk_by (own := [("_law_turn", 6)]) (N := ["_law_state", "_law_names", "_law_ring_here", "_law_row", "_law_text", "_law_made_here", "_law_turn"]) (sc := defScope slaw_made) (by decide +kernel)) (fun _ _ _ _ _ => (pg_name (i := 6) sclaw_made.nd rfl (Or.inl rfl))) (fun _ _ _ _ _ => pts_nil) (fun _ _ _ _ _ => (NN.pe_fn F_law_word (hr.mono (by first | decide | omega)) (pa_cons (NN.pv 0) pa_nil)))) (pa_cons (NN.pe_fn F_law_ring (hr.mono (by first | decide | omega)) (pa_cons (NN.pv 0) pa_nil)) pa_nil)) (by rfl))
      (pss_cons (ps_par (i := 3) (j := 4) (by rfl) sclaw_made.nd rfl rfl (by decide) rfl rfl (pa_cons (NN.pe_fn F_law_pick (hr.mono (by first | decide | omega)) (pa_cons (NN.pv 0) (pa_cons (pe_lst (pa_cons pe_int (pa_cons pe_int (pa_cons (NN.pe_fn F_law_take (hr.mono (by first | decide | omega)) (pa_cons (NN.pv 0) (pa_cons (pe_op op_pow pe_int pe_int) pa_nil))) pa_nil)))) pa_nil))) (pa_cons (NN.pe_fn F_law_pick (hr.mono (by first | decide | omega)) (pa_cons (NN.pv 0) (pa_cons (pe_lst (pa_cons pe_str (pa_cons pe_str (pa_cons pe_str (pa_cons (pe_ix (NN.ix_K (K := K) rfl hu) (NN.pv 1) pe_int (fun _ _ => rfl)) pa_nil))))) pa_nil))) pa_nil)) (by rfl))
      (pss_cons (ps_set (i := 5) sclaw_made.nd rfl (Or.inl rfl) (pe_lst (pa_cons (NN.pe_excV PySem.F.excBase_ValueError T.own_NoName.x T.g_NoName T.own_NoName.k (NN.pv 4)) (pa_cons (NN.pe_xv F_Twice (hr.mono (by first | decide | omega)) (pa_cons (pe_ix (NN.ix_K (K := K) rfl hu) (NN.pv 1) pe_int (fun _ _ => rfl)) pa_nil)) (pa_cons (NN.pe_xv F_Missing (hr.mono (by first | decide | omega)) (pa_cons (pe_ix (NN.ix_K (K := K) rfl hu) (NN.pv 1) pe_int (fun _ _ => rfl)) pa_nil)) (pa_cons (NN.pe_xv F_Held (hr.mono (by first | decide | omega)) (pa_cons (pe_ix (NN.ix_K (K := K) rfl hu) (NN.pv 1) pe_int (fun _ _ => rfl)) pa_nil)) (pa_cons (NN.pe_xv F_LetGo (hr.mono (by first | decide | omega)) (pa_cons (pe_ix (NN.ix_K (K := K) rfl hu) (NN.pv 1) pe_int (fun _ _ => rfl)) pa_nil)) pa_nil)))))))
      (pss_one (ps_ret (pe_tup (pa_cons (pe_op NN.op_addU (NN.pv 5) (pe_lst (pa_cons (NN.pe_xv F_NoSpare (hr.mono (by first | decide | omega)) (pa_cons (NN.pv 2) pa_nil)) (pa_cons (NN.pe_xv F_NoRow (hr.mono (by first | decide | omega)) (pa_cons (NN.pv 3) pa_nil)) pa_nil)))) (pa_cons (pe_op NN.op_addU (pe_op NN.op_addU (pe_lst (pa_cons pe_non pa_nil)) (NN.pv 1)) (pe_lst (pa_cons (NN.pv 2) (pa_cons (NN.pv 3) pa_nil)))) pa_nil)))))))), ?_⟩
    refine NN.g_st [some (.ref st), none, none, none, none, none, none] rfl ?_
    fail "g1"
    refine NN.g_par ?_
    fail "gs"
    intro D hD
    have nD : ∀ b ∈ [st, g, c], b ∉ [D] := fun b hb => by
      have := hst.live.fresh hD
      intro z
      rw [List.mem_singleton.mp z] at hb
      exact this hb
    have nD2 : D ≠ st ∧ D ≠ g ∧ D ≠ c := ⟨fun e => nD st (by simp) (by simp [e]), fun e => nD g (by simp) (by simp [e]), fun e => nD c (by simp) (by simp [e])⟩
    refine lc_kp walk_range [st, g] (fun i acc H' => ∃ zs : List Str, acc = zs.map V.str ∧ zs.length = i ∧ (∀ z ∈ zs, isName z = true) ∧ StE (N + 9 * i) H' st g c) hD ⟨[], rfl, rfl, by simp, hst.upn hD⟩ (fun _ _ _ _ _ _ => trivial) ?_ ?_
    · rintro i x H5 H6 acc hi hacc hl k5 ⟨zs, rfl, hcs, hcl, hst5⟩ ⟨rfl, rfl⟩
      fail "gs"
      have hi4 : i < 4 := hi
      refine ⟨N + 9 * i, st, g, c, rfl, by omega, hst5, fun z H7 hz k6 hst7 => ?_⟩
      refine lc_add (k6.at hacc (by simp [nD2])) hl (by omega) (k5.trans (k6.sub (by simp))) ?_
      refine ⟨zs ++ [z], by simp, by simp [hcs], fun u hu => ?_, (hst7.kp (S := [D]) (Kp.mut (by simp)) nD).up (by omega)⟩
      rcases List.mem_append.mp hu with h | h
      · exact hcl u h
      · rw [List.mem_singleton.mp h]; exact hz
    rintro H1 acc hacc k1 ⟨zs, rfl, hzl, hzn, hst1⟩
    obtain ⟨n0, n1, n2, n3, rfl⟩ : ∃ n0 n1 n2 n3, zs = [n0, n1, n2, n3] := by
      match zs, hzl with
      | [a, b, c, d], _ => exact ⟨a, b, c, d, rfl⟩
    refine ⟨N + 36, st, g, c, rfl, by omega, hst1.up (by show N + 9 * 4 ≤ _; omega), fun tr rs H2 htr0 k2 hst2 htr hr2 hr5 hrn => ?_⟩
    have hD2 := k2.at hacc (by simp [nD2])
    refine ⟨_, _, rfl, ?_⟩
    fail "gs"
    refine NN.g_par ?_
    fail "gs"
    refine ⟨N + 82, st, g, c, _, rfl, by omega, hst2.up (by omega), by decide, by decide, fun r H3 hr0 hr1 k3 hst3 => ?_⟩
    refine ⟨sz1 (by simp), fun p3 hp3 => ?_⟩
    have kp3 : Kp [] H3 (upd H3 p3 (.lst [.int 0, .int 1, .int r])) := Kp.new hp3
    have np3 : p3 ≠ g := fun e => hst3.live g (by simp) (e ▸ hp3)
    refine ⟨N + 83, st, g, c, _, rfl, by omega, hst3.upn hp3, .inr ⟨p3, _, rfl, upd_same, np3, by simp, by simp, fun rv H4 hrv k4 hst4 => ?_⟩⟩
    obtain ⟨ri, rfl, hri⟩ : ∃ ri : Int, rv = V.int ri ∧ ri.natAbs < 1073741824 := by
      simp only [List.mem_cons, List.not_mem_nil, or_false] at hrv
      have e9 : (10 : Int) ^ Int.toNat 9 < 1073741824 := by decide
      rcases hrv with rfl | rfl | rfl
      · exact ⟨_, rfl, by decide⟩
      · exact ⟨_, rfl, by decide⟩
      · exact ⟨_, rfl, by omega⟩
    have hlog : ri.natAbs.log2 < 1920 := by
      by_cases h0 : ri.natAbs = 0
      · rw [h0]; decide
      · have := (Nat.log2_lt h0 (k := 30)).mpr (by omega)
        omega
    have k24 : Kp [st, g] H2 H4 := (k3.trans (kp3.sub (by simp))).trans k4
    have hD4 := k24.at hD2 (by simp [nD2])
    have ntr : tr ∉ [st, g] := fun h => (hst1.live.fresh htr0) ((by simp : [st, g] ⊆ [st, g, c]) h)
    have htr4 := k24.at htr ntr
    refine g_ixL hD4 (v := .str n0) (by show atI _ ((0 : Nat) : Int) = _; exact atI_nat (by simp)) ?_
    refine ⟨sz1 (by simp), fun p5 hp5 => ?_⟩
    have np5 : p5 ≠ g := fun e => hst4.live g (by simp) (e ▸ hp5)
    have kp5 : Kp [] H4 (upd H4 p5 (.lst [.str "", .str "A", .str "no name", .str n0])) := Kp.new hp5
    refine ⟨N + 84, st, g, c, _, rfl, by omega, hst4.upn hp5, .inr ⟨p5, _, rfl, upd_same, np5, by simp, by simp, fun tv H6 htv k6 hst6 => ?_⟩⟩
    have k46 : Kp [st, g] H4 H6 := (kp5.sub (by simp)).trans k6
    have hD6 := k46.at hD4 (by simp [nD2])
    have htr6 := k46.at htr4 ntr
    have k06 := ((k1.trans k2).trans k24).trans k46
    refine ⟨_, _, rfl, ?_⟩
    fail "gs"
    fail "g1"
    fail "gs"
    intro a0 ha0
    have k7 : Kp [] H6 (upd H6 a0 (exk a0 (.ref C_NoName) none)) := Kp.new ha0
    have is0 : IsE (upd H6 a0 (exk a0 (.ref C_NoName) none)) a0 (.ref C_NoName) none := .inl upd_same
    generalize upd H6 a0 (exk a0 (.ref C_NoName) none) = H7 at k7 is0 ⊢
    have fr : ∀ {H' : Hp} {b : Addr}, Kp [] H6 H' → H' b = none → H b = none := fun {H' b} k h => (k06.trans (k.sub (by simp))).free h fun z => (hst6.kp0 k).live.fresh h ((by simp : [st, g] ⊆ [st, g, c]) z)
    have k67 := k7
    unfold NN.tXv
    fail "gs"
    refine g_ixL ((k67).at hD6 (by simp)) (v := .str n0) (by show atI _ ((0 : Nat) : Int) = _; exact atI_nat (by simp)) ⟨_, rfl, fun _ _ => trivial, fun a1 d1 H8 na1 nd1 _ k8 is1 hf1 => ?_⟩
    have k6H8 := (k67).trans k8
    refine g_ixL ((k6H8).at hD6 (by simp)) (v := .str n1) (by show atI _ ((1 : Nat) : Int) = _; exact atI_nat (by simp)) ⟨_, rfl, fun _ _ => trivial, fun a2 d2 H9 na2 nd2 _ k9 is2 hf2 => ?_⟩
    have k6H9 := (k6H8).trans k9
    refine g_ixL ((k6H9).at hD6 (by simp)) (v := .str n2) (by show atI _ ((2 : Nat) : Int) = _; exact atI_nat (by simp)) ⟨_, rfl, fun _ _ => trivial, fun a3 d3 H10 na3 nd3 _ k10 is3 hf3 => ?_⟩
    have k6H10 := (k6H9).trans k10
    refine g_ixL ((k6H10).at hD6 (by simp)) (v := .str n3) (by show atI _ ((3 : Nat) : Int) = _; exact atI_nat (by simp)) ⟨_, rfl, fun _ _ => trivial, fun a4 d4 H11 na4 nd4 _ k11 is4 hf4 => ?_⟩
    have k6H11 := (k6H10).trans k11
    refine ⟨sz1 (by simp), fun p12 hp12 => ?_⟩
    have k12 : Kp [] H11 (upd H11 p12 (.lst [.ref a0, .ref a1, .ref a2, .ref a3, .ref a4])) := Kp.new hp12
    have h12 : upd H11 p12 (.lst [.ref a0, .ref a1, .ref a2, .ref a3, .ref a4]) p12 = some (.lst [.ref a0, .ref a1, .ref a2, .ref a3, .ref a4]) := upd_same
    generalize upd H11 p12 (.lst [.ref a0, .ref a1, .ref a2, .ref a3, .ref a4]) = H12 at k12 h12 ⊢
    have k6H12 := k6H11.trans k12
    have htr12 := k6H12.at htr6 (by simp)
    obtain ⟨r0, rs0, rfl⟩ : ∃ r0 rs0, rs = r0 :: rs0 := by cases rs with | nil => simp at hr2 | cons a b => exact ⟨a, b, rfl⟩
    refine ⟨_, rfl, fun b hb => ⟨tr, _, _, rfl, by rw [upd_ne (ne_of_none htr12 hb)]; exact htr12⟩, fun a5 d5 H13 na5 nd5 _ k13 is5 hf5 => ?_⟩
    have k6H13 := k6H12.trans k13
    refine ⟨_, rfl, fun _ _ => ⟨ri, rfl, hlog⟩, fun a6 d6 H14 na6 nd6 _ k14 is6 hf6 => ?_⟩
    have k6H14 := k6H13.trans k14
    refine ⟨sz1 (by simp), fun p15 hp15 => ?_⟩
    have k15 : Kp [] H14 (upd H14 p15 (.lst [.ref a5, .ref a6])) := Kp.new hp15
    have h15 : upd H14 p15 (.lst [.ref a5, .ref a6]) p15 = some (.lst [.ref a5, .ref a6]) := upd_same
    generalize upd H14 p15 (.lst [.ref a5, .ref a6]) = H15 at k15 h15 ⊢
    have k6H15 := k6H14.trans k15
    refine g_addLk (((k13.trans k14).trans k15).at h12 (by simp)) h15 (sz1 (by simp)) fun p16 H16 np16 k16 h16 => ?_
    have k6H16 := k6H15.trans k16
    refine ⟨sz1 (by simp), fun p17 hp17 => ?_⟩
    have k17 : Kp [] H16 (upd H16 p17 (.lst [.non])) := Kp.new hp17
    have h17 : upd H16 p17 (.lst [.non]) p17 = some (.lst [.non]) := upd_same
    generalize upd H16 p17 (.lst [.non]) = H17 at k17 h17 ⊢
    have k6H17 := k6H16.trans k17
    refine g_addLk h17 (k6H17.at hD6 (by simp)) (sz1 (by simp)) fun p18 H18 np18 k18 h18 => ?_
    have k6H18 := k6H17.trans k18
    refine ⟨sz1 (by simp), fun p19 hp19 => ?_⟩
    have k19 : Kp [] H18 (upd H18 p19 (.lst [.ref tr, .int ri])) := Kp.new hp19
    have h19 : upd H18 p19 (.lst [.ref tr, .int ri]) p19 = some (.lst [.ref tr, .int ri]) := upd_same
    generalize upd H18 p19 (.lst [.ref tr, .int ri]) = H19 at k19 h19 ⊢
    have k6H19 := k6H18.trans k19
    refine g_addLk (k19.at h18 (by simp)) h19 (sz1 (by simp)) fun p20 H20 np20 k20 h20 => ?_
    have k6H20 := k6H19.trans k20
    refine ⟨sz1 (by simp), fun p21 hp21 => ?_⟩
    have k21 : Kp [] H20 (upd H20 p21 (.tup [.ref p16, .ref p20])) := Kp.new hp21
    have h21 : upd H20 p21 (.tup [.ref p16, .ref p20]) p21 = some (.tup [.ref p16, .ref p20]) := upd_same
    generalize upd H20 p21 (.tup [.ref p16, .ref p20]) = H21 at k21 h21 ⊢
    have k6H21 := k6H20.trans k21
    have bk : ∀ {H' : Hp}, Kp [] H' H21 → ∀ {e C : Addr} {d : Option Addr} {fs : List (Str × V)}, IsE H' e (.ref C) d → HasF H' d fs → IsE H21 e (.ref C) d ∧ HasF H21 d fs := fun {H'} k {e C d fs} a b => ⟨a.kp k (by simp), b.kp k (fun _ _ => by simp)⟩
    have t20 := k21
    have tH19 := k20.trans t20
    have tH18 := k19.trans tH19
    have tH17 := k18.trans tH18
    have tH16 := k17.trans tH17
    have tH15 := k16.trans tH16
    have tH14 := k15.trans tH15
    have tH13 := k14.trans tH14
    have tH12 := k13.trans tH13
    have tH11 := k12.trans tH12
    have tH10 := k11.trans tH11
    have tH9 := k10.trans tH10
    have tH8 := k9.trans tH9
    have tH7 := k8.trans tH8
    refine q p21 H21 (fr k6H20 hp21) (k06.trans (k6H21.sub (by simp))) ((hst6.kp0 k6H21).up (by omega)) fun S hS => ⟨p16, p20, [a0, a1, a2, a3, a4, a5, a6], [.non, .str n0, .str n1, .str n2, .str n3, .ref tr, .int ri], hS.fresh (fr k6H20 hp21), hS.fresh (fr k6H15 np16), hS.fresh (fr k6H19 np20), h21, (((((k17.trans k18).trans k19).trans k20).trans k21).at h16 (by simp)), rfl, k21.at h20 (by simp), rfl, fun i e C v he hv hC => ?_⟩
    have nm : ∀ z ∈ [n0, n1, n2, n3], ShownD (.v (.str z)) := fun z hz => shown_str (name_fine (hzn z hz)) (by have := name_len (hzn z hz); omega)
    have ntS : tr ∉ S := hS.fresh (k1.free htr0 ntr)
    match i, he, hv, hC with
    | 0, he, hv, hC => cases he; cases hv; cases hC; exact ⟨none, [], hS.fresh (fr (Kp.refl _ _) ha0), (fun x z => nomatch z), (bk tH7 is0 rfl).1, (bk tH7 is0 (fs := []) rfl).2, .inl ⟨rfl, rfl⟩⟩
    | 1, he, hv, hC => cases he; cases hv; cases hC; exact ⟨some d1, _, hS.fresh (fr k67 na1), (fun x z => by cases z; exact hS.fresh (fr k67 nd1)), (bk tH8 is1 hf1).1, (bk tH8 is1 hf1).2, .inr ⟨by decide, "name", _, rfl, by simp [List.lookup], .v _, nm _ (by simp)⟩⟩
    | 2, he, hv, hC => cases he; cases hv; cases hC; exact ⟨some d2, _, hS.fresh (fr k6H8 na2), (fun x z => by cases z; exact hS.fresh (fr k6H8 nd2)), (bk tH9 is2 hf2).1, (bk tH9 is2 hf2).2, .inr ⟨by decide, "name", _, rfl, by simp [List.lookup], .v _, nm _ (by simp)⟩⟩
    | 3, he, hv, hC => cases he; cases hv; cases hC; exact ⟨some d3, _, hS.fresh (fr k6H9 na3), (fun x z => by cases z; exact hS.fresh (fr k6H9 nd3)), (bk tH10 is3 hf3).1, (bk tH10 is3 hf3).2, .inr ⟨by decide, "name", _, rfl, by simp [List.lookup], .v _, nm _ (by simp)⟩⟩
    | 4, he, hv, hC => cases he; cases hv; cases hC; exact ⟨some d4, _, hS.fresh (fr k6H10 na4), (fun x z => by cases z; exact hS.fresh (fr k6H10 nd4)), (bk tH11 is4 hf4).1, (bk tH11 is4 hf4).2, .inr ⟨by decide, "name", _, rfl, by simp [List.lookup], .v _, nm _ (by simp)⟩⟩
    | 5, he, hv, hC => cases he; cases hv; cases hC; exact ⟨some d5, _, hS.fresh (fr k6H12 na5), (fun x z => by cases z; exact hS.fresh (fr k6H12 nd5)), (bk tH13 is5 hf5).1, (bk tH13 is5 hf5).2, .inr ⟨by decide, "ring", _, rfl, by simp [List.lookup], .t ntS (k6H21.at htr6 (by simp)) (AtL.strsD _), shown_ring hr2 hr5 hrn⟩⟩
    | 6, he, hv, hC => cases he; cases hv; cases hC; exact ⟨some d6, _, hS.fresh (fr k6H13 na6), (fun x z => by cases z; exact hS.fresh (fr k6H13 nd6)), (bk tH14 is6 hf6).1, (bk tH14 is6 hf6).2, .inr ⟨by decide, "row", _, rfl, by simp [List.lookup], .v _, shown_int hlog⟩⟩
    | i + 7, he, _, _ => simp at he
end
end Nw
namespace Nw
open PySem L2 NN
abbrev slaw_kinds : Stmt := top 17
theorem sclaw_kinds : FnScope ["_law_error", "_law_found"] ["_law_error"] (defScope slaw_kinds) := ⟨rfl, rfl, rfl, by decide +kernel, rfl, by decide +kernel, by decide +kernel⟩
abbrev slaw_field : Stmt := top 18
theorem sclaw_field : FnScope ["_law_error", "_law_at"] ["_law_error", "_law_at"] (defScope slaw_field) := ⟨rfl, rfl, rfl, by decide +kernel, rfl, by decide +kernel, by decide +kernel⟩
section
variable {P : Program} {w : World} {K : PySem.W.Frag} {mg : Str → Option Value} {base : Heap} {C_Held : Addr} {C_LetGo : Addr} {C_Missing : Addr} {C_NewError : Addr} {C_NoName : Addr} {C_NoRow : Addr} {C_NoSpare : Addr} {C_Twice : Addr}
theorem ok_kinds {f} {fd} (F : Fun K "_law_kinds" "_law_kinds" slaw_kinds f fd) (T : Txt K mg C_Held C_LetGo C_Missing C_NewError C_NoName C_NoRow C_NoSpare C_Twice) : FnOk P w K mg base CX0 1 f fd ["_law_error"] (spKinds [C_NoName, C_Twice, C_Missing, C_Held, C_LetGo, C_NoSpare, C_NoRow]) := by
  refine F.ok sclaw_kinds (fun vs H Q E h => ?_) (fun cdv A outer s H vs Q E hr h => ?_)
  · obtain ⟨e, C, d, fs, i, rfl, _⟩ := h
    rfl
  · obtain ⟨e, C, d, fs, i, rfl, hC, hi, he, hf, q⟩ := h
    have hu := hu_of hr
    have hu64 : (A.deeper (PyProof.Rows.envOfC "_law_kinds" (defScope slaw_kinds) s.heap.objs.size f cdv)).units + 64 < cLine := by have := hr.un; omega
    obtain ⟨nm, fl, hfl, er, ks⟩ := T.err.at_ i C hC
    refine ⟨_, (pss_cons (ps_set (i := 1) sclaw_kinds.nd rfl (Or.inl rfl) (pe_lst (pa_cons (pe_callB (NN.call_isX (K := K) rfl) (by rfl) T.b_isinstance (by decide +kernel) (pa_cons (NN.pv 0) (pa_cons (NN.pe_globC (by rfl) T.g_NoName) pa_nil))) (pa_cons (pe_callB (NN.call_isX (K := K) rfl) (by rfl) T.b_isinstance (by decide +kernel) (pa_cons (NN.pv 0) (pa_cons (NN.pe_globC (by rfl) T.g_Twice) pa_nil))) (pa_cons (pe_callB (NN.call_isX (K := K) rfl) (by rfl) T.b_isinstance (by decide +kernel) (pa_cons (NN.pv 0) (pa_cons (NN.pe_globC (by rfl) T.g_Missing) pa_nil))) (pa_cons (pe_callB (NN.call_isX (K := K) rfl) (by rfl) T.b_isinstance (by decide +kernel) (pa_cons (NN.pv 0) (pa_cons (NN.pe_globC (by rfl) T.g_Held) pa_nil))) pa_nil))))))
      (pss_one (ps_ret (pe_op NN.op_addU (NN.pv 1) (pe_lst (pa_cons (pe_callB (NN.call_isX (K := K) rfl) (by rfl) T.b_isinstance (by decide +kernel) (pa_cons (NN.pv 0) (pa_cons (NN.pe_globC (by rfl) T.g_LetGo) pa_nil))) (pa_cons (pe_callB (NN.call_isX (K := K) rfl) (by rfl) T.b_isinstance (by decide +kernel) (pa_cons (NN.pv 0) (pa_cons (NN.pe_globC (by rfl) T.g_NoSpare) pa_nil))) (pa_cons (pe_callB (NN.call_isX (K := K) rfl) (by rfl) T.b_isinstance (by decide +kernel) (pa_cons (NN.pv 0) (pa_cons (NN.pe_globC (by rfl) T.g_NoRow) pa_nil))) pa_nil)))))))), ?_⟩
    refine NN.g_st [some (.ref e), none] rfl ?_
    have : i = 0 ∨ i = 1 ∨ i = 2 ∨ i = 3 ∨ i = 4 ∨ i = 5 ∨ i = 6 := by omega
    rcases this with rfl | rfl | rfl | rfl | rfl | rfl | rfl
    all_goals
      cases hfl
      simp only [marks, List.range, List.range.loop, List.map_cons, List.map_nil, Kits] at ks
      obtain ⟨k0, k1, k2, k3, k4, k5, k6, _⟩ := ks
      fail "go"
      refine g_isX he hf er.ex k0 (g_isX he hf er.ex k1 (g_isX he hf er.ex k2 (g_isX he hf er.ex k3 ?_)))
      fail "go"
      rename_i p1 hp1
      have kp1 : ∀ o, Kp [] H (upd H p1 o) := fun _ => Kp.new hp1
      have he1 := fun o => he.kp (kp1 o) (by simp)
      have hf1 := fun o => hf.kp (kp1 o) (by simp)
      refine g_isX (he1 _) (hf1 _) er.ex k4 (g_isX (he1 _) (hf1 _) er.ex k5 (g_isX (he1 _) (hf1 _) er.ex k6 ?_))
      fail "go"
      rename_i p2 hp2
      refine g_addLk (by rw [upd_ne (ne_of_none upd_same hp2)]; exact upd_same) upd_same (by rw [sizeLine_eq]; simp) fun p3 H3 np3 k23 h3 => ?_
      have k3 : Kp [] H H3 := ((kp1 _).trans (Kp.new hp2)).trans k23
      try (fail "go")
      exact q p3 H3 (((kp1 _).trans (Kp.new hp2)).free np3 (by simp)) k3 h3
theorem ok_field {f} {fd} (F : Fun K "_law_field" "_law_field" slaw_field f fd) (T : Txt K mg C_Held C_LetGo C_Missing C_NewError C_NoName C_NoRow C_NoSpare C_Twice) : FnOk P w K mg base CX0 1 f fd ["_law_error", "_law_at"] (spField [C_NoName, C_Twice, C_Missing, C_Held, C_LetGo, C_NoSpare, C_NoRow]) := by
  refine F.ok sclaw_field (fun vs H Q E h => ?_) (fun cdv A outer s H vs Q E hr h => ?_)
  · obtain ⟨e, C, v, i, rfl, _⟩ := h
    rfl
  · obtain ⟨e, C, v, i, rfl, hC, hi, hE, q⟩ := h
    have hu := hu_of hr
    have hu64 : (A.deeper (PyProof.Rows.envOfC "_law_field" (defScope slaw_field) s.heap.objs.size f cdv)).units + 64 < cLine := by have := hr.un; omega
    obtain ⟨nm, fl, hfl, er, ks⟩ := T.err.at_ i C hC
    obtain ⟨d, fs, _, _, he, hf, hv⟩ := hE.ex
    refine ⟨_, (pss_cons (ps_if (pt_cmpR (NN.op_eqK (K := K) rfl hu64) (NN.pv 1) pe_int (nomark _)) (pss_one (ps_ret pe_non)) pss_nil)
      (pss_cons (ps_if (pt_cmpR NN.op_ltU (NN.pv 1) pe_int (nomark _)) (pss_one (ps_ret (NN.pe_xfd (K := K) rfl (NN.pv 0)))) pss_nil)
      (pss_one (ps_ret (pe_ifExp (pt_cmpR (NN.op_eqK (K := K) rfl hu64) (NN.pv 1) pe_int (nomark _)) (NN.pe_xfd (K := K) rfl (NN.pv 0)) (NN.pe_xfd (K := K) rfl (NN.pv 0))))))), ?_⟩
    refine NN.g_st [some (.ref e), some (.int i), ] rfl ?_
    have : i = 0 ∨ i = 1 ∨ i = 2 ∨ i = 3 ∨ i = 4 ∨ i = 5 ∨ i = 6 := by omega
    rcases this with rfl | rfl | rfl | rfl | rfl | rfl | rfl
    all_goals
      cases hfl
      fail "go"
    all_goals
      rcases hv with ⟨h0, rfl⟩ | ⟨h0, f', D, hf', hl, _⟩
      all_goals first
        | exact q
        | exact absurd rfl h0
        | exact absurd h0 (by decide)
        | (cases hf'; exact ⟨e, C, d, fs, v, rfl, he, hf, er.xf, er.no, hl, q⟩)
end
end Nw
namespace Nw
open PySem L2 NN
abbrev slaw : Stmt := top 19
theorem sclaw : FnScope ["_law_script", "_law_state", "_law_lots", "_law_made_here", "_law_due", "_law_at", "_law_error", "_law_turn", "_law_spot"] ["_law_script"] (defScope slaw) := ⟨rfl, rfl, rfl, by decide +kernel, rfl, by decide +kernel, by decide +kernel⟩
section
variable {P : Program} {w : World} {K : PySem.W.Frag} {mg : Str → Option Value} {base : Heap} {C_Held : Addr} {C_LetGo : Addr} {C_Missing : Addr} {C_NewError : Addr} {C_NoName : Addr} {C_NoRow : Addr} {C_NoSpare : Addr} {C_Twice : Addr}
theorem ok_law {f} {fd} (F : Fun K "law" "law" slaw f fd) (T : Txt K mg C_Held C_LetGo C_Missing C_NewError C_NoName C_NoRow C_NoSpare C_Twice) (F_law_begun : FnAt P w K mg base CX0 1 "_law_begun" ["_law_script"] (spBegunL K)) (F_law_made : FnAt P w K mg base CX0 6 "_law_made" ["_law_state"] (spMade [C_NoName, C_Twice, C_Missing, C_Held, C_LetGo, C_NoSpare, C_NoRow]))
    (F_law_kinds : FnAt P w K mg base CX0 1 "_law_kinds" ["_law_error"] (spKinds [C_NoName, C_Twice, C_Missing, C_Held, C_LetGo, C_NoSpare, C_NoRow])) (F_law_field : FnAt P w K mg base CX0 1 "_law_field" ["_law_error", "_law_at"] (spField [C_NoName, C_Twice, C_Missing, C_Held, C_LetGo, C_NoSpare, C_NoRow])) :
    LawG P w K mg base 7 f fd ["_law_script"] (spLaw K) := by
  refine okG F sclaw ⟨by decide, by decide, by decide⟩ (fun vs H Q E h => ?_) (fun cdv sh H vs Q hr h => ?_)
  · obtain ⟨a, ns, rfl, _⟩ := h
    rfl
  · obtain ⟨a, ns, rfl, hS, hlen, q⟩ := h
    have hu := hu_of hr
    have hu64 : (callerA.deeper (PyProof.Rows.envOfC "law" (defScope slaw) sh.heap.objs.size f cdv)).units + 64 < cLine := by have := hr.un; omega
    have hgd : (callerA.deeper (PyProof.Rows.envOfC "law" (defScope slaw) sh.heap.objs.size f cdv)).guards = some [] := rfl
    refine ⟨_, (pss_cons (ps_set (i := 1) sclaw.nd rfl (Or.inr rfl) (NN.pe_fn F_law_begun (hr.mono (by first | decide | omega)) (pa_cons (NN.pv 0) pa_nil)))
      (pss_cons (ps_setLc (i := 2) (own := [("_law_turn", 7)]) rfl sclaw.nd rfl rfl (sw_true rfl rfl rfl (by decide +kernel)) (pi_range1 (by rfl) T.b_range (pa_cons (pe_op NN.op_addU pe_int (pe_callB (call_min2 rfl) (by rfl) T.b_min (by decide +kernel) (pa_cons (pe_callB (NN.call_lenK (K := K) rfl) (by rfl) T.b_len (by decide +kernel) (pa_cons (NN.pv 0) pa_nil)) (pa_cons pe_int pa_nil)))) pa_nil)) (blkOk_by (own := [("_law_turn", 7)]) (N := ["_law_script", "_law_state", "_law_lots", "_law_made_here", "_law_due", "_law_at", "_law_error", "_law_turn", "_law_spot"]) (sc := defScope slaw) (by decide +kernel)) (fun _ _ _ _ _ => (pg_name (i := 7) sclaw.nd rfl (Or.inl rfl))) (fun _ _ _ _ _ => pts_nil) (fun _ _ _ _ _ => (NN.pe_fn F_law_made (hr.mono (by first | decide | omega)) (pa_cons (NN.pv 1) pa_nil))))
      (pss_cons (ps_for PassesOwn.never rfl (NN.pi_listK (K := K) rfl (NN.pv 2)) (NN.pg_tupK (K := K) (n := 2) rfl rfl (pgs_cons (pg_name (i := 3) sclaw.nd rfl (Or.inl rfl)) (pgs_cons (pg_name (i := 4) sclaw.nd rfl (Or.inl rfl)) pgs_nil))) (pss_one (ps_for PassesOwn.never rfl (NN.pi_enumK (K := K) rfl (by rfl) T.b_enumerate (pa_cons (NN.pv 3) pa_nil)) (NN.pg_tupK (K := K) (n := 2) rfl rfl (pgs_cons (pg_name (i := 5) sclaw.nd rfl (Or.inr rfl)) (pgs_cons (pg_name (i := 6) sclaw.nd rfl (Or.inl rfl)) pgs_nil))) (pss_cons (ps_if (PW.pt (pw_or (pt_not (pt_val (pe_callB (NN.call_isX (K := K) rfl) (by rfl) T.b_isinstance (by decide +kernel) (pa_cons (NN.pv 6) (pa_cons (NN.pe_globC (by rfl) T.g_NewError) pa_nil))))) (pw_or1 (pt_not (pt_val (pe_callB (NN.call_isX (K := K) rfl) (by rfl) T.b_isinstance (by decide +kernel) (pa_cons (NN.pv 6) (pa_cons (NN.pe_bty (n := "ValueError") (by rfl) T.b_ValueError (by decide +kernel)) pa_nil)))))))) (pss_one (ps_ret pe_bl)) pss_nil)
      (pss_cons (ps_if (pt_cmpR (NN.op_neK (K := K) rfl hu64) (NN.pe_fn F_law_kinds (hr.mono (by first | decide | omega)) (pa_cons (NN.pv 6) pa_nil)) (pe_lc (own := [("_law_spot", 8)]) rfl sclaw.nd (pi_range1 (by rfl) T.b_range (pa_cons pe_int pa_nil)) (blkOk_by (own := [("_law_spot", 8)]) (N := ["_law_script", "_law_state", "_law_lots", "_law_made_here", "_law_due", "_law_at", "_law_error", "_law_turn", "_law_spot"]) (sc := defScope slaw) (by decide +kernel)) (fun _ _ _ _ _ => (pg_name (i := 8) sclaw.nd rfl (Or.inl rfl))) (fun _ _ _ _ _ => pts_nil) (fun _ _ _ _ _ => (pe_cmpR (NN.op_eqK (K := K) rfl hu64) (NN.pv 5) (NN.pv 8) (nomark _)))) (nomark _)) (pss_one (ps_ret pe_bl)) pss_nil)
      (pss_one (ps_if (pt_cmpR (NN.op_neK (K := K) rfl hu64) (pe_callB (NN.call_reprG (K := K) rfl hgd hu64) (by rfl) T.b_repr (by decide +kernel) (pa_cons (NN.pe_fn F_law_field (hr.mono (by first | decide | omega)) (pa_cons (NN.pv 6) (pa_cons (NN.pv 5) pa_nil))) pa_nil)) (pe_callB (NN.call_reprG (K := K) rfl hgd hu64) (by rfl) T.b_repr (by decide +kernel) (pa_cons (pe_ix (NN.ix_K (K := K) rfl hu) (NN.pv 4) (NN.pv 5) (fun _ _ => rfl)) pa_nil)) (nomark _)) (pss_one (ps_ret pe_bl)) pss_nil)))))))
      (pss_one (ps_ret pe_bl))))), ?_⟩
    refine NN.g_st [some (.ref a), none, none, none, none, none, none, none, none] rfl ?_
    fail "g1"
    fail "gs"
    refine ⟨a, ns, rfl, hS, hlen, fun st g c H1 hst0 hg0 hc0 k1 hst1 => ?_⟩
    fail "gs"
    fail "g1"
    fail "gs"
    refine .inl ⟨_, _, rfl, .inl ⟨_, k1.same.seq hS, rfl⟩, ?_⟩
    fail "gs"
    refine ⟨_, _, rfl, ?_⟩
    have hm : ∃ mn : Nat, (if (8 : Int) < ((ns.map V.int).length : Nat) then (8 : Int) else ((ns.map V.int).length : Nat)) = (mn : Nat) ∧ mn ≤ 8 := by
      by_cases h8 : (8 : Int) < ((ns.map V.int).length : Nat)
      · exact ⟨8, by rw [if_pos h8]; rfl, Nat.le_refl _⟩
      · exact ⟨_, by rw [if_neg h8], by omega⟩
    obtain ⟨mn, hmn, hm8⟩ := hm
    rw [hmn]
    fail "gs"
    intro D hD
    have nD : ∀ b ∈ [st, g, c], b ∉ [D] := fun b hb => by
      have := hst1.live.fresh hD
      intro z
      rw [List.mem_singleton.mp z] at hb
      exact this hb
    have nD2 : D ≠ st ∧ D ≠ g ∧ D ≠ c := ⟨fun e => nD st (by simp) (by simp [e]), fun e => nD g (by simp) (by simp [e]), fun e => nD c (by simp) (by simp [e])⟩
    refine lc_kp walk_range [st, g] (fun i acc H' => ∃ ps : List Addr, acc = ps.map V.ref ∧ ps.length = i ∧ StE (100 * i) H' st g c ∧ ∀ p ∈ ps, MadeAt [D, st, g] [C_NoName, C_Twice, C_Missing, C_Held, C_LetGo, C_NoSpare, C_NoRow] H' p) hD ⟨[], rfl, rfl, hst1.upn hD, by simp⟩ (fun _ _ _ _ _ _ => trivial) ?_ ?_
    · rintro i x H5 H6 acc hi hacc hl k5 ⟨ps, rfl, hpl, hst5, hps⟩ ⟨rfl, rfl⟩
      fail "gs"
      refine ⟨100 * i, st, g, c, rfl, by omega, hst5, fun p H7 hp0 k7 hst7 hma => ?_⟩
      have hacc7 := k7.at hacc (by simp [nD2])
      refine lc_add hacc7 hl (by omega) (k5.trans (k7.sub (by simp))) ?_
      have kD : Kp [D] H7 (upd H7 D (.lst (ps.map V.ref ++ [.ref p]))) := Kp.mut (by simp)
      have lv : Live [D, st, g] H6 := fun b hb => by
        simp only [List.mem_cons, List.not_mem_nil, or_false] at hb
        rcases hb with rfl | rfl | rfl
        · exact ne_some hacc
        · exact hst5.live _ (by simp)
        · exact hst5.live _ (by simp)
      refine ⟨ps ++ [p], by simp, by simp [hpl], (hst7.kp kD nD).up (by omega), fun b hb => ?_⟩
      rcases List.mem_append.mp hb with hb | hb
      · exact ((hps b hb).kp k7 (by simp)).kp kD (by simp)
      · rw [List.mem_singleton.mp hb]; exact (hma _ lv).kp kD (by simp)
    rintro H2 acc hacc k2 ⟨ps, rfl, hpl, hst2, hps⟩
    fail "gs"
    fail "g1"
    fail "gs"
    refine for_it (walk_list (xs := ps.map V.ref)) (fun j σ H' => ∃ v3 v4 v5 v6 : Option V, σ = [some (.ref a), some (.ref st), some (.ref D), v3, v4, v5, v6, none, none] ∧ Kp [] H2 H') ?_ ?_ ?_ ?_
    · exact ⟨_, _, _, _, rfl, Kp.refl _ _⟩
    · rintro j σ H' _ ⟨_, _, _, _, _, k⟩
      exact SqL.of (k.at hacc (by simp))
    · rintro j y σ H3 H4 hj ⟨v3, v4, v5, v6, rfl, k3⟩ ⟨rfl, hy⟩
      obtain ⟨p, hp, rfl⟩ : ∃ p, p ∈ ps ∧ y = V.ref p := by
        obtain ⟨p, hp, e⟩ := List.mem_map.mp (List.mem_of_getElem? hy)
        exact ⟨p, hp, e.symm⟩
      have ma := ((hps p hp).sub (S' := []) (by simp)).kp k3 (by simp)
      obtain ⟨m, du, es, ds, _, _, _, e1, e2, l1, e3, l2, e4⟩ := ma.ex
      refine g_tgt (SqT.of e1) rfl ?_
      fail "gs"
      refine for_it (walk_enum (xs := es.map V.ref)) (fun j σ H' => ∃ v5 v6 : Option V, σ = [some (.ref a), some (.ref st), some (.ref D), some (.ref m), some (.ref du), v5, v6, none, none] ∧ Kp [] H4 H') ?_ ?_ ?_ ?_
      · exact ⟨_, _, rfl, Kp.refl _ _⟩
      · rintro j σ H' _ ⟨_, _, _, k⟩
        exact SqL.of (k.at e2 (by simp))
      · rintro i z σ H5 H6 hi ⟨v5, v6, rfl, k5⟩ ⟨pp, x, y, rfl, hpp, rfl, hx, hy⟩
        have k6 : Kp [] H4 (upd H5 pp (.tup [x, y])) := k5.upn hpp
        refine g_tgt (SqT.of upd_same) rfl ?_
        have hy : (es.map V.ref)[i]? = some y := hy
        cases hx
        rw [List.getElem?_map] at hy
        obtain ⟨e, he, rfl⟩ := Option.map_eq_some_iff.mp hy
        generalize upd H5 pp (.tup [V.int (i : Nat), V.ref e]) = H6 at k6 ⊢
        have hi7 : i < 7 := by rw [← l1]; exact (List.getElem?_eq_some_iff.mp he).1
        obtain ⟨C, hC⟩ : ∃ C, [C_NoName, C_Twice, C_Missing, C_Held, C_LetGo, C_NoSpare, C_NoRow][i]? = some C := ⟨_, List.getElem?_eq_getElem hi7⟩
        obtain ⟨v, hv⟩ : ∃ v, ds[i]? = some v := ⟨_, List.getElem?_eq_getElem (by omega)⟩
        have hE := (e4 i e C v he hv hC).kp k6 (by simp)
        obtain ⟨nm, fl, hfl, er, ks⟩ := T.err.at_ i C hC
        obtain ⟨d, fs, _, _, ie, hf, hfv⟩ := hE.ex
        fail "gs"
        fail "g1"
        fail "gs"
        refine g_isX ie hf er.ex (kit_ne T.ne er) ?_
        fail "gs"
        refine g_isVE ie hf er.ex er.ve ?_
        fail "gs"
        fail "g1"
        fail "gs"
        refine ⟨e, C, d, fs, i, rfl, hC, hi7, ie, hf, fun kl H7 hkl0 k7 hkl => ?_⟩
        refine ⟨7, rfl, by decide, by decide, fun D2 hD2 => ?_⟩
        refine lc_fn walk_range (fun j => V.bl (decide (j = i))) [] hD2 (by decide) (fun _ _ => trivial) ?_ ?_
        · rintro j x H8 H9 hj hacc8 k8 ⟨rfl, rfl⟩
          fail "gs"
          refine lc_fn_add hacc8 (by have : j < 7 := hj; omega) k8 ?_
          congr 1
          by_cases ej : j = i
          · rw [decide_eq_true ej, ej, decide_eq_true (by congr 1; omega)]
          · rw [decide_eq_false ej, decide_eq_false (fun z => ej (by have := V.int.inj z; omega))]
        rintro H8 hacc8 k8
        have hbl : ∀ {H' : Hp} {l : Addr}, H' l = some (.lst ((List.range 7).map fun j => V.bl (decide (j = i)))) → At [] H' (.ref l) (.l ((List.range 7).map fun j => .v (.bl (decide (j = i))))) := fun {H' l} h => by
          refine .l (by simp) h ?_
          generalize List.range 7 = w
          induction w with
          | nil => exact .nil
          | cons z w ih => exact .cons (.v _) ih
        refine g_neAt (S := []) (S' := []) (hbl (k8.at hkl (by simp))) (hbl hacc8) (FineN.fine (n := 1) (FineN.l (n := 0) fun dd hdd => by obtain ⟨_, _, rfl⟩ := List.mem_map.mp hdd; exact .bl) (by decide)) ?_
        fail "gs"
        have k68 := k7.trans k8
        refine ⟨e, C, v, i, rfl, hC, hi7, hE.kp k68 (by simp), ?_⟩
        obtain ⟨qd, hat, pd, hpy, s1, s2, s3, s4⟩ : ∃ q, At [] H8 v q ∧ ShownD q := by
          rcases hfv with ⟨_, rfl⟩ | ⟨_, f', qd, _, _, hat, hs⟩
          · exact ⟨_, .v _, shown_non⟩
          · exact ⟨qd, hat.kp k68 (by simp), hs⟩
        refine g_reprD hat hpy s1 s2 s3 s4 ?_
        refine g_ixL ((k6.trans k68).at e3 (by simp)) (atI_nat hv) ?_
        refine g_reprD hat hpy s1 s2 s3 s4 ?_
        refine g_neS rfl ?_
        rw [decide_eq_true rfl]
        fail "gs"
        exact ⟨_, _, rfl, k6.trans k68⟩
      · rintro σ H5 ⟨v5, v6, rfl, k5⟩
        exact ⟨_, _, _, _, rfl, k3.trans k5⟩
    · rintro σ H3 ⟨v3, v4, v5, v6, rfl, k3⟩
      fail "gs"
      exact q _
end
end Nw
namespace Nw
open PySem L2 NN
theorem all_mk {l : PySem.W.OpenLaw} {w : World} {K : PySem.W.Frag} {h : Heap} {mg : Str → Option Value} {fa : Addr} (X : K.In h) (G : h.Ns mainGlobals mg) (hfa : mg "law" = some (.ref fa))
    {C_Held : Addr}
    (aC_Held : PySem.W.nsIn K mainGlobals "Held" = some (some (.ref C_Held)))
    {C_LetGo : Addr}
    (aC_LetGo : PySem.W.nsIn K mainGlobals "LetGo" = some (some (.ref C_LetGo)))
    {C_Missing : Addr}
    (aC_Missing : PySem.W.nsIn K mainGlobals "Missing" = some (some (.ref C_Missing)))
    {C_NewError : Addr}
    (aC_NewError : PySem.W.nsIn K mainGlobals "NewError" = some (some (.ref C_NewError)))
    {C_NoName : Addr}
    (aC_NoName : PySem.W.nsIn K mainGlobals "NoName" = some (some (.ref C_NoName)))
    {C_NoRow : Addr}
    (aC_NoRow : PySem.W.nsIn K mainGlobals "NoRow" = some (some (.ref C_NoRow)))
    {C_NoSpare : Addr}
    (aC_NoSpare : PySem.W.nsIn K mainGlobals "NoSpare" = some (some (.ref C_NoSpare)))
    {C_Twice : Addr}
    (aC_Twice : PySem.W.nsIn K mainGlobals "Twice" = some (some (.ref C_Twice)))
    {f_Twice___init__ : Addr} {od_Twice___init__ an_Twice___init__ : Option Addr} {sl_Twice___init__ : Array (Option Value)} {oc_Twice___init__ kV_Twice___init__ dc_Twice___init__ pm_Twice___init__ cd_Twice___init__ ct_Twice___init__ : Value}
    (a_Twice___init__ : PySem.W.findIn K (.ref C_Twice) "__init__" = some (some (.ref f_Twice___init__)))
    (i_Twice___init__ : PySem.W.isFn K (.ref f_Twice___init__) = true)
    (l_Twice___init__ : K.lookup f_Twice___init__ = some ⟨oc_Twice___init__, od_Twice___init__, .func (PySem.W.fnOf "__init__" "Twice.__init__" (defArgs sTwice___init__) (defBody sTwice___init__) (defScope sTwice___init__) .none kV_Twice___init__ dc_Twice___init__ pm_Twice___init__ an_Twice___init__ cd_Twice___init__ ct_Twice___init__), sl_Twice___init__⟩)
    (c_Twice___init__ : PySem.W.codeIn K cd_Twice___init__ "Twice.__init__" = true)
    (k_Twice___init__ : PySem.W.keepIn K (.ref f_Twice___init__) = true)
    {f_Missing___init__ : Addr} {od_Missing___init__ an_Missing___init__ : Option Addr} {sl_Missing___init__ : Array (Option Value)} {oc_Missing___init__ kV_Missing___init__ dc_Missing___init__ pm_Missing___init__ cd_Missing___init__ ct_Missing___init__ : Value}
    (a_Missing___init__ : PySem.W.findIn K (.ref C_Missing) "__init__" = some (some (.ref f_Missing___init__)))
    (i_Missing___init__ : PySem.W.isFn K (.ref f_Missing___init__) = true)
    (l_Missing___init__ : K.lookup f_Missing___init__ = some ⟨oc_Missing___init__, od_Missing___init__, .func (PySem.W.fnOf "__init__" "Missing.__init__" (defArgs sMissing___init__) (defBody sMissing___init__) (defScope sMissing___init__) .none kV_Missing___init__ dc_Missing___init__ pm_Missing___init__ an_Missing___init__ cd_Missing___init__ ct_Missing___init__), sl_Missing___init__⟩)
    (c_Missing___init__ : PySem.W.codeIn K cd_Missing___init__ "Missing.__init__" = true)
    (k_Missing___init__ : PySem.W.keepIn K (.ref f_Missing___init__) = true)
    {f_Held___init__ : Addr} {od_Held___init__ an_Held___init__ : Option Addr} {sl_Held___init__ : Array (Option Value)} {oc_Held___init__ kV_Held___init__ dc_Held___init__ pm_Held___init__ cd_Held___init__ ct_Held___init__ : Value}
    (a_Held___init__ : PySem.W.findIn K (.ref C_Held) "__init__" = some (some (.ref f_Held___init__)))
    (i_Held___init__ : PySem.W.isFn K (.ref f_Held___init__) = true)
    (l_Held___init__ : K.lookup f_Held___init__ = some ⟨oc_Held___init__, od_Held___init__, .func (PySem.W.fnOf "__init__" "Held.__init__" (defArgs sHeld___init__) (defBody sHeld___init__) (defScope sHeld___init__) .none kV_Held___init__ dc_Held___init__ pm_Held___init__ an_Held___init__ cd_Held___init__ ct_Held___init__), sl_Held___init__⟩)
    (c_Held___init__ : PySem.W.codeIn K cd_Held___init__ "Held.__init__" = true)
    (k_Held___init__ : PySem.W.keepIn K (.ref f_Held___init__) = true)
    {f_LetGo___init__ : Addr} {od_LetGo___init__ an_LetGo___init__ : Option Addr} {sl_LetGo___init__ : Array (Option Value)} {oc_LetGo___init__ kV_LetGo___init__ dc_LetGo___init__ pm_LetGo___init__ cd_LetGo___init__ ct_LetGo___init__ : Value}
    (a_LetGo___init__ : PySem.W.findIn K (.ref C_LetGo) "__init__" = some (some (.ref f_LetGo___init__)))
    (i_LetGo___init__ : PySem.W.isFn K (.ref f_LetGo___init__) = true)
    (l_LetGo___init__ : K.lookup f_LetGo___init__ = some ⟨oc_LetGo___init__, od_LetGo___init__, .func (PySem.W.fnOf "__init__" "LetGo.__init__" (defArgs sLetGo___init__) (defBody sLetGo___init__) (defScope sLetGo___init__) .none kV_LetGo___init__ dc_LetGo___init__ pm_LetGo___init__ an_LetGo___init__ cd_LetGo___init__ ct_LetGo___init__), sl_LetGo___init__⟩)
    (c_LetGo___init__ : PySem.W.codeIn K cd_LetGo___init__ "LetGo.__init__" = true)
    (k_LetGo___init__ : PySem.W.keepIn K (.ref f_LetGo___init__) = true)
    {f_NoSpare___init__ : Addr} {od_NoSpare___init__ an_NoSpare___init__ : Option Addr} {sl_NoSpare___init__ : Array (Option Value)} {oc_NoSpare___init__ kV_NoSpare___init__ dc_NoSpare___init__ pm_NoSpare___init__ cd_NoSpare___init__ ct_NoSpare___init__ : Value}
    (a_NoSpare___init__ : PySem.W.findIn K (.ref C_NoSpare) "__init__" = some (some (.ref f_NoSpare___init__)))
    (i_NoSpare___init__ : PySem.W.isFn K (.ref f_NoSpare___init__) = true)
    (l_NoSpare___init__ : K.lookup f_NoSpare___init__ = some ⟨oc_NoSpare___init__, od_NoSpare___init__, .func (PySem.W.fnOf "__init__" "NoSpare.__init__" (defArgs sNoSpare___init__) (defBody sNoSpare___init__) (defScope sNoSpare___init__) .none kV_NoSpare___init__ dc_NoSpare___init__ pm_NoSpare___init__ an_NoSpare___init__ cd_NoSpare___init__ ct_NoSpare___init__), sl_NoSpare___init__⟩)
    (c_NoSpare___init__ : PySem.W.codeIn K cd_NoSpare___init__ "NoSpare.__init__" = true)
    (k_NoSpare___init__ : PySem.W.keepIn K (.ref f_NoSpare___init__) = true)
    {f_NoRow___init__ : Addr} {od_NoRow___init__ an_NoRow___init__ : Option Addr} {sl_NoRow___init__ : Array (Option Value)} {oc_NoRow___init__ kV_NoRow___init__ dc_NoRow___init__ pm_NoRow___init__ cd_NoRow___init__ ct_NoRow___init__ : Value}
    (a_NoRow___init__ : PySem.W.findIn K (.ref C_NoRow) "__init__" = some (some (.ref f_NoRow___init__)))
    (i_NoRow___init__ : PySem.W.isFn K (.ref f_NoRow___init__) = true)
    (l_NoRow___init__ : K.lookup f_NoRow___init__ = some ⟨oc_NoRow___init__, od_NoRow___init__, .func (PySem.W.fnOf "__init__" "NoRow.__init__" (defArgs sNoRow___init__) (defBody sNoRow___init__) (defScope sNoRow___init__) .none kV_NoRow___init__ dc_NoRow___init__ pm_NoRow___init__ an_NoRow___init__ cd_NoRow___init__ ct_NoRow___init__), sl_NoRow___init__⟩)
    (c_NoRow___init__ : PySem.W.codeIn K cd_NoRow___init__ "NoRow.__init__" = true)
    (k_NoRow___init__ : PySem.W.keepIn K (.ref f_NoRow___init__) = true)
    {f_law_begun : Addr} {od_law_begun an_law_begun : Option Addr} {sl_law_begun : Array (Option Value)} {oc_law_begun kV_law_begun dc_law_begun pm_law_begun cd_law_begun ct_law_begun : Value}
    (a_law_begun : PySem.W.nsIn K mainGlobals "_law_begun" = some (some (.ref f_law_begun)))
    (l_law_begun : K.lookup f_law_begun = some ⟨oc_law_begun, od_law_begun, .func (PySem.W.fnOf "_law_begun" "_law_begun" (defArgs slaw_begun) (defBody slaw_begun) (defScope slaw_begun) .none kV_law_begun dc_law_begun pm_law_begun an_law_begun cd_law_begun ct_law_begun), sl_law_begun⟩)
    (c_law_begun : PySem.W.codeIn K cd_law_begun "_law_begun" = true)
    (k_law_begun : PySem.W.keepIn K (.ref f_law_begun) = true)
    {f_law_mixed : Addr} {od_law_mixed an_law_mixed : Option Addr} {sl_law_mixed : Array (Option Value)} {oc_law_mixed kV_law_mixed dc_law_mixed pm_law_mixed cd_law_mixed ct_law_mixed : Value}
    (a_law_mixed : PySem.W.nsIn K mainGlobals "_law_mixed" = some (some (.ref f_law_mixed)))
    (l_law_mixed : K.lookup f_law_mixed = some ⟨oc_law_mixed, od_law_mixed, .func (PySem.W.fnOf "_law_mixed" "_law_mixed" (defArgs slaw_mixed) (defBody slaw_mixed) (defScope slaw_mixed) .none kV_law_mixed dc_law_mixed pm_law_mixed an_law_mixed cd_law_mixed ct_law_mixed), sl_law_mixed⟩)
    (c_law_mixed : PySem.W.codeIn K cd_law_mixed "_law_mixed" = true)
    (k_law_mixed : PySem.W.keepIn K (.ref f_law_mixed) = true)
    {f_law_take : Addr} {od_law_take an_law_take : Option Addr} {sl_law_take : Array (Option Value)} {oc_law_take kV_law_take dc_law_take pm_law_take cd_law_take ct_law_take : Value}
    (a_law_take : PySem.W.nsIn K mainGlobals "_law_take" = some (some (.ref f_law_take)))
    (l_law_take : K.lookup f_law_take = some ⟨oc_law_take, od_law_take, .func (PySem.W.fnOf "_law_take" "_law_take" (defArgs slaw_take) (defBody slaw_take) (defScope slaw_take) .none kV_law_take dc_law_take pm_law_take an_law_take cd_law_take ct_law_take), sl_law_take⟩)
    (c_law_take : PySem.W.codeIn K cd_law_take "_law_take" = true)
    (k_law_take : PySem.W.keepIn K (.ref f_law_take) = true)
    {f_law_pick : Addr} {od_law_pick an_law_pick : Option Addr} {sl_law_pick : Array (Option Value)} {oc_law_pick kV_law_pick dc_law_pick pm_law_pick cd_law_pick ct_law_pick : Value}
    (a_law_pick : PySem.W.nsIn K mainGlobals "_law_pick" = some (some (.ref f_law_pick)))
    (l_law_pick : K.lookup f_law_pick = some ⟨oc_law_pick, od_law_pick, .func (PySem.W.fnOf "_law_pick" "_law_pick" (defArgs slaw_pick) (defBody slaw_pick) (defScope slaw_pick) .none kV_law_pick dc_law_pick pm_law_pick an_law_pick cd_law_pick ct_law_pick), sl_law_pick⟩)
    (c_law_pick : PySem.W.codeIn K cd_law_pick "_law_pick" = true)
    (k_law_pick : PySem.W.keepIn K (.ref f_law_pick) = true)
    {f_law_word : Addr} {od_law_word an_law_word : Option Addr} {sl_law_word : Array (Option Value)} {oc_law_word kV_law_word dc_law_word pm_law_word cd_law_word ct_law_word : Value}
    (a_law_word : PySem.W.nsIn K mainGlobals "_law_word" = some (some (.ref f_law_word)))
    (l_law_word : K.lookup f_law_word = some ⟨oc_law_word, od_law_word, .func (PySem.W.fnOf "_law_word" "_law_word" (defArgs slaw_word) (defBody slaw_word) (defScope slaw_word) .none kV_law_word dc_law_word pm_law_word an_law_word cd_law_word ct_law_word), sl_law_word⟩)
    (c_law_word : PySem.W.codeIn K cd_law_word "_law_word" = true)
    (k_law_word : PySem.W.keepIn K (.ref f_law_word) = true)
    {f_law_ring : Addr} {od_law_ring an_law_ring : Option Addr} {sl_law_ring : Array (Option Value)} {oc_law_ring kV_law_ring dc_law_ring pm_law_ring cd_law_ring ct_law_ring : Value}
    (a_law_ring : PySem.W.nsIn K mainGlobals "_law_ring" = some (some (.ref f_law_ring)))
    (l_law_ring : K.lookup f_law_ring = some ⟨oc_law_ring, od_law_ring, .func (PySem.W.fnOf "_law_ring" "_law_ring" (defArgs slaw_ring) (defBody slaw_ring) (defScope slaw_ring) .none kV_law_ring dc_law_ring pm_law_ring an_law_ring cd_law_ring ct_law_ring), sl_law_ring⟩)
    (c_law_ring : PySem.W.codeIn K cd_law_ring "_law_ring" = true)
    (k_law_ring : PySem.W.keepIn K (.ref f_law_ring) = true)
    {f_law_made : Addr} {od_law_made an_law_made : Option Addr} {sl_law_made : Array (Option Value)} {oc_law_made kV_law_made dc_law_made pm_law_made cd_law_made ct_law_made : Value}
    (a_law_made : PySem.W.nsIn K mainGlobals "_law_made" = some (some (.ref f_law_made)))
    (l_law_made : K.lookup f_law_made = some ⟨oc_law_made, od_law_made, .func (PySem.W.fnOf "_law_made" "_law_made" (defArgs slaw_made) (defBody slaw_made) (defScope slaw_made) .none kV_law_made dc_law_made pm_law_made an_law_made cd_law_made ct_law_made), sl_law_made⟩)
    (c_law_made : PySem.W.codeIn K cd_law_made "_law_made" = true)
    (k_law_made : PySem.W.keepIn K (.ref f_law_made) = true)
    {f_law_kinds : Addr} {od_law_kinds an_law_kinds : Option Addr} {sl_law_kinds : Array (Option Value)} {oc_law_kinds kV_law_kinds dc_law_kinds pm_law_kinds cd_law_kinds ct_law_kinds : Value}
    (a_law_kinds : PySem.W.nsIn K mainGlobals "_law_kinds" = some (some (.ref f_law_kinds)))
    (l_law_kinds : K.lookup f_law_kinds = some ⟨oc_law_kinds, od_law_kinds, .func (PySem.W.fnOf "_law_kinds" "_law_kinds" (defArgs slaw_kinds) (defBody slaw_kinds) (defScope slaw_kinds) .none kV_law_kinds dc_law_kinds pm_law_kinds an_law_kinds cd_law_kinds ct_law_kinds), sl_law_kinds⟩)
    (c_law_kinds : PySem.W.codeIn K cd_law_kinds "_law_kinds" = true)
    (k_law_kinds : PySem.W.keepIn K (.ref f_law_kinds) = true)
    {f_law_field : Addr} {od_law_field an_law_field : Option Addr} {sl_law_field : Array (Option Value)} {oc_law_field kV_law_field dc_law_field pm_law_field cd_law_field ct_law_field : Value}
    (a_law_field : PySem.W.nsIn K mainGlobals "_law_field" = some (some (.ref f_law_field)))
    (l_law_field : K.lookup f_law_field = some ⟨oc_law_field, od_law_field, .func (PySem.W.fnOf "_law_field" "_law_field" (defArgs slaw_field) (defBody slaw_field) (defScope slaw_field) .none kV_law_field dc_law_field pm_law_field an_law_field cd_law_field ct_law_field), sl_law_field⟩)
    (c_law_field : PySem.W.codeIn K cd_law_field "_law_field" = true)
    (k_law_field : PySem.W.keepIn K (.ref f_law_field) = true)
    {f_law : Addr} {od_law an_law : Option Addr} {sl_law : Array (Option Value)} {oc_law kV_law dc_law pm_law cd_law ct_law : Value}
    (a_law : PySem.W.nsIn K mainGlobals "law" = some (some (.ref f_law)))
    (l_law : K.lookup f_law = some ⟨oc_law, od_law, .func (PySem.W.fnOf "law" "law" (defArgs slaw) (defBody slaw) (defScope slaw) .none kV_law dc_law pm_law an_law cd_law ct_law), sl_law⟩)
    (c_law : PySem.W.codeIn K cd_law "law" = true)
    (k_law : PySem.W.keepIn K (.ref f_law) = true)
    (eg_hn : PySem.W.specialIn K (.builtin "object.__class__") "__get__" = some (some (.builtin "getset_descriptor.__get__")))
    (eg_ht : PySem.W.takesIn K (.builtin "object.__class__") = some true)
    (en_sb : PySem.W.subIn K (.ref C_NewError) (.type "BaseException") = some true)
    (en_hd : PySem.W.hasDictIn K C_NewError = true)
    (en_ty : PySem.W.typeIn K (.ref C_NewError) = some (.type "type"))
    (en_ga : PySem.W.specialIn K (.ref C_NewError) "__getattribute__" = some (some (.builtin "type.__getattribute__")))
    (en_rd : PySem.W.readsIn K C_NewError (.type "type") = true)
    (en_at : PySem.W.findCls K (.ref C_NewError) (.type "type") "__init__" = some (.val (.builtin "ValueError.__init__")))
    (eNoName_hg : PySem.W.findIn K (.ref C_NoName) "__getattribute__" = some (some (.builtin "BaseException.__getattribute__")))
    (eNoName_hk : PySem.W.findIn K (.ref C_NoName) "__getattr__" = some none)
    (eNoName_hs : PySem.W.subIn K (.ref C_NoName) (.type "BaseException") = some true)
    (eNoName_hd : PySem.W.hasDictIn K C_NoName = true)
    (eNoName_ha : PySem.W.findIn K (.ref C_NoName) "__class__" = some (some (.builtin "object.__class__")))
    (eNoName_hm : PySem.W.mroIn K C_NoName (.type "object") = some true)
    (eNoName_cls : PySem.W.isClsIn K C_NoName = true)
    (eNoName_ty : PySem.W.typeIn K (.ref C_NoName) = some (.type "type"))
    (eNoName_ve : PySem.W.subIn K (.ref C_NoName) (.type "ValueError") = some true)
    (eNoName_no : PySem.W.findIn K (.ref C_NoName) "name" = some none)
    (eNoName_sn : PySem.W.subIn K (.ref C_NoName) (.ref C_NewError) = some true)
    (eNoName_k : PySem.W.keepIn K (.ref C_NoName) = true)
    (es_NoName_NoName : PySem.W.subIn K (.ref C_NoName) (.ref C_NoName) = some true)
    (es_NoName_Twice : PySem.W.subIn K (.ref C_NoName) (.ref C_Twice) = some false)
    (es_NoName_Missing : PySem.W.subIn K (.ref C_NoName) (.ref C_Missing) = some false)
    (es_NoName_Held : PySem.W.subIn K (.ref C_NoName) (.ref C_Held) = some false)
    (es_NoName_LetGo : PySem.W.subIn K (.ref C_NoName) (.ref C_LetGo) = some false)
    (es_NoName_NoSpare : PySem.W.subIn K (.ref C_NoName) (.ref C_NoSpare) = some false)
    (es_NoName_NoRow : PySem.W.subIn K (.ref C_NoName) (.ref C_NoRow) = some false)
    (eNoName_x : PySem.W.excIn K C_NoName [.type "ValueError", .type "Exception", .type "BaseException", .type "object"] "ValueError.__new__" = true)
    (eTwice_hg : PySem.W.findIn K (.ref C_Twice) "__getattribute__" = some (some (.builtin "BaseException.__getattribute__")))
    (eTwice_hk : PySem.W.findIn K (.ref C_Twice) "__getattr__" = some none)
    (eTwice_hs : PySem.W.subIn K (.ref C_Twice) (.type "BaseException") = some true)
    (eTwice_hd : PySem.W.hasDictIn K C_Twice = true)
    (eTwice_ha : PySem.W.findIn K (.ref C_Twice) "__class__" = some (some (.builtin "object.__class__")))
    (eTwice_hm : PySem.W.mroIn K C_Twice (.type "object") = some true)
    (eTwice_cls : PySem.W.isClsIn K C_Twice = true)
    (eTwice_ty : PySem.W.typeIn K (.ref C_Twice) = some (.type "type"))
    (eTwice_ve : PySem.W.subIn K (.ref C_Twice) (.type "ValueError") = some true)
    (eTwice_no : PySem.W.findIn K (.ref C_Twice) "name" = some none)
    (eTwice_sn : PySem.W.subIn K (.ref C_Twice) (.ref C_NewError) = some true)
    (eTwice_k : PySem.W.keepIn K (.ref C_Twice) = true)
    (es_Twice_NoName : PySem.W.subIn K (.ref C_Twice) (.ref C_NoName) = some false)
    (es_Twice_Twice : PySem.W.subIn K (.ref C_Twice) (.ref C_Twice) = some true)
    (es_Twice_Missing : PySem.W.subIn K (.ref C_Twice) (.ref C_Missing) = some false)
    (es_Twice_Held : PySem.W.subIn K (.ref C_Twice) (.ref C_Held) = some false)
    (es_Twice_LetGo : PySem.W.subIn K (.ref C_Twice) (.ref C_LetGo) = some false)
    (es_Twice_NoSpare : PySem.W.subIn K (.ref C_Twice) (.ref C_NoSpare) = some false)
    (es_Twice_NoRow : PySem.W.subIn K (.ref C_Twice) (.ref C_NoRow) = some false)
    {q0_Twice q1_Twice : Str} {q2_Twice : Addr} {q3_Twice : List Value} {q4_Twice : List Str} {q5_Twice : List Value} {q6_Twice : Bool} {q7_Twice : Option Bool} {q8_Twice : Option Addr} {r0_Twice r1_Twice r2_Twice r3_Twice r5_Twice : Option Value}
    (eTwice_lk : K.lookup C_Twice = some (excClassObj q0_Twice q1_Twice C_Twice q2_Twice q3_Twice [.ref C_NewError, .type "ValueError", .type "Exception", .type "BaseException", .type "object"] true q4_Twice q5_Twice q6_Twice q7_Twice q8_Twice r0_Twice r1_Twice r2_Twice r3_Twice r5_Twice "ValueError.__new__"))
    (eTwice_sa : PySem.W.findIn K (.ref C_Twice) "__setattr__" = some (some (.builtin "object.__setattr__")))
    (eMissing_hg : PySem.W.findIn K (.ref C_Missing) "__getattribute__" = some (some (.builtin "BaseException.__getattribute__")))
    (eMissing_hk : PySem.W.findIn K (.ref C_Missing) "__getattr__" = some none)
    (eMissing_hs : PySem.W.subIn K (.ref C_Missing) (.type "BaseException") = some true)
    (eMissing_hd : PySem.W.hasDictIn K C_Missing = true)
    (eMissing_ha : PySem.W.findIn K (.ref C_Missing) "__class__" = some (some (.builtin "object.__class__")))
    (eMissing_hm : PySem.W.mroIn K C_Missing (.type "object") = some true)
    (eMissing_cls : PySem.W.isClsIn K C_Missing = true)
    (eMissing_ty : PySem.W.typeIn K (.ref C_Missing) = some (.type "type"))
    (eMissing_ve : PySem.W.subIn K (.ref C_Missing) (.type "ValueError") = some true)
    (eMissing_no : PySem.W.findIn K (.ref C_Missing) "name" = some none)
    (eMissing_sn : PySem.W.subIn K (.ref C_Missing) (.ref C_NewError) = some true)
    (eMissing_k : PySem.W.keepIn K (.ref C_Missing) = true)
    (es_Missing_NoName : PySem.W.subIn K (.ref C_Missing) (.ref C_NoName) = some false)
    (es_Missing_Twice : PySem.W.subIn K (.ref C_Missing) (.ref C_Twice) = some false)
    (es_Missing_Missing : PySem.W.subIn K (.ref C_Missing) (.ref C_Missing) = some true)
    (es_Missing_Held : PySem.W.subIn K (.ref C_Missing) (.ref C_Held) = some false)
    (es_Missing_LetGo : PySem.W.subIn K (.ref C_Missing) (.ref C_LetGo) = some false)
    (es_Missing_NoSpare : PySem.W.subIn K (.ref C_Missing) (.ref C_NoSpare) = some false)
    (es_Missing_NoRow : PySem.W.subIn K (.ref C_Missing) (.ref C_NoRow) = some false)
    {q0_Missing q1_Missing : Str} {q2_Missing : Addr} {q3_Missing : List Value} {q4_Missing : List Str} {q5_Missing : List Value} {q6_Missing : Bool} {q7_Missing : Option Bool} {q8_Missing : Option Addr} {r0_Missing r1_Missing r2_Missing r3_Missing r5_Missing : Option Value}
    (eMissing_lk : K.lookup C_Missing = some (excClassObj q0_Missing q1_Missing C_Missing q2_Missing q3_Missing [.ref C_NewError, .type "ValueError", .type "Exception", .type "BaseException", .type "object"] true q4_Missing q5_Missing q6_Missing q7_Missing q8_Missing r0_Missing r1_Missing r2_Missing r3_Missing r5_Missing "ValueError.__new__"))
    (eMissing_sa : PySem.W.findIn K (.ref C_Missing) "__setattr__" = some (some (.builtin "object.__setattr__")))
    (eHeld_hg : PySem.W.findIn K (.ref C_Held) "__getattribute__" = some (some (.builtin "BaseException.__getattribute__")))
    (eHeld_hk : PySem.W.findIn K (.ref C_Held) "__getattr__" = some none)
    (eHeld_hs : PySem.W.subIn K (.ref C_Held) (.type "BaseException") = some true)
    (eHeld_hd : PySem.W.hasDictIn K C_Held = true)
    (eHeld_ha : PySem.W.findIn K (.ref C_Held) "__class__" = some (some (.builtin "object.__class__")))
    (eHeld_hm : PySem.W.mroIn K C_Held (.type "object") = some true)
    (eHeld_cls : PySem.W.isClsIn K C_Held = true)
    (eHeld_ty : PySem.W.typeIn K (.ref C_Held) = some (.type "type"))
    (eHeld_ve : PySem.W.subIn K (.ref C_Held) (.type "ValueError") = some true)
    (eHeld_no : PySem.W.findIn K (.ref C_Held) "name" = some none)
    (eHeld_sn : PySem.W.subIn K (.ref C_Held) (.ref C_NewError) = some true)
    (eHeld_k : PySem.W.keepIn K (.ref C_Held) = true)
    (es_Held_NoName : PySem.W.subIn K (.ref C_Held) (.ref C_NoName) = some false)
    (es_Held_Twice : PySem.W.subIn K (.ref C_Held) (.ref C_Twice) = some false)
    (es_Held_Missing : PySem.W.subIn K (.ref C_Held) (.ref C_Missing) = some false)
    (es_Held_Held : PySem.W.subIn K (.ref C_Held) (.ref C_Held) = some true)
    (es_Held_LetGo : PySem.W.subIn K (.ref C_Held) (.ref C_LetGo) = some false)
    (es_Held_NoSpare : PySem.W.subIn K (.ref C_Held) (.ref C_NoSpare) = some false)
    (es_Held_NoRow : PySem.W.subIn K (.ref C_Held) (.ref C_NoRow) = some false)
    {q0_Held q1_Held : Str} {q2_Held : Addr} {q3_Held : List Value} {q4_Held : List Str} {q5_Held : List Value} {q6_Held : Bool} {q7_Held : Option Bool} {q8_Held : Option Addr} {r0_Held r1_Held r2_Held r3_Held r5_Held : Option Value}
    (eHeld_lk : K.lookup C_Held = some (excClassObj q0_Held q1_Held C_Held q2_Held q3_Held [.ref C_NewError, .type "ValueError", .type "Exception", .type "BaseException", .type "object"] true q4_Held q5_Held q6_Held q7_Held q8_Held r0_Held r1_Held r2_Held r3_Held r5_Held "ValueError.__new__"))
    (eHeld_sa : PySem.W.findIn K (.ref C_Held) "__setattr__" = some (some (.builtin "object.__setattr__")))
    (eLetGo_hg : PySem.W.findIn K (.ref C_LetGo) "__getattribute__" = some (some (.builtin "BaseException.__getattribute__")))
    (eLetGo_hk : PySem.W.findIn K (.ref C_LetGo) "__getattr__" = some none)
    (eLetGo_hs : PySem.W.subIn K (.ref C_LetGo) (.type "BaseException") = some true)
    (eLetGo_hd : PySem.W.hasDictIn K C_LetGo = true)
    (eLetGo_ha : PySem.W.findIn K (.ref C_LetGo) "__class__" = some (some (.builtin "object.__class__")))
    (eLetGo_hm : PySem.W.mroIn K C_LetGo (.type "object") = some true)
    (eLetGo_cls : PySem.W.isClsIn K C_LetGo = true)
    (eLetGo_ty : PySem.W.typeIn K (.ref C_LetGo) = some (.type "type"))
    (eLetGo_ve : PySem.W.subIn K (.ref C_LetGo) (.type "ValueError") = some true)
    (eLetGo_no : PySem.W.findIn K (.ref C_LetGo) "name" = some none)
    (eLetGo_sn : PySem.W.subIn K (.ref C_LetGo) (.ref C_NewError) = some true)
    (eLetGo_k : PySem.W.keepIn K (.ref C_LetGo) = true)
    (es_LetGo_NoName : PySem.W.subIn K (.ref C_LetGo) (.ref C_NoName) = some false)
    (es_LetGo_Twice : PySem.W.subIn K (.ref C_LetGo) (.ref C_Twice) = some false)
    (es_LetGo_Missing : PySem.W.subIn K (.ref C_LetGo) (.ref C_Missing) = some false)
    (es_LetGo_Held : PySem.W.subIn K (.ref C_LetGo) (.ref C_Held) = some false)
    (es_LetGo_LetGo : PySem.W.subIn K (.ref C_LetGo) (.ref C_LetGo) = some true)
    (es_LetGo_NoSpare : PySem.W.subIn K (.ref C_LetGo) (.ref C_NoSpare) = some false)
    (es_LetGo_NoRow : PySem.W.subIn K (.ref C_LetGo) (.ref C_NoRow) = some false)
    {q0_LetGo q1_LetGo : Str} {q2_LetGo : Addr} {q3_LetGo : List Value} {q4_LetGo : List Str} {q5_LetGo : List Value} {q6_LetGo : Bool} {q7_LetGo : Option Bool} {q8_LetGo : Option Addr} {r0_LetGo r1_LetGo r2_LetGo r3_LetGo r5_LetGo : Option Value}
    (eLetGo_lk : K.lookup C_LetGo = some (excClassObj q0_LetGo q1_LetGo C_LetGo q2_LetGo q3_LetGo [.ref C_NewError, .type "ValueError", .type "Exception", .type "BaseException", .type "object"] true q4_LetGo q5_LetGo q6_LetGo q7_LetGo q8_LetGo r0_LetGo r1_LetGo r2_LetGo r3_LetGo r5_LetGo "ValueError.__new__"))
    (eLetGo_sa : PySem.W.findIn K (.ref C_LetGo) "__setattr__" = some (some (.builtin "object.__setattr__")))
    (eNoSpare_hg : PySem.W.findIn K (.ref C_NoSpare) "__getattribute__" = some (some (.builtin "BaseException.__getattribute__")))
    (eNoSpare_hk : PySem.W.findIn K (.ref C_NoSpare) "__getattr__" = some none)
    (eNoSpare_hs : PySem.W.subIn K (.ref C_NoSpare) (.type "BaseException") = some true)
    (eNoSpare_hd : PySem.W.hasDictIn K C_NoSpare = true)
    (eNoSpare_ha : PySem.W.findIn K (.ref C_NoSpare) "__class__" = some (some (.builtin "object.__class__")))
    (eNoSpare_hm : PySem.W.mroIn K C_NoSpare (.type "object") = some true)
    (eNoSpare_cls : PySem.W.isClsIn K C_NoSpare = true)
    (eNoSpare_ty : PySem.W.typeIn K (.ref C_NoSpare) = some (.type "type"))
    (eNoSpare_ve : PySem.W.subIn K (.ref C_NoSpare) (.type "ValueError") = some true)
    (eNoSpare_no : PySem.W.findIn K (.ref C_NoSpare) "ring" = some none)
    (eNoSpare_sn : PySem.W.subIn K (.ref C_NoSpare) (.ref C_NewError) = some true)
    (eNoSpare_k : PySem.W.keepIn K (.ref C_NoSpare) = true)
    (es_NoSpare_NoName : PySem.W.subIn K (.ref C_NoSpare) (.ref C_NoName) = some false)
    (es_NoSpare_Twice : PySem.W.subIn K (.ref C_NoSpare) (.ref C_Twice) = some false)
    (es_NoSpare_Missing : PySem.W.subIn K (.ref C_NoSpare) (.ref C_Missing) = some false)
    (es_NoSpare_Held : PySem.W.subIn K (.ref C_NoSpare) (.ref C_Held) = some false)
    (es_NoSpare_LetGo : PySem.W.subIn K (.ref C_NoSpare) (.ref C_LetGo) = some false)
    (es_NoSpare_NoSpare : PySem.W.subIn K (.ref C_NoSpare) (.ref C_NoSpare) = some true)
    (es_NoSpare_NoRow : PySem.W.subIn K (.ref C_NoSpare) (.ref C_NoRow) = some false)
    {q0_NoSpare q1_NoSpare : Str} {q2_NoSpare : Addr} {q3_NoSpare : List Value} {q4_NoSpare : List Str} {q5_NoSpare : List Value} {q6_NoSpare : Bool} {q7_NoSpare : Option Bool} {q8_NoSpare : Option Addr} {r0_NoSpare r1_NoSpare r2_NoSpare r3_NoSpare r5_NoSpare : Option Value}
    (eNoSpare_lk : K.lookup C_NoSpare = some (excClassObj q0_NoSpare q1_NoSpare C_NoSpare q2_NoSpare q3_NoSpare [.ref C_NewError, .type "ValueError", .type "Exception", .type "BaseException", .type "object"] true q4_NoSpare q5_NoSpare q6_NoSpare q7_NoSpare q8_NoSpare r0_NoSpare r1_NoSpare r2_NoSpare r3_NoSpare r5_NoSpare "ValueError.__new__"))
    (eNoSpare_sa : PySem.W.findIn K (.ref C_NoSpare) "__setattr__" = some (some (.builtin "object.__setattr__")))
    (eNoRow_hg : PySem.W.findIn K (.ref C_NoRow) "__getattribute__" = some (some (.builtin "BaseException.__getattribute__")))
    (eNoRow_hk : PySem.W.findIn K (.ref C_NoRow) "__getattr__" = some none)
    (eNoRow_hs : PySem.W.subIn K (.ref C_NoRow) (.type "BaseException") = some true)
    (eNoRow_hd : PySem.W.hasDictIn K C_NoRow = true)
    (eNoRow_ha : PySem.W.findIn K (.ref C_NoRow) "__class__" = some (some (.builtin "object.__class__")))
    (eNoRow_hm : PySem.W.mroIn K C_NoRow (.type "object") = some true)
    (eNoRow_cls : PySem.W.isClsIn K C_NoRow = true)
    (eNoRow_ty : PySem.W.typeIn K (.ref C_NoRow) = some (.type "type"))
    (eNoRow_ve : PySem.W.subIn K (.ref C_NoRow) (.type "ValueError") = some true)
    (eNoRow_no : PySem.W.findIn K (.ref C_NoRow) "row" = some none)
    (eNoRow_sn : PySem.W.subIn K (.ref C_NoRow) (.ref C_NewError) = some true)
    (eNoRow_k : PySem.W.keepIn K (.ref C_NoRow) = true)
    (es_NoRow_NoName : PySem.W.subIn K (.ref C_NoRow) (.ref C_NoName) = some false)
    (es_NoRow_Twice : PySem.W.subIn K (.ref C_NoRow) (.ref C_Twice) = some false)
    (es_NoRow_Missing : PySem.W.subIn K (.ref C_NoRow) (.ref C_Missing) = some false)
    (es_NoRow_Held : PySem.W.subIn K (.ref C_NoRow) (.ref C_Held) = some false)
    (es_NoRow_LetGo : PySem.W.subIn K (.ref C_NoRow) (.ref C_LetGo) = some false)
    (es_NoRow_NoSpare : PySem.W.subIn K (.ref C_NoRow) (.ref C_NoSpare) = some false)
    (es_NoRow_NoRow : PySem.W.subIn K (.ref C_NoRow) (.ref C_NoRow) = some true)
    {q0_NoRow q1_NoRow : Str} {q2_NoRow : Addr} {q3_NoRow : List Value} {q4_NoRow : List Str} {q5_NoRow : List Value} {q6_NoRow : Bool} {q7_NoRow : Option Bool} {q8_NoRow : Option Addr} {r0_NoRow r1_NoRow r2_NoRow r3_NoRow r5_NoRow : Option Value}
    (eNoRow_lk : K.lookup C_NoRow = some (excClassObj q0_NoRow q1_NoRow C_NoRow q2_NoRow q3_NoRow [.ref C_NewError, .type "ValueError", .type "Exception", .type "BaseException", .type "object"] true q4_NoRow q5_NoRow q6_NoRow q7_NoRow q8_NoRow r0_NoRow r1_NoRow r2_NoRow r3_NoRow r5_NoRow "ValueError.__new__"))
    (eNoRow_sa : PySem.W.findIn K (.ref C_NoRow) "__setattr__" = some (some (.builtin "object.__setattr__")))
    (z_ValueError : PySem.W.nsIn K mainGlobals "ValueError" = some none)
    (z_enumerate : PySem.W.nsIn K mainGlobals "enumerate" = some none)
    (z_isinstance : PySem.W.nsIn K mainGlobals "isinstance" = some none)
    (z_len : PySem.W.nsIn K mainGlobals "len" = some none)
    (z_list : PySem.W.nsIn K mainGlobals "list" = some none)
    (z_min : PySem.W.nsIn K mainGlobals "min" = some none)
    (z_range : PySem.W.nsIn K mainGlobals "range" = some none)
    (z_repr : PySem.W.nsIn K mainGlobals "repr" = some none)
    (z_str : PySem.W.nsIn K mainGlobals "str" = some none)
    (z_tuple : PySem.W.nsIn K mainGlobals "tuple" = some none) :
    ∃ fd : FuncData, (∀ (s : Shared) (v : Value), BindsTo s fd ⟨[v], []⟩ [("_law_script", v)]) ∧ ∀ base : Heap, K.In base → base.Ns mainGlobals mg → NN.LawG l.prog w K mg base 7 fa fd ["_law_script"] (spLaw K) := by
  have e := hfa.symm.trans (PySem.W.mg_of X G a_law)
  cases e
  have T : Txt K mg C_Held C_LetGo C_Missing C_NewError C_NoName C_NoRow C_NoSpare C_Twice := { g_Held := PySem.W.mg_of X G aC_Held, g_LetGo := PySem.W.mg_of X G aC_LetGo, g_Missing := PySem.W.mg_of X G aC_Missing, g_NewError := PySem.W.mg_of X G aC_NewError, g_NoName := PySem.W.mg_of X G aC_NoName, g_NoRow := PySem.W.mg_of X G aC_NoRow, g_NoSpare := PySem.W.mg_of X G aC_NoSpare, g_Twice := PySem.W.mg_of X G aC_Twice, ne := ⟨PySem.W.mg_of X G aC_NewError, en_sb, en_hd, en_ty, ⟨en_ga, en_rd, en_at⟩⟩, er_NoName := ⟨PySem.W.mg_of X G aC_NoName, ⟨eNoName_hg, eNoName_hk, eNoName_hs, eNoName_hd, eNoName_ha, eg_hn, eg_ht, eNoName_hm⟩, eNoName_cls, eNoName_ty, eNoName_ve, eNoName_no, es_NoName_NoName, eNoName_sn⟩, er_Twice := ⟨PySem.W.mg_of X G aC_Twice, ⟨eTwice_hg, eTwice_hk, eTwice_hs, eTwice_hd, eTwice_ha, eg_hn, eg_ht, eTwice_hm⟩, eTwice_cls, eTwice_ty, eTwice_ve, eTwice_no, es_Twice_Twice, eTwice_sn⟩, er_Missing := ⟨PySem.W.mg_of X G aC_Missing, ⟨eMissing_hg, eMissing_hk, eMissing_hs, eMissing_hd, eMissing_ha, eg_hn, eg_ht, eMissing_hm⟩, eMissing_cls, eMissing_ty, eMissing_ve, eMissing_no, es_Missing_Missing, eMissing_sn⟩, er_Held := ⟨PySem.W.mg_of X G aC_Held, ⟨eHeld_hg, eHeld_hk, eHeld_hs, eHeld_hd, eHeld_ha, eg_hn, eg_ht, eHeld_hm⟩, eHeld_cls, eHeld_ty, eHeld_ve, eHeld_no, es_Held_Held, eHeld_sn⟩, er_LetGo := ⟨PySem.W.mg_of X G aC_LetGo, ⟨eLetGo_hg, eLetGo_hk, eLetGo_hs, eLetGo_hd, eLetGo_ha, eg_hn, eg_ht, eLetGo_hm⟩, eLetGo_cls, eLetGo_ty, eLetGo_ve, eLetGo_no, es_LetGo_LetGo, eLetGo_sn⟩, er_NoSpare := ⟨PySem.W.mg_of X G aC_NoSpare, ⟨eNoSpare_hg, eNoSpare_hk, eNoSpare_hs, eNoSpare_hd, eNoSpare_ha, eg_hn, eg_ht, eNoSpare_hm⟩, eNoSpare_cls, eNoSpare_ty, eNoSpare_ve, eNoSpare_no, es_NoSpare_NoSpare, eNoSpare_sn⟩, er_NoRow := ⟨PySem.W.mg_of X G aC_NoRow, ⟨eNoRow_hg, eNoRow_hk, eNoRow_hs, eNoRow_hd, eNoRow_ha, eg_hn, eg_ht, eNoRow_hm⟩, eNoRow_cls, eNoRow_ty, eNoRow_ve, eNoRow_no, es_NoRow_NoRow, eNoRow_sn⟩, err := NN.mk7 ⟨PySem.W.mg_of X G aC_NewError, en_sb, en_hd, en_ty, ⟨en_ga, en_rd, en_at⟩⟩ ⟨PySem.W.mg_of X G aC_NoName, ⟨eNoName_hg, eNoName_hk, eNoName_hs, eNoName_hd, eNoName_ha, eg_hn, eg_ht, eNoName_hm⟩, eNoName_cls, eNoName_ty, eNoName_ve, eNoName_no, es_NoName_NoName, eNoName_sn⟩ ⟨PySem.W.mg_of X G aC_Twice, ⟨eTwice_hg, eTwice_hk, eTwice_hs, eTwice_hd, eTwice_ha, eg_hn, eg_ht, eTwice_hm⟩, eTwice_cls, eTwice_ty, eTwice_ve, eTwice_no, es_Twice_Twice, eTwice_sn⟩ ⟨PySem.W.mg_of X G aC_Missing, ⟨eMissing_hg, eMissing_hk, eMissing_hs, eMissing_hd, eMissing_ha, eg_hn, eg_ht, eMissing_hm⟩, eMissing_cls, eMissing_ty, eMissing_ve, eMissing_no, es_Missing_Missing, eMissing_sn⟩ ⟨PySem.W.mg_of X G aC_Held, ⟨eHeld_hg, eHeld_hk, eHeld_hs, eHeld_hd, eHeld_ha, eg_hn, eg_ht, eHeld_hm⟩, eHeld_cls, eHeld_ty, eHeld_ve, eHeld_no, es_Held_Held, eHeld_sn⟩ ⟨PySem.W.mg_of X G aC_LetGo, ⟨eLetGo_hg, eLetGo_hk, eLetGo_hs, eLetGo_hd, eLetGo_ha, eg_hn, eg_ht, eLetGo_hm⟩, eLetGo_cls, eLetGo_ty, eLetGo_ve, eLetGo_no, es_LetGo_LetGo, eLetGo_sn⟩ ⟨PySem.W.mg_of X G aC_NoSpare, ⟨eNoSpare_hg, eNoSpare_hk, eNoSpare_hs, eNoSpare_hd, eNoSpare_ha, eg_hn, eg_ht, eNoSpare_hm⟩, eNoSpare_cls, eNoSpare_ty, eNoSpare_ve, eNoSpare_no, es_NoSpare_NoSpare, eNoSpare_sn⟩ ⟨PySem.W.mg_of X G aC_NoRow, ⟨eNoRow_hg, eNoRow_hk, eNoRow_hs, eNoRow_hd, eNoRow_ha, eg_hn, eg_ht, eNoRow_hm⟩, eNoRow_cls, eNoRow_ty, eNoRow_ve, eNoRow_no, es_NoRow_NoRow, eNoRow_sn⟩ ⟨NN.kit_own eNoName_cls eNoName_ty es_NoName_NoName es_NoName_NoName, NN.kit_own eTwice_cls eTwice_ty es_NoName_NoName es_NoName_Twice, NN.kit_own eMissing_cls eMissing_ty es_NoName_NoName es_NoName_Missing, NN.kit_own eHeld_cls eHeld_ty es_NoName_NoName es_NoName_Held, NN.kit_own eLetGo_cls eLetGo_ty es_NoName_NoName es_NoName_LetGo, NN.kit_own eNoSpare_cls eNoSpare_ty es_NoName_NoName es_NoName_NoSpare, NN.kit_own eNoRow_cls eNoRow_ty es_NoName_NoName es_NoName_NoRow, trivial⟩ ⟨NN.kit_own eNoName_cls eNoName_ty es_Twice_Twice es_Twice_NoName, NN.kit_own eTwice_cls eTwice_ty es_Twice_Twice es_Twice_Twice, NN.kit_own eMissing_cls eMissing_ty es_Twice_Twice es_Twice_Missing, NN.kit_own eHeld_cls eHeld_ty es_Twice_Twice es_Twice_Held, NN.kit_own eLetGo_cls eLetGo_ty es_Twice_Twice es_Twice_LetGo, NN.kit_own eNoSpare_cls eNoSpare_ty es_Twice_Twice es_Twice_NoSpare, NN.kit_own eNoRow_cls eNoRow_ty es_Twice_Twice es_Twice_NoRow, trivial⟩ ⟨NN.kit_own eNoName_cls eNoName_ty es_Missing_Missing es_Missing_NoName, NN.kit_own eTwice_cls eTwice_ty es_Missing_Missing es_Missing_Twice, NN.kit_own eMissing_cls eMissing_ty es_Missing_Missing es_Missing_Missing, NN.kit_own eHeld_cls eHeld_ty es_Missing_Missing es_Missing_Held, NN.kit_own eLetGo_cls eLetGo_ty es_Missing_Missing es_Missing_LetGo, NN.kit_own eNoSpare_cls eNoSpare_ty es_Missing_Missing es_Missing_NoSpare, NN.kit_own eNoRow_cls eNoRow_ty es_Missing_Missing es_Missing_NoRow, trivial⟩ ⟨NN.kit_own eNoName_cls eNoName_ty es_Held_Held es_Held_NoName, NN.kit_own eTwice_cls eTwice_ty es_Held_Held es_Held_Twice, NN.kit_own eMissing_cls eMissing_ty es_Held_Held es_Held_Missing, NN.kit_own eHeld_cls eHeld_ty es_Held_Held es_Held_Held, NN.kit_own eLetGo_cls eLetGo_ty es_Held_Held es_Held_LetGo, NN.kit_own eNoSpare_cls eNoSpare_ty es_Held_Held es_Held_NoSpare, NN.kit_own eNoRow_cls eNoRow_ty es_Held_Held es_Held_NoRow, trivial⟩ ⟨NN.kit_own eNoName_cls eNoName_ty es_LetGo_LetGo es_LetGo_NoName, NN.kit_own eTwice_cls eTwice_ty es_LetGo_LetGo es_LetGo_Twice, NN.kit_own eMissing_cls eMissing_ty es_LetGo_LetGo es_LetGo_Missing, NN.kit_own eHeld_cls eHeld_ty es_LetGo_LetGo es_LetGo_Held, NN.kit_own eLetGo_cls eLetGo_ty es_LetGo_LetGo es_LetGo_LetGo, NN.kit_own eNoSpare_cls eNoSpare_ty es_LetGo_LetGo es_LetGo_NoSpare, NN.kit_own eNoRow_cls eNoRow_ty es_LetGo_LetGo es_LetGo_NoRow, trivial⟩ ⟨NN.kit_own eNoName_cls eNoName_ty es_NoSpare_NoSpare es_NoSpare_NoName, NN.kit_own eTwice_cls eTwice_ty es_NoSpare_NoSpare es_NoSpare_Twice, NN.kit_own eMissing_cls eMissing_ty es_NoSpare_NoSpare es_NoSpare_Missing, NN.kit_own eHeld_cls eHeld_ty es_NoSpare_NoSpare es_NoSpare_Held, NN.kit_own eLetGo_cls eLetGo_ty es_NoSpare_NoSpare es_NoSpare_LetGo, NN.kit_own eNoSpare_cls eNoSpare_ty es_NoSpare_NoSpare es_NoSpare_NoSpare, NN.kit_own eNoRow_cls eNoRow_ty es_NoSpare_NoSpare es_NoSpare_NoRow, trivial⟩ ⟨NN.kit_own eNoName_cls eNoName_ty es_NoRow_NoRow es_NoRow_NoName, NN.kit_own eTwice_cls eTwice_ty es_NoRow_NoRow es_NoRow_Twice, NN.kit_own eMissing_cls eMissing_ty es_NoRow_NoRow es_NoRow_Missing, NN.kit_own eHeld_cls eHeld_ty es_NoRow_NoRow es_NoRow_Held, NN.kit_own eLetGo_cls eLetGo_ty es_NoRow_NoRow es_NoRow_LetGo, NN.kit_own eNoSpare_cls eNoSpare_ty es_NoRow_NoRow es_NoRow_NoSpare, NN.kit_own eNoRow_cls eNoRow_ty es_NoRow_NoRow es_NoRow_NoRow, trivial⟩, own_NoName := ⟨eNoName_x, eNoName_k, eNoName_hs, eNoName_ty⟩, o_Twice := ⟨⟨_, _, _, _, _, _, _, _, _, _, _, _, _, _, _, eTwice_lk, rfl⟩, eTwice_sa, eTwice_hs, eTwice_ty, eTwice_k⟩, o_Missing := ⟨⟨_, _, _, _, _, _, _, _, _, _, _, _, _, _, _, eMissing_lk, rfl⟩, eMissing_sa, eMissing_hs, eMissing_ty, eMissing_k⟩, o_Held := ⟨⟨_, _, _, _, _, _, _, _, _, _, _, _, _, _, _, eHeld_lk, rfl⟩, eHeld_sa, eHeld_hs, eHeld_ty, eHeld_k⟩, o_LetGo := ⟨⟨_, _, _, _, _, _, _, _, _, _, _, _, _, _, _, eLetGo_lk, rfl⟩, eLetGo_sa, eLetGo_hs, eLetGo_ty, eLetGo_k⟩, o_NoSpare := ⟨⟨_, _, _, _, _, _, _, _, _, _, _, _, _, _, _, eNoSpare_lk, rfl⟩, eNoSpare_sa, eNoSpare_hs, eNoSpare_ty, eNoSpare_k⟩, o_NoRow := ⟨⟨_, _, _, _, _, _, _, _, _, _, _, _, _, _, _, eNoRow_lk, rfl⟩, eNoRow_sa, eNoRow_hs, eNoRow_ty, eNoRow_k⟩, b_ValueError := PySem.W.mg_none_of X G z_ValueError, b_enumerate := PySem.W.mg_none_of X G z_enumerate, b_isinstance := PySem.W.mg_none_of X G z_isinstance, b_len := PySem.W.mg_none_of X G z_len, b_list := PySem.W.mg_none_of X G z_list, b_min := PySem.W.mg_none_of X G z_min, b_range := PySem.W.mg_none_of X G z_range, b_repr := PySem.W.mg_none_of X G z_repr, b_str := PySem.W.mg_none_of X G z_str, b_tuple := PySem.W.mg_none_of X G z_tuple }
  have F_Twice___init__ := fun_mk (st := sTwice___init__) l_Twice___init__ c_Twice___init__ k_Twice___init__
  have b_Twice___init__ := F_Twice___init__.binds (ps := ["self", "name"]) fun _ _ _ _ _ _ us hl => match us, hl with | [_, _], _ => rfl
  have F_Missing___init__ := fun_mk (st := sMissing___init__) l_Missing___init__ c_Missing___init__ k_Missing___init__
  have b_Missing___init__ := F_Missing___init__.binds (ps := ["self", "name"]) fun _ _ _ _ _ _ us hl => match us, hl with | [_, _], _ => rfl
  have F_Held___init__ := fun_mk (st := sHeld___init__) l_Held___init__ c_Held___init__ k_Held___init__
  have b_Held___init__ := F_Held___init__.binds (ps := ["self", "name"]) fun _ _ _ _ _ _ us hl => match us, hl with | [_, _], _ => rfl
  have F_LetGo___init__ := fun_mk (st := sLetGo___init__) l_LetGo___init__ c_LetGo___init__ k_LetGo___init__
  have b_LetGo___init__ := F_LetGo___init__.binds (ps := ["self", "name"]) fun _ _ _ _ _ _ us hl => match us, hl with | [_, _], _ => rfl
  have F_NoSpare___init__ := fun_mk (st := sNoSpare___init__) l_NoSpare___init__ c_NoSpare___init__ k_NoSpare___init__
  have b_NoSpare___init__ := F_NoSpare___init__.binds (ps := ["self", "ring"]) fun _ _ _ _ _ _ us hl => match us, hl with | [_, _], _ => rfl
  have F_NoRow___init__ := fun_mk (st := sNoRow___init__) l_NoRow___init__ c_NoRow___init__ k_NoRow___init__
  have b_NoRow___init__ := F_NoRow___init__.binds (ps := ["self", "row"]) fun _ _ _ _ _ _ us hl => match us, hl with | [_, _], _ => rfl
  have F_law_begun := fun_mk (st := slaw_begun) l_law_begun c_law_begun k_law_begun
  have b_law_begun := F_law_begun.binds (ps := ["_law_script"]) fun _ _ _ _ _ _ us hl => match us, hl with | [_], _ => rfl
  have F_law_mixed := fun_mk (st := slaw_mixed) l_law_mixed c_law_mixed k_law_mixed
  have b_law_mixed := F_law_mixed.binds (ps := ["_law_state"]) fun _ _ _ _ _ _ us hl => match us, hl with | [_], _ => rfl
  have F_law_take := fun_mk (st := slaw_take) l_law_take c_law_take k_law_take
  have b_law_take := F_law_take.binds (ps := ["_law_state", "_law_size"]) fun _ _ _ _ _ _ us hl => match us, hl with | [_, _], _ => rfl
  have F_law_pick := fun_mk (st := slaw_pick) l_law_pick c_law_pick k_law_pick
  have b_law_pick := F_law_pick.binds (ps := ["_law_state", "_law_some"]) fun _ _ _ _ _ _ us hl => match us, hl with | [_, _], _ => rfl
  have F_law_word := fun_mk (st := slaw_word) l_law_word c_law_word k_law_word
  have b_law_word := F_law_word.binds (ps := ["_law_state"]) fun _ _ _ _ _ _ us hl => match us, hl with | [_], _ => rfl
  have F_law_ring := fun_mk (st := slaw_ring) l_law_ring c_law_ring k_law_ring
  have b_law_ring := F_law_ring.binds (ps := ["_law_state"]) fun _ _ _ _ _ _ us hl => match us, hl with | [_], _ => rfl
  have F_law_made := fun_mk (st := slaw_made) l_law_made c_law_made k_law_made
  have b_law_made := F_law_made.binds (ps := ["_law_state"]) fun _ _ _ _ _ _ us hl => match us, hl with | [_], _ => rfl
  have F_law_kinds := fun_mk (st := slaw_kinds) l_law_kinds c_law_kinds k_law_kinds
  have b_law_kinds := F_law_kinds.binds (ps := ["_law_error"]) fun _ _ _ _ _ _ us hl => match us, hl with | [_], _ => rfl
  have F_law_field := fun_mk (st := slaw_field) l_law_field c_law_field k_law_field
  have b_law_field := F_law_field.binds (ps := ["_law_error", "_law_at"]) fun _ _ _ _ _ _ us hl => match us, hl with | [_, _], _ => rfl
  have F_law := fun_mk (st := slaw) l_law c_law k_law
  have b_law := F_law.binds (ps := ["_law_script"]) fun _ _ _ _ _ _ us hl => match us, hl with | [_], _ => rfl
  refine ⟨PySem.W.fnOf "law" "law" (defArgs slaw) (defBody slaw) (defScope slaw) .none kV_law dc_law pm_law an_law cd_law ct_law, fun s v => .of_eq rfl, fun base _ _ => ?_⟩
  have A_Twice : NN.XmAt l.prog w K mg base 1 "Twice" C_Twice ["self", "name"] (spXm C_Twice "name" okName) := ⟨_, _, T.g_Twice, T.o_Twice, a_Twice___init__, beq_iff_eq.mp i_Twice___init__, b_Twice___init__, ok_x_Twice F_Twice___init__ T⟩
  have A_Missing : NN.XmAt l.prog w K mg base 1 "Missing" C_Missing ["self", "name"] (spXm C_Missing "name" okName) := ⟨_, _, T.g_Missing, T.o_Missing, a_Missing___init__, beq_iff_eq.mp i_Missing___init__, b_Missing___init__, ok_x_Missing F_Missing___init__ T⟩
  have A_Held : NN.XmAt l.prog w K mg base 1 "Held" C_Held ["self", "name"] (spXm C_Held "name" okName) := ⟨_, _, T.g_Held, T.o_Held, a_Held___init__, beq_iff_eq.mp i_Held___init__, b_Held___init__, ok_x_Held F_Held___init__ T⟩
  have A_LetGo : NN.XmAt l.prog w K mg base 1 "LetGo" C_LetGo ["self", "name"] (spXm C_LetGo "name" okName) := ⟨_, _, T.g_LetGo, T.o_LetGo, a_LetGo___init__, beq_iff_eq.mp i_LetGo___init__, b_LetGo___init__, ok_x_LetGo F_LetGo___init__ T⟩
  have A_NoSpare : NN.XmAt l.prog w K mg base 1 "NoSpare" C_NoSpare ["self", "ring"] (spXm C_NoSpare "ring" okRing) := ⟨_, _, T.g_NoSpare, T.o_NoSpare, a_NoSpare___init__, beq_iff_eq.mp i_NoSpare___init__, b_NoSpare___init__, ok_x_NoSpare F_NoSpare___init__ T⟩
  have A_NoRow : NN.XmAt l.prog w K mg base 1 "NoRow" C_NoRow ["self", "row"] (spXm C_NoRow "row" okRow) := ⟨_, _, T.g_NoRow, T.o_NoRow, a_NoRow___init__, beq_iff_eq.mp i_NoRow___init__, b_NoRow___init__, ok_x_NoRow F_NoRow___init__ T⟩
  have A_law_begun : FnAt l.prog w K mg base CX0 1 "_law_begun" ["_law_script"] (spBegunL K) := ⟨_, _, PySem.W.mg_of X G a_law_begun, k_law_begun, b_law_begun, ok_begun17 F_law_begun T⟩
  have A_law_mixed : FnAt l.prog w K mg base CX0 1 "_law_mixed" ["_law_state"] (spMixed) := ⟨_, _, PySem.W.mg_of X G a_law_mixed, k_law_mixed, b_law_mixed, ok_mixed F_law_mixed T⟩
  have A_law_take : FnAt l.prog w K mg base CX0 2 "_law_take" ["_law_state", "_law_size"] (spTake) := ⟨_, _, PySem.W.mg_of X G a_law_take, k_law_take, b_law_take, ok_take F_law_take T A_law_mixed⟩
  have A_law_pick : FnAt l.prog w K mg base CX0 3 "_law_pick" ["_law_state", "_law_some"] (spPick) := ⟨_, _, PySem.W.mg_of X G a_law_pick, k_law_pick, b_law_pick, ok_pick F_law_pick T A_law_take⟩
  have A_law_word : FnAt l.prog w K mg base CX0 4 "_law_word" ["_law_state"] (spWord) := ⟨_, _, PySem.W.mg_of X G a_law_word, k_law_word, b_law_word, ok_word F_law_word T A_law_take A_law_pick⟩
  have A_law_ring : FnAt l.prog w K mg base CX0 5 "_law_ring" ["_law_state"] (spRing) := ⟨_, _, PySem.W.mg_of X G a_law_ring, k_law_ring, b_law_ring, ok_ring F_law_ring T A_law_take A_law_word⟩
  have A_law_made : FnAt l.prog w K mg base CX0 6 "_law_made" ["_law_state"] (spMade [C_NoName, C_Twice, C_Missing, C_Held, C_LetGo, C_NoSpare, C_NoRow]) := ⟨_, _, PySem.W.mg_of X G a_law_made, k_law_made, b_law_made, ok_made F_law_made T A_law_take A_law_pick A_law_word A_law_ring A_Twice A_Missing A_Held A_LetGo A_NoSpare A_NoRow⟩
  have A_law_kinds : FnAt l.prog w K mg base CX0 1 "_law_kinds" ["_law_error"] (spKinds [C_NoName, C_Twice, C_Missing, C_Held, C_LetGo, C_NoSpare, C_NoRow]) := ⟨_, _, PySem.W.mg_of X G a_law_kinds, k_law_kinds, b_law_kinds, ok_kinds F_law_kinds T⟩
  have A_law_field : FnAt l.prog w K mg base CX0 1 "_law_field" ["_law_error", "_law_at"] (spField [C_NoName, C_Twice, C_Missing, C_Held, C_LetGo, C_NoSpare, C_NoRow]) := ⟨_, _, PySem.W.mg_of X G a_law_field, k_law_field, b_law_field, ok_field F_law_field T⟩
  exact ok_law F_law T A_law_begun A_law_made A_law_kinds A_law_field

theorem walk {l : PySem.W.OpenLaw} {q : Program} {loose : List Str} {XP : (Str → Option Value) → Heap → Prop} {YP : World → Heap → Prop} {d : DefRec} {K : Params → PySem.W.Frag} (hn : l.most = some 63) (hdf : d.params.defaults = [])
    (hY : ∀ (w : World) (h : Heap), YP w h → (K w.params).In h)
    (F : ∀ (w : World) (mg : Str → Option Value) (fa : Addr) (h : Heap), (K w.params).In h → h.Ns mainGlobals mg → mg d.name = some (.ref fa) →
      ∃ fd : FuncData, (∀ (s : Shared) (u : Value), BindsTo s fd ⟨[u], []⟩ [("_law_script", u)]) ∧ ∀ base : Heap, (K w.params).In base → base.Ns mainGlobals mg → NN.LawG l.prog w (K w.params) mg base 7 fa fd ["_law_script"] (spLaw (K w.params))) :
    PySem.W.WalkO q loose XP YP l.row.toRowW d [] (fun f vs => PySem.call f vs) :=
  NN.walk_ofG (n := 63) (k := 7) (x := "_law_script") (sp := fun w => spLaw (K w.params)) hn (by decide) hdf hY F (fun _ _ a ns hl hS => ⟨a, ns, rfl, hS, hl, fun _ => rfl⟩)
end Nw
open PySem PySem.W PyProof.Rows
set_option maxRecDepth 100000 in
set_option maxHeartbeats 0 in
theorem PySem.Challenge.cw_newnames_k17_refusals_made_holds : PySem.Challenge.rw_newnames_k17_refusals_made.Holds := by
  w_on; o_law; k_head; (case hw => w_witness2)
  k_fill
  refine Nw.walk (l := PySem.Challenge.rw_newnames_k17_refusals_made) rfl rfl (fun w h Y => PySem.W.kIn_of Y) ?F
  case F =>
    intro w mg fa h KX G hmg
    refine' Nw.all_mk KX G hmg ?aC_Held ?aC_LetGo ?aC_Missing ?aC_NewError ?aC_NoName ?aC_NoRow ?aC_NoSpare ?aC_Twice ?a_Twice___init__ ?i_Twice___init__ ?l_Twice___init__ ?c_Twice___init__ ?k_Twice___init__ ?a_Missing___init__ ?i_Missing___init__ ?l_Missing___init__ ?c_Missing___init__ ?k_Missing___init__ ?a_Held___init__ ?i_Held___init__ ?l_Held___init__ ?c_Held___init__ ?k_Held___init__ ?a_LetGo___init__ ?i_LetGo___init__ ?l_LetGo___init__ ?c_LetGo___init__ ?k_LetGo___init__ ?a_NoSpare___init__ ?i_NoSpare___init__ ?l_NoSpare___init__ ?c_NoSpare___init__ ?k_NoSpare___init__ ?a_NoRow___init__ ?i_NoRow___init__ ?l_NoRow___init__ ?c_NoRow___init__ ?k_NoRow___init__ ?a_law_begun ?l_law_begun ?c_law_begun ?k_law_begun ?a_law_mixed ?l_law_mixed ?c_law_mixed ?k_law_mixed ?a_law_take ?l_law_take ?c_law_take ?k_law_take ?a_law_pick ?l_law_pick ?c_law_pick ?k_law_pick ?a_law_word ?l_law_word ?c_law_word ?k_law_word ?a_law_ring ?l_law_ring ?c_law_ring ?k_law_ring ?a_law_made ?l_law_made ?c_law_made ?k_law_made ?a_law_kinds ?l_law_kinds ?c_law_kinds ?k_law_kinds ?a_law_field ?l_law_field ?c_law_field ?k_law_field ?a_law ?l_law ?c_law ?k_law ?eg_hn ?eg_ht ?en_sb ?en_hd ?en_ty ?en_ga ?en_rd ?en_at ?eNoName_hg ?eNoName_hk ?eNoName_hs ?eNoName_hd ?eNoName_ha ?eNoName_hm ?eNoName_cls ?eNoName_ty ?eNoName_ve ?eNoName_no ?eNoName_sn ?eNoName_k ?es_NoName_NoName ?es_NoName_Twice ?es_NoName_Missing ?es_NoName_Held ?es_NoName_LetGo ?es_NoName_NoSpare ?es_NoName_NoRow ?eNoName_x ?eTwice_hg ?eTwice_hk ?eTwice_hs ?eTwice_hd ?eTwice_ha ?eTwice_hm ?eTwice_cls ?eTwice_ty ?eTwice_ve ?eTwice_no ?eTwice_sn ?eTwice_k ?es_Twice_NoName ?es_Twice_Twice ?es_Twice_Missing ?es_Twice_Held ?es_Twice_LetGo ?es_Twice_NoSpare ?es_Twice_NoRow ?eTwice_lk ?eTwice_sa ?eMissing_hg ?eMissing_hk ?eMissing_hs ?eMissing_hd ?eMissing_ha ?eMissing_hm ?eMissing_cls ?eMissing_ty ?eMissing_ve ?eMissing_no ?eMissing_sn ?eMissing_k ?es_Missing_NoName ?es_Missing_Twice ?es_Missing_Missing ?es_Missing_Held ?es_Missing_LetGo ?es_Missing_NoSpare ?es_Missing_NoRow ?eMissing_lk ?eMissing_sa ?eHeld_hg ?eHeld_hk ?eHeld_hs ?eHeld_hd ?eHeld_ha ?eHeld_hm ?eHeld_cls ?eHeld_ty ?eHeld_ve ?eHeld_no ?eHeld_sn ?eHeld_k ?es_Held_NoName ?es_Held_Twice ?es_Held_Missing ?es_Held_Held ?es_Held_LetGo ?es_Held_NoSpare ?es_Held_NoRow ?eHeld_lk ?eHeld_sa ?eLetGo_hg ?eLetGo_hk ?eLetGo_hs ?eLetGo_hd ?eLetGo_ha ?eLetGo_hm ?eLetGo_cls ?eLetGo_ty ?eLetGo_ve ?eLetGo_no ?eLetGo_sn ?eLetGo_k ?es_LetGo_NoName ?es_LetGo_Twice ?es_LetGo_Missing ?es_LetGo_Held ?es_LetGo_LetGo ?es_LetGo_NoSpare ?es_LetGo_NoRow ?eLetGo_lk ?eLetGo_sa ?eNoSpare_hg ?eNoSpare_hk ?eNoSpare_hs ?eNoSpare_hd ?eNoSpare_ha ?eNoSpare_hm ?eNoSpare_cls ?eNoSpare_ty ?eNoSpare_ve ?eNoSpare_no ?eNoSpare_sn ?eNoSpare_k ?es_NoSpare_NoName ?es_NoSpare_Twice ?es_NoSpare_Missing ?es_NoSpare_Held ?es_NoSpare_LetGo ?es_NoSpare_NoSpare ?es_NoSpare_NoRow ?eNoSpare_lk ?eNoSpare_sa ?eNoRow_hg ?eNoRow_hk ?eNoRow_hs ?eNoRow_hd ?eNoRow_ha ?eNoRow_hm ?eNoRow_cls ?eNoRow_ty ?eNoRow_ve ?eNoRow_no ?eNoRow_sn ?eNoRow_k ?es_NoRow_NoName ?es_NoRow_Twice ?es_NoRow_Missing ?es_NoRow_Held ?es_NoRow_LetGo ?es_NoRow_NoSpare ?es_NoRow_NoRow ?eNoRow_lk ?eNoRow_sa ?z_ValueError ?z_enumerate ?z_isinstance ?z_len ?z_list ?z_min ?z_range ?z_repr ?z_str ?z_tuple
    (case aC_Held => k_is)
    (case aC_LetGo => k_is)
    (case aC_Missing => k_is)
    (case aC_NewError => k_is)
    (case aC_NoName => k_is)
    (case aC_NoRow => k_is)
    (case aC_NoSpare => k_is)
    (case aC_Twice => k_is)
    (case a_Twice___init__ => k_is)
    (case i_Twice___init__ => k_is)
    (case l_Twice___init__ => k_is)
    (case c_Twice___init__ => k_is)
    (case k_Twice___init__ => k_is)
    (case a_Missing___init__ => k_is)
    (case i_Missing___init__ => k_is)
    (case l_Missing___init__ => k_is)
    (case c_Missing___init__ => k_is)
    (case k_Missing___init__ => k_is)
    (case a_Held___init__ => k_is)
    (case i_Held___init__ => k_is)
    (case l_Held___init__ => k_is)
    (case c_Held___init__ => k_is)
    (case k_Held___init__ => k_is)
    (case a_LetGo___init__ => k_is)
    (case i_LetGo___init__ => k_is)
    (case l_LetGo___init__ => k_is)
    (case c_LetGo___init__ => k_is)
    (case k_LetGo___init__ => k_is)
    (case a_NoSpare___init__ => k_is)
    (case i_NoSpare___init__ => k_is)
    (case l_NoSpare___init__ => k_is)
    (case c_NoSpare___init__ => k_is)
    (case k_NoSpare___init__ => k_is)
    (case a_NoRow___init__ => k_is)
    (case i_NoRow___init__ => k_is)
    (case l_NoRow___init__ => k_is)
    (case c_NoRow___init__ => k_is)
    (case k_NoRow___init__ => k_is)
    (case a_law_begun => k_is)
    (case l_law_begun => k_is)
    (case c_law_begun => k_is)
    (case k_law_begun => k_is)
    (case a_law_mixed => k_is)
    (case l_law_mixed => k_is)
    (case c_law_mixed => k_is)
    (case k_law_mixed => k_is)
    (case a_law_take => k_is)
    (case l_law_take => k_is)
    (case c_law_take => k_is)
    (case k_law_take => k_is)
    (case a_law_pick => k_is)
    (case l_law_pick => k_is)
    (case c_law_pick => k_is)
    (case k_law_pick => k_is)
    (case a_law_word => k_is)
    (case l_law_word => k_is)
    (case c_law_word => k_is)
    (case k_law_word => k_is)
    (case a_law_ring => k_is)
    (case l_law_ring => k_is)
    (case c_law_ring => k_is)
    (case k_law_ring => k_is)
    (case a_law_made => k_is)
    (case l_law_made => k_is)
    (case c_law_made => k_is)
    (case k_law_made => k_is)
    (case a_law_kinds => k_is)
    (case l_law_kinds => k_is)
    (case c_law_kinds => k_is)
    (case k_law_kinds => k_is)
    (case a_law_field => k_is)
    (case l_law_field => k_is)
    (case c_law_field => k_is)
    (case k_law_field => k_is)
    (case a_law => k_is)
    (case l_law => k_is)
    (case c_law => k_is)
    (case k_law => k_is)
    (case eg_hn => k_is)
    (case eg_ht => k_is)
    (case en_sb => k_is)
    (case en_hd => k_is)
    (case en_ty => k_is)
    (case en_ga => k_is)
    (case en_rd => k_is)
    (case en_at => k_is)
    (case eNoName_hg => k_is)
    (case eNoName_hk => k_is)
    (case eNoName_hs => k_is)
    (case eNoName_hd => k_is)
    (case eNoName_ha => k_is)
    (case eNoName_hm => k_is)
    (case eNoName_cls => k_is)
    (case eNoName_ty => k_is)
    (case eNoName_ve => k_is)
    (case eNoName_no => k_is)
    (case eNoName_sn => k_is)
    (case eNoName_k => k_is)
    (case es_NoName_NoName => k_is)
    (case es_NoName_Twice => k_is)
    (case es_NoName_Missing => k_is)
    (case es_NoName_Held => k_is)
    (case es_NoName_LetGo => k_is)
    (case es_NoName_NoSpare => k_is)
    (case es_NoName_NoRow => k_is)
    (case eNoName_x => k_exc)
    (case eTwice_hg => k_is)
    (case eTwice_hk => k_is)
    (case eTwice_hs => k_is)
    (case eTwice_hd => k_is)
    (case eTwice_ha => k_is)
    (case eTwice_hm => k_is)
    (case eTwice_cls => k_is)
    (case eTwice_ty => k_is)
    (case eTwice_ve => k_is)
    (case eTwice_no => k_is)
    (case eTwice_sn => k_is)
    (case eTwice_k => k_is)
    (case es_Twice_NoName => k_is)
    (case es_Twice_Twice => k_is)
    (case es_Twice_Missing => k_is)
    (case es_Twice_Held => k_is)
    (case es_Twice_LetGo => k_is)
    (case es_Twice_NoSpare => k_is)
    (case es_Twice_NoRow => k_is)
    (case eTwice_lk => k_is)
    (case eTwice_sa => k_is)
    (case eMissing_hg => k_is)
    (case eMissing_hk => k_is)
    (case eMissing_hs => k_is)
    (case eMissing_hd => k_is)
    (case eMissing_ha => k_is)
    (case eMissing_hm => k_is)
    (case eMissing_cls => k_is)
    (case eMissing_ty => k_is)
    (case eMissing_ve => k_is)
    (case eMissing_no => k_is)
    (case eMissing_sn => k_is)
    (case eMissing_k => k_is)
    (case es_Missing_NoName => k_is)
    (case es_Missing_Twice => k_is)
    (case es_Missing_Missing => k_is)
    (case es_Missing_Held => k_is)
    (case es_Missing_LetGo => k_is)
    (case es_Missing_NoSpare => k_is)
    (case es_Missing_NoRow => k_is)
    (case eMissing_lk => k_is)
    (case eMissing_sa => k_is)
    (case eHeld_hg => k_is)
    (case eHeld_hk => k_is)
    (case eHeld_hs => k_is)
    (case eHeld_hd => k_is)
    (case eHeld_ha => k_is)
    (case eHeld_hm => k_is)
    (case eHeld_cls => k_is)
    (case eHeld_ty => k_is)
    (case eHeld_ve => k_is)
    (case eHeld_no => k_is)
    (case eHeld_sn => k_is)
    (case eHeld_k => k_is)
    (case es_Held_NoName => k_is)
    (case es_Held_Twice => k_is)
    (case es_Held_Missing => k_is)
    (case es_Held_Held => k_is)
    (case es_Held_LetGo => k_is)
    (case es_Held_NoSpare => k_is)
    (case es_Held_NoRow => k_is)
    (case eHeld_lk => k_is)
    (case eHeld_sa => k_is)
    (case eLetGo_hg => k_is)
    (case eLetGo_hk => k_is)
    (case eLetGo_hs => k_is)
    (case eLetGo_hd => k_is)
    (case eLetGo_ha => k_is)
    (case eLetGo_hm => k_is)
    (case eLetGo_cls => k_is)
    (case eLetGo_ty => k_is)
    (case eLetGo_ve => k_is)
    (case eLetGo_no => k_is)
    (case eLetGo_sn => k_is)
    (case eLetGo_k => k_is)
    (case es_LetGo_NoName => k_is)
    (case es_LetGo_Twice => k_is)
    (case es_LetGo_Missing => k_is)
    (case es_LetGo_Held => k_is)
    (case es_LetGo_LetGo => k_is)
    (case es_LetGo_NoSpare => k_is)
    (case es_LetGo_NoRow => k_is)
    (case eLetGo_lk => k_is)
    (case eLetGo_sa => k_is)
    (case eNoSpare_hg => k_is)
    (case eNoSpare_hk => k_is)
    (case eNoSpare_hs => k_is)
    (case eNoSpare_hd => k_is)
    (case eNoSpare_ha => k_is)
    (case eNoSpare_hm => k_is)
    (case eNoSpare_cls => k_is)
    (case eNoSpare_ty => k_is)
    (case eNoSpare_ve => k_is)
    (case eNoSpare_no => k_is)
    (case eNoSpare_sn => k_is)
    (case eNoSpare_k => k_is)
    (case es_NoSpare_NoName => k_is)
    (case es_NoSpare_Twice => k_is)
    (case es_NoSpare_Missing => k_is)
    (case es_NoSpare_Held => k_is)
    (case es_NoSpare_LetGo => k_is)
    (case es_NoSpare_NoSpare => k_is)
    (case es_NoSpare_NoRow => k_is)
    (case eNoSpare_lk => k_is)
    (case eNoSpare_sa => k_is)
    (case eNoRow_hg => k_is)
    (case eNoRow_hk => k_is)
    (case eNoRow_hs => k_is)
    (case eNoRow_hd => k_is)
    (case eNoRow_ha => k_is)
    (case eNoRow_hm => k_is)
    (case eNoRow_cls => k_is)
    (case eNoRow_ty => k_is)
    (case eNoRow_ve => k_is)
    (case eNoRow_no => k_is)
    (case eNoRow_sn => k_is)
    (case eNoRow_k => k_is)
    (case es_NoRow_NoName => k_is)
    (case es_NoRow_Twice => k_is)
    (case es_NoRow_Missing => k_is)
    (case es_NoRow_Held => k_is)
    (case es_NoRow_LetGo => k_is)
    (case es_NoRow_NoSpare => k_is)
    (case es_NoRow_NoRow => k_is)
    (case eNoRow_lk => k_is)
    (case eNoRow_sa => k_is)
    (case z_ValueError => k_is)
    (case z_enumerate => k_is)
    (case z_isinstance => k_is)
    (case z_len => k_is)
    (case z_list => k_is)
    (case z_min => k_is)
    (case z_range => k_is)
    (case z_repr => k_is)
    (case z_str => k_is)
    (case z_tuple => k_is)
