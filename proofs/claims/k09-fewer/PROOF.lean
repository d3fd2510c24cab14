import PyProof.Rows.All
import Wide.All
import OpenK.AllK
import Wide.FinOn
import HandS.Base
import HandS.Call
import HandS.List
import HandS.Comp
import HandS.Ends
import HandS.Dict
import HandS.Iter
import HandS.Text
import HandS.Words
import HandS.ForMost
import HandS.More
import HandS.IsInst
import HandS.Style
import HandS.Flow
import HandS.NoneIn
import HandS.Zip
import HandS.Walk
import KE.DatumOrd
import KE.KExcIs
import HandS.Exc
import HandS.ExcInit
import HandS.ExcIs
import HandS.ExcOwn
import HandS.ExcField
import HandS.WordsExc
import HandS.SetFor
import PyProof.StrLawsChain
import PyProof.StrLawsIn
import HandS.Defaults
import HandS.DictComp
import HandS.DictEq
import HandS.TupAny
import HandS.DeepEq
import HandS.ListEq
import PyProof.NeKinds
import PyProof.Rows.TupTab
import PyProof.Rows.TupDisplay
import KE.KDictDisplayH
import PySem.Challenge.RW_newnames_k09_whole_no_fewer
set_option Elab.async false
set_option linter.all false
set_option maxRecDepth 100000
set_option maxHeartbeats 4000000
namespace NN
open PySem L2
/-! ### what stays -/
/-- all that is tracked stays, but what stands at S -/
def Kp (S : List Addr) (H H' : Hp) : Prop := ∀ a o, H a = some o → a ∉ S → H' a = some o
theorem Kp.refl (S : List Addr) (H : Hp) : Kp S H H := fun _ _ h _ => h
theorem Kp.trans {S : List Addr} {H H1 H2 : Hp} (a : Kp S H H1) (b : Kp S H1 H2) : Kp S H H2 := fun c o h n => b c o (a c o h n) n
theorem Kp.sub {S S' : List Addr} {H H' : Hp} (k : Kp S H H') (s : ∀ a ∈ S, a ∈ S') : Kp S' H H' := fun a o h n => k a o h fun z => n (s a z)
theorem Kp.new {S : List Addr} {H : Hp} {p : Addr} {o : HO} (h : H p = none) : Kp S H (upd H p o) := fun a u e _ => by
  rw [upd_ne (ne_of_none e h)]
  exact e
theorem Kp.mut {S : List Addr} {H : Hp} {p : Addr} {o : HO} (h : p ∈ S) : Kp S H (upd H p o) := fun a u e n => by
  by_cases z : a = p
  · subst z; exact absurd h n
  · rw [upd_ne z]; exact e
theorem Kp.at {S : List Addr} {H H' : Hp} {a : Addr} {o : HO} (k : Kp S H H') (h : H a = some o) (n : a ∉ S) : H' a = some o := k a o h n
theorem Kp.free {S : List Addr} {H H' : Hp} {a : Addr} (k : Kp S H H') (h : H' a = none) (n : a ∉ S) : H a = none := by
  cases e : H a with
  | none => rfl
  | some o => rw [k a o e n] at h; cases h
theorem Kp.nil_free {H H' : Hp} {a : Addr} (k : Kp [] H H') (h : H' a = none) : H a = none := k.free h (by simp)
theorem Kp.same {H H' : Hp} (k : Kp [] H H') : Same H H' := fun b o h => k b o h (by simp)
/-! ### data -/
inductive D where
  | v (x : V)
  | l (xs : List D)
  | t (xs : List D)
  | d (ks : List Str) (xs : List D)
  | o (C : Addr) (fs : List Str) (xs : List D)
def zipK (ks : List Str) (vs : List V) : List (Key × V) := (ks.zip vs).map fun p => (Sum.inr p.1, p.2)
mutual
/-- the data d stand at x, all of it apart from S -/
inductive At (S : List Addr) (H : Hp) : V → D → Prop
  | v (x : V) : At S H x (.v x)
  | l {a : Addr} {vs : List V} {ds : List D} : a ∉ S → H a = some (.lst vs) → AtL S H vs ds → At S H (.ref a) (.l ds)
  | t {a : Addr} {vs : List V} {ds : List D} : a ∉ S → H a = some (.tup vs) → AtL S H vs ds → At S H (.ref a) (.t ds)
  | d {a : Addr} {ks : List Str} {vs : List V} {ds : List D} : a ∉ S → H a = some (.dK (zipK ks vs)) → ks.length = ds.length → AtL S H vs ds → At S H (.ref a) (.d ks ds)
  | o {a C dx : Addr} {fs : List Str} {vs : List V} {ds : List D} : a ∉ S → H a = some (.ins C dx (fs.zip vs)) → fs.length = ds.length → AtL S H vs ds → At S H (.ref a) (.o C fs ds)
inductive AtL (S : List Addr) (H : Hp) : List V → List D → Prop
  | nil : AtL S H [] []
  | cons {x : V} {d : D} {xs : List V} {ds : List D} : At S H x d → AtL S H xs ds → AtL S H (x :: xs) (d :: ds)
end
theorem AtL.length {S : List Addr} {H : Hp} : ∀ {vs : List V} {ds : List D}, AtL S H vs ds → vs.length = ds.length
  | _, _, .nil => rfl
  | _, _, .cons _ r => congrArg (· + 1) (AtL.length r)
mutual
theorem At.kp {S S' : List Addr} {H H' : Hp} (k : Kp S' H H') (s : ∀ a ∈ S', a ∈ S) : ∀ {d : D} {x : V}, At S H x d → At S H' x d
  | .v _, _, h => by cases h; exact .v _
  | .l ds, _, h => by
    cases h with
    | l n e r => exact .l n (k _ _ e fun z => n (s _ z)) (AtL.kp k s r)
  | .t ds, _, h => by
    cases h with
    | t n e r => exact .t n (k _ _ e fun z => n (s _ z)) (AtL.kp k s r)
  | .d ks ds, _, h => by
    cases h with
    | d n e hl r => exact .d n (k _ _ e fun z => n (s _ z)) hl (AtL.kp k s r)
  | .o C fs ds, _, h => by
    cases h with
    | o n e hl r => exact .o n (k _ _ e fun z => n (s _ z)) hl (AtL.kp k s r)
theorem AtL.kp {S S' : List Addr} {H H' : Hp} (k : Kp S' H H') (s : ∀ a ∈ S', a ∈ S) : ∀ {ds : List D} {vs : List V}, AtL S H vs ds → AtL S H' vs ds
  | [], _, h => by cases h; exact .nil
  | d :: ds, _, h => by
    cases h with
    | cons h1 h2 => exact .cons (At.kp k s h1) (AtL.kp k s h2)
end
mutual
theorem At.sub {S S' : List Addr} {H : Hp} (s : ∀ a ∈ S', a ∈ S) : ∀ {d : D} {x : V}, At S H x d → At S' H x d
  | .v _, _, h => by cases h; exact .v _
  | .l ds, _, h => by
    cases h with
    | l n e r => exact .l (fun z => n (s _ z)) e (AtL.sub s r)
  | .t ds, _, h => by
    cases h with
    | t n e r => exact .t (fun z => n (s _ z)) e (AtL.sub s r)
  | .d ks ds, _, h => by
    cases h with
    | d n e hl r => exact .d (fun z => n (s _ z)) e hl (AtL.sub s r)
  | .o C fs ds, _, h => by
    cases h with
    | o n e hl r => exact .o (fun z => n (s _ z)) e hl (AtL.sub s r)
theorem AtL.sub {S S' : List Addr} {H : Hp} (s : ∀ a ∈ S', a ∈ S) : ∀ {ds : List D} {vs : List V}, AtL S H vs ds → AtL S' H vs ds
  | [], _, h => by cases h; exact .nil
  | d :: ds, _, h => by
    cases h with
    | cons h1 h2 => exact .cons (At.sub s h1) (AtL.sub s h2)
end
mutual
/-- a place that is not tracked is no place of the data -/
theorem At.ext {S : List Addr} {H : Hp} {f : Addr} (hf : H f = none) : ∀ {d : D} {x : V}, At S H x d → At (f :: S) H x d
  | .v _, _, h => by cases h; exact .v _
  | .l ds, _, h => by
    cases h with
    | l n e r => exact .l (fun z => (List.mem_cons.mp z).elim (fun q => ne_of_none e hf q) n) e (AtL.ext hf r)
  | .t ds, _, h => by
    cases h with
    | t n e r => exact .t (fun z => (List.mem_cons.mp z).elim (fun q => ne_of_none e hf q) n) e (AtL.ext hf r)
  | .d ks ds, _, h => by
    cases h with
    | d n e hl r => exact .d (fun z => (List.mem_cons.mp z).elim (fun q => ne_of_none e hf q) n) e hl (AtL.ext hf r)
  | .o C fs ds, _, h => by
    cases h with
    | o n e hl r => exact .o (fun z => (List.mem_cons.mp z).elim (fun q => ne_of_none e hf q) n) e hl (AtL.ext hf r)
theorem AtL.ext {S : List Addr} {H : Hp} {f : Addr} (hf : H f = none) : ∀ {ds : List D} {vs : List V}, AtL S H vs ds → AtL (f :: S) H vs ds
  | [], _, h => by cases h; exact .nil
  | d :: ds, _, h => by
    cases h with
    | cons h1 h2 => exact .cons (At.ext hf h1) (AtL.ext hf h2)
end
section
variable {S : List Addr} {H : Hp} {K : PySem.W.Frag}
theorem AtL.append : ∀ {vs ws : List V} {ds es : List D}, AtL S H vs ds → AtL S H ws es → AtL S H (vs ++ ws) (ds ++ es)
  | _, _, _, _, .nil, r => r
  | _, _, _, _, .cons h t, r => .cons h (AtL.append t r)
theorem AtL.get : ∀ {vs : List V} {ds : List D} {i : Nat} {d : D}, AtL S H vs ds → ds[i]? = some d → ∃ x, vs[i]? = some x ∧ At S H x d
  | _, _, _, _, .nil, e => by simp at e
  | _, _, 0, _, .cons h _, e => by simp at e; subst e; exact ⟨_, rfl, h⟩
  | _, _, i + 1, d, .cons _ t, e => by
    obtain ⟨x, h1, h2⟩ := AtL.get (i := i) (d := d) t (by simpa using e)
    exact ⟨x, by simpa using h1, h2⟩
theorem AtL.get' : ∀ {vs : List V} {ds : List D} {i : Nat} {x : V}, AtL S H vs ds → vs[i]? = some x → ∃ d, ds[i]? = some d ∧ At S H x d
  | _, _, _, _, .nil, e => by simp at e
  | _, _, 0, _, .cons h _, e => by simp at e; subst e; exact ⟨_, rfl, h⟩
  | _, _, i + 1, x, .cons _ t, e => by
    obtain ⟨d, h1, h2⟩ := AtL.get' (i := i) (x := x) t (by simpa using e)
    exact ⟨d, by simpa using h1, h2⟩
theorem AtL.take : ∀ {vs : List V} {ds : List D} (n : Nat), AtL S H vs ds → AtL S H (vs.take n) (ds.take n)
  | _, _, 0, _ => .nil
  | _, _, _ + 1, .nil => .nil
  | _, _, n + 1, .cons h t => .cons h (AtL.take n t)
theorem AtL.drop : ∀ {vs : List V} {ds : List D} (n : Nat), AtL S H vs ds → AtL S H (vs.drop n) (ds.drop n)
  | _, _, 0, r => r
  | _, _, _ + 1, .nil => .nil
  | _, _, n + 1, .cons _ t => AtL.drop n t
theorem AtL.eraseIdx : ∀ {vs : List V} {ds : List D} (n : Nat), AtL S H vs ds → AtL S H (vs.eraseIdx n) (ds.eraseIdx n)
  | _, _, _, .nil => .nil
  | _, _, 0, .cons _ t => t
  | _, _, n + 1, .cons h t => .cons h (AtL.eraseIdx n t)
/-- values that are no objects -/
theorem AtL.vals : ∀ (vs : List V), AtL S H vs (vs.map D.v)
  | [] => .nil
  | x :: xs => .cons (.v x) (AtL.vals xs)
theorem AtL.vals_eq : ∀ {vs ws : List V}, AtL S H vs (ws.map D.v) → vs = ws
  | [], [], _ => rfl
  | [], _ :: _, h => by cases h
  | _ :: _, [], h => by cases h
  | x :: xs, y :: ys, h => by
    cases h with
    | cons h1 h2 => cases h1; rw [AtL.vals_eq h2]
theorem At.list {a : Addr} {ds : List D} (h : At S H (.ref a) (.l ds)) : ∃ vs, a ∉ S ∧ H a = some (.lst vs) ∧ AtL S H vs ds := by
  cases h with
  | l n e r => exact ⟨_, n, e, r⟩
theorem At.isL {x : V} {ds : List D} (h : At S H x (.l ds)) : ∃ a vs, x = .ref a ∧ a ∉ S ∧ H a = some (.lst vs) ∧ AtL S H vs ds := by
  cases h with
  | l n e r => exact ⟨_, _, rfl, n, e, r⟩
theorem At.isT {x : V} {ds : List D} (h : At S H x (.t ds)) : ∃ a vs, x = .ref a ∧ a ∉ S ∧ H a = some (.tup vs) ∧ AtL S H vs ds := by
  cases h with
  | t n e r => exact ⟨_, _, rfl, n, e, r⟩
theorem At.isD {x : V} {ks : List Str} {ds : List D} (h : At S H x (.d ks ds)) : ∃ a vs, x = .ref a ∧ a ∉ S ∧ H a = some (.dK (zipK ks vs)) ∧ ks.length = ds.length ∧ AtL S H vs ds := by
  cases h with
  | d n e hl r => exact ⟨_, _, rfl, n, e, hl, r⟩
theorem At.isO {x : V} {C : Addr} {fs : List Str} {ds : List D} (h : At S H x (.o C fs ds)) : ∃ a dx vs, x = .ref a ∧ a ∉ S ∧ H a = some (.ins C dx (fs.zip vs)) ∧ fs.length = ds.length ∧ AtL S H vs ds := by
  cases h with
  | o n e hl r => exact ⟨_, _, _, rfl, n, e, hl, r⟩
theorem At.isV {x y : V} (h : At S H x (.v y)) : x = y := by cases h; rfl
end
/-! ### data without dicts and objects, for == -/
mutual
def D.py : D → Option PyData
  | .v .non => some .none
  | .v (.bl b) => some (.bool b)
  | .v (.int i) => some (.int i)
  | .v (.str x) => some (.str x)
  | .v _ => none
  | .l ds => (D.pys ds).map .list
  | .t ds => (D.pys ds).map .tuple
  | .d _ _ => none
  | .o _ _ _ => none
def D.pys : List D → Option (List PyData)
  | [] => some []
  | c :: cs => (D.py c).bind fun p => (D.pys cs).map (p :: ·)
end
mutual
theorem At.dp {K : PySem.W.Frag} {S : List Addr} {H : Hp} : ∀ {d : D} {x : V} {p : PyData}, At S H x d → d.py = some p → Dp K H x p
  | .v .non, _, _, h, e => by cases h; cases e; exact .non
  | .v (.bl b), _, _, h, e => by cases h; cases e; exact .bl b
  | .v (.int i), _, _, h, e => by cases h; cases e; exact .int i
  | .v (.str x), _, _, h, e => by cases h; cases e; exact .str x
  | .v (.byt _), _, _, h, e => by cases e
  | .v (.flt _), _, _, h, e => by cases e
  | .v (.ref _), _, _, h, e => by cases e
  | .v (.ty _), _, _, h, e => by cases e
  | .l ds, _, _, h, e => by
    cases h with
    | l n g r =>
      have e : (D.pys ds).map PyData.list = some _ := e
      obtain ⟨ps, e1, e2⟩ := Option.map_eq_some_iff.mp e
      subst e2
      exact .lst (.inl (.inl g)) (AtL.dp r e1)
  | .t ds, _, _, h, e => by
    cases h with
    | t n g r =>
      have e : (D.pys ds).map PyData.tuple = some _ := e
      obtain ⟨ps, e1, e2⟩ := Option.map_eq_some_iff.mp e
      subst e2
      exact .tup (.inl (.inl g)) (AtL.dp r e1)
  | .d _ _, _, _, h, e => by cases e
  | .o _ _ _, _, _, h, e => by cases e
theorem AtL.dp {K : PySem.W.Frag} {S : List Addr} {H : Hp} : ∀ {ds : List D} {vs : List V} {ps : List PyData}, AtL S H vs ds → D.pys ds = some ps → DpAll K H vs ps
  | [], _, _, h, e => by cases h; cases e; exact .nil
  | c :: ds, _, _, h, e => by
    cases h with
    | cons h1 h2 =>
      have e : (D.py c).bind (fun p => (D.pys ds).map (p :: ·)) = some _ := e
      obtain ⟨p, e1, e2⟩ := Option.bind_eq_some_iff.mp e
      obtain ⟨ps, e3, e4⟩ := Option.map_eq_some_iff.mp e2
      subst e4
      exact .cons (At.dp h1 e1) (AtL.dp h2 e3)
end
end NN
namespace NN
open PySem PySem.Spec PyProof.Rows L2
/-! ### operations over several kinds -/
section
variable {X : Cx}
theorem OpR.or {f : Value → Value → Sem Value} {r r' : R2} (h : OpR X f r) (h' : OpR X f r') : OpR X f (fun x y H Q => r x y H Q ∨ r' x y H Q) := by
  intro pins s σ H x y v u Q I rx ry q
  rcases q with q | q
  · exact h pins s σ H x y v u Q I rx ry q
  · exact h' pins s σ H x y v u Q I rx ry q
theorem CallR.or {f : Value} {r r' : List V → Hp → VK → Prop} (h : CallR X f r) (h' : CallR X f r') : CallR X f (fun x H Q => r x H Q ∨ r' x H Q) := by
  intro pins s σ H x u Q I rx q
  rcases q with q | q
  · exact h pins s σ H x u Q I rx q
  · exact h' pins s σ H x u Q I rx q
theorem SlR.or {r r' : V → Option Int → Option Int → Hp → VK → Prop} (h : SlR X r) (h' : SlR X r') : SlR X (fun x a b H Q => r x a b H Q ∨ r' x a b H Q) := by
  intro pins s σ H x v vl vu lo hi sl Q I rx h1 h2 h3 q
  rcases q with q | q
  · exact h pins s σ H x v vl vu lo hi sl Q I rx h1 h2 h3 q
  · exact h' pins s σ H x v vl vu lo hi sl Q I rx h1 h2 h3 q
theorem PSet.or {t t' : TSet} (h : PSet X t) (h' : PSet X t') : PSet X (fun o i v H Q => t o i v H Q ∨ t' o i v H Q) := by
  intro pins s σ H o i v ov iv u Q I ro ri rv q
  rcases q with q | q
  · exact h pins s σ H o i v ov iv u Q I ro ri rv q
  · exact h' pins s σ H o i v ov iv u Q I ro ri rv q
def rStr (f : Str → Str → Bool) : R2 := fun x y H Q => ∃ i j, x = .str i ∧ y = .str j ∧ Q (.bl (f i j)) H
def rAddS : R2 := fun x y H Q => ∃ i j, x = .str i ∧ y = .str j ∧ i.length + j.length ≤ sizeLine ∧ Q (.str (i ++ j)) H
def rAddU : R2 := fun x y H Q => rI0 (fun i j => .int (i + j)) x y H Q ∨ rAddS x y H Q ∨ rCat x y H Q
theorem op_addU : OpR X (binaryOp .Add) rAddU := OpR.or op_add (OpR.or op_add_str op_cat)
def rEqU (K : PySem.W.Frag) : R2 := fun x y H Q => rEq x y H Q ∨ rEqD K x y H Q
theorem op_eqU (hu : X.A.units + 64 < cLine) : OpR X (compareOp .Eq) (rEqU X.K) := OpR.or op_eq (op_eqD hu)
def rNeU (K : PySem.W.Frag) : R2 := fun x y H Q => rNe x y H Q ∨ rNeD K x y H Q
theorem op_neU (hu : X.A.units + 64 < cLine) : OpR X (compareOp .NotEq) (rNeU X.K) := OpR.or op_ne (op_neD hu)
def rCmpU (f : Int → Int → Bool) (g : Str → Str → Bool) : R2 := fun x y H Q => rI0 (fun i j => .bl (f i j)) x y H Q ∨ rStr g x y H Q
def rLtU : R2 := rCmpU (fun i j => decide (i < j)) (fun i j => decide (i.cps.toList < j.cps.toList))
def rLeU : R2 := rCmpU (fun i j => decide (i ≤ j)) (fun i j => !decide (j.cps.toList < i.cps.toList))
theorem op_ltU : OpR X (compareOp .Lt) rLtU := OpR.or op_lt op_lt_str
theorem op_leU : OpR X (compareOp .LtE) rLeU := OpR.or op_le op_le_str
def rGtU : R2 := rI0 (fun i j => .bl (decide (j < i)))
def rGeU : R2 := rI0 (fun i j => .bl (decide (j ≤ i)))
theorem op_gtU : OpR X (compareOp .Gt) rGtU := op_gt
theorem op_geU : OpR X (compareOp .GtE) rGeU := op_ge
def rInDict (neg : Bool) : R2 := fun y x H Q => ∃ a o, x = .ref a ∧ DGet H a y o ∧ Q (.bl (if neg then !o.isSome else o.isSome)) H
theorem op_in_dict (hu : X.A.units + 1 < cLine) : OpR X (compareOp .In) (rInDict false) := by
  intro pins s σ H y x v u Q I ry rx h
  obtain ⟨a, o, rfl, g, q⟩ := h
  obtain rfl : u = Value.ref a := rx
  exact d_in hu I g ry fun s3 I3 => ⟨.bl o.isSome, H, I3, rfl, q⟩
theorem op_notin_dict (hu : X.A.units + 1 < cLine) : OpR X (compareOp .NotIn) (rInDict true) := by
  intro pins s σ H y x v u Q I ry rx h
  obtain ⟨a, o, rfl, g, q⟩ := h
  obtain rfl : u = Value.ref a := rx
  exact d_notIn hu I g ry fun s3 I3 => ⟨.bl (!o.isSome), H, I3, rfl, q⟩
def rInSign (neg : Bool) : R2 := fun x y H Q => ∃ (c : Nat) (z : Str), x = .str ⟨#[c]⟩ ∧ y = .str z ∧ Q (.bl (if neg then !decide (c ∈ z.cps.toList) else decide (c ∈ z.cps.toList))) H
def rInNone (neg : Bool) : R2 := fun y x H Q => ∃ a kvs, x = .ref a ∧ y = .non ∧ Rd H a (.dK kvs) ∧ Q (.bl neg) H
theorem op_in_none : OpR X (compareOp .In) (rInNone false) := by
  intro pins s σ H y x v u Q I ry rx h
  obtain ⟨a, kvs, rfl, rfl, g, q⟩ := h
  obtain rfl : u = Value.ref a := rx
  obtain rfl : v = Value.none := ry
  exact d_inNone I g fun s3 I3 => ⟨.bl false, H, I3, rfl, q⟩
theorem op_notin_none : OpR X (compareOp .NotIn) (rInNone true) := by
  intro pins s σ H y x v u Q I ry rx h
  obtain ⟨a, kvs, rfl, rfl, g, q⟩ := h
  obtain rfl : u = Value.ref a := rx
  obtain rfl : v = Value.none := ry
  exact d_notInNone I g fun s3 I3 => ⟨.bl true, H, I3, rfl, q⟩
def rInU (K : PySem.W.Frag) (neg : Bool) : R2 := fun x y H Q => rIn K neg x y H Q ∨ rInDict neg x y H Q ∨ rInSign neg x y H Q ∨ rInNone neg x y H Q
theorem op_inU (hu : X.A.units + 1 < cLine) : OpR X (compareOp .In) (rInU X.K false) := OpR.or op_in_seq (OpR.or (op_in_dict hu) (OpR.or op_in_sign op_in_none))
theorem op_notInU (hu : X.A.units + 1 < cLine) : OpR X (compareOp .NotIn) (rInU X.K true) := OpR.or op_notIn_seq (OpR.or (op_notin_dict hu) (OpR.or op_notIn_sign op_notin_none))
def rIsNone (neg : Bool) : R2 := fun x y H Q => y = .non ∧ Q (.bl (if neg then !decide (x = .non) else decide (x = .non))) H
def rIsBool (neg : Bool) : R2 := fun x y H Q => ∃ a b : Bool, x = .bl a ∧ y = .bl b ∧ Q (.bl (if neg then !decide (a = b) else decide (a = b))) H
def rIsU (neg : Bool) : R2 := fun x y H Q => rIsNone neg x y H Q ∨ rIsBool neg x y H Q
theorem op_isU : OpR X (compareOp .Is) (rIsU false) := OpR.or op_isN op_isBl
theorem op_isNotU : OpR X (compareOp .IsNot) (rIsU true) := OpR.or op_notN op_notBl
/-! ### subscripts -/
def rIxD : R2 := fun x y H Q => ∃ a v, x = .ref a ∧ DGet H a y (some v) ∧ Q v H
theorem ix_dict (hu : X.A.units + 1 < cLine) : IxR X rIxD := by
  intro value slice pins s σ H x y v u Q I rx ry h hs
  obtain ⟨a, w, rfl, g, q⟩ := h
  obtain rfl : v = Value.ref a := rx
  have hT := dict_typeIs I g
  unfold subscriptTail
  refine wpAny_bind ?_
  rw [getitemInPython_of_ne hT.not_modules]
  refine wpAny_bind (wpAny_specialOf hT PySem.F.slot_dict_getitem.lookup ?_)
  have fin : wpAny (model X.prog X.w) X.A (subscripted slice false (Value.ref a) u) (fun r s₃ => wpAny (model X.prog X.w) X.A (letTemporaryGo value (Value.ref a) r >>= fun _ => pure r) (EP X pins σ Q) X.xe s₃) X.xe s := by
    rw [hs]
    refine wpAny_operating (d_getItem hu I g ry fun w' s3 I3 rw' => ?_)
    exact wpAny_bind (wpAny_letTemporaryGo (wpAny_pure ⟨w, H, I3, rw', q⟩))
  first
    | exact wpAny_pure (wpAny_bind fin)
    | exact wpAny_bind (wpAny_pure (wpAny_bind fin))
    | exact wpAny_bind fin
def rIxU (K : PySem.W.Frag) : R2 := fun x y H Q => rIx K x y H Q ∨ rIxD x y H Q
theorem ix_U (hu : X.A.units + 1 < cLine) : IxR X (rIxU X.K) := IxR.or ix_seq (ix_dict hu)
def rSetD : TSet := fun o i v H Q => ∃ a H', o = .ref a ∧ DPut H a i v H' ∧ Q H'
theorem set_dict (hu : X.A.units + 1 < cLine) : PSet X rSetD := by
  intro pins s σ H o i v ov iv u Q I ro ri rv h
  obtain ⟨a, H', rfl, g, q⟩ := h
  obtain rfl : ov = Value.ref a := ro
  exact d_setItem hu I g ri rv fun s4 I4 => ⟨H', I4, q⟩
def rSetU : TSet := fun o i v H Q => rSetL o i v H Q ∨ rSetD o i v H Q
theorem set_U (hu : X.A.units + 1 < cLine) : PSet X rSetU := PSet.or set_list (set_dict hu)
def rSlU (K : PySem.W.Frag) : V → Option Int → Option Int → Hp → VK → Prop := fun x lo hi H Q => rSlL K x lo hi H Q ∨ rSlS x lo hi H Q
theorem sl_U : SlR X (rSlU X.K) := SlR.or sl_list sl_str
/-! ### calls -/
def rLenU (K : PySem.W.Frag) : List V → Hp → VK → Prop := fun xs H Q => (∃ x n, xs = [x] ∧ LenV K x H n ∧ Q (.int n) H) ∨ ∃ a kvs, xs = [V.ref a] ∧ H a = some (.dK kvs) ∧ Q (.int kvs.length) H
theorem call_lenU : CallR X (.builtin "len") (rLenU X.K) := CallR.or call_len call_lenD
def rIsiU (K : PySem.W.Frag) : List V → Hp → VK → Prop := fun xs H Q => rIsi K xs H Q ∨ rIsiT K xs H Q
theorem call_isiU : CallR X (.builtin "isinstance") (rIsiU X.K) := CallR.or call_isi call_isiT
def rSortedD : List V → Hp → VK → Prop := fun xs H Q => ∃ (a : Addr) (kvs : List (Key × V)) (ks : List Str), xs = [.ref a] ∧ Rd H a (.dK kvs) ∧ kvs.map (·.1) = ks.map Sum.inr ∧ ks.length < 64 ∧
    ∀ ys p, ys.Perm ks → sortedS ys = true → H p = none → Q (.ref p) (upd H p (.lst (ys.map V.str)))
def rSortedU (K : PySem.W.Frag) : List V → Hp → VK → Prop := fun xs H Q => rSortedS K xs H Q ∨ rSortedD xs H Q
theorem call_sortedU (hc : X.calm = true) : CallR X (.builtin "sorted") (rSortedU X.K) := CallR.or cr_sortedS (call_sortedD hc)
def rTupleU (K : PySem.W.Frag) : List V → Hp → VK → Prop := fun xs H Q => ∃ p ys, xs = [.ref p] ∧ ((SqL K H p ys ∧ ∀ l, H l = none → Q (.ref l) (upd H l (.tup ys))) ∨ (SqT K H p ys ∧ Q (.ref p) H))
theorem call_tupleU : CallR X (.type "tuple") (rTupleU X.K) := call_tuple_of
def rListS (K : PySem.W.Frag) : List V → Hp → VK → Prop := fun xs H Q => ∃ p ys, xs = [.ref p] ∧ (SqL K H p ys ∨ SqT K H p ys) ∧ ∀ l, H l = none → Q (.ref l) (upd H l (.lst ys))
def rListD : List V → Hp → VK → Prop := fun xs H Q => ∃ (a : Addr) (kvs : List (Key × V)), xs = [.ref a] ∧ Rd H a (.dK kvs) ∧ ∀ p, H p = none → Q (.ref p) (upd H p (.lst (kvs.map fun kv => kV kv.1)))
def rListU (K : PySem.W.Frag) : List V → Hp → VK → Prop := fun xs H Q => rListS K xs H Q ∨ rListD xs H Q
theorem call_listU (hc : X.calm = true) : CallR X (.type "list") (rListU X.K) := CallR.or call_list_of (call_listD hc)
def rDictP (K : PySem.W.Frag) : List V → Hp → VK → Prop := fun xs H Q => ∃ (a : Addr) (ps : List Addr) (kvs : List (Key × V)), xs = [.ref a] ∧ SqL K H a (ps.map V.ref) ∧ Paired (fun p kv => SqT K H p [kV kv.1, kv.2]) ps kvs ∧
    ∀ p, H p = none → Q (.ref p) (upd H p (.dK (mergeK [] kvs)))
def rDictD : List V → Hp → VK → Prop := fun xs H Q => ∃ (a : Addr) (kvs : List (Key × V)), xs = [.ref a] ∧ Rd H a (.dK kvs) ∧ ∀ p, H p = none → Q (.ref p) (upd H p (.dK kvs))
def rDictU (K : PySem.W.Frag) : List V → Hp → VK → Prop := fun xs H Q => rDictP K xs H Q ∨ rDictD xs H Q
theorem call_dictU (hc : X.calm = true) : CallR X (.type "dict") (rDictU X.K) := CallR.or (call_dictP hc) call_dictD
theorem mt_indexU : MtR X "list.index" (rIndex X.K) := mt_index
/-! the same with the written part by its name -/
variable {K : PySem.W.Frag}
theorem op_eqK (h : X.K = K) (hu : X.A.units + 64 < cLine) : OpR X (compareOp .Eq) (rEqU K) := by subst h; exact op_eqU hu
theorem op_neK (h : X.K = K) (hu : X.A.units + 64 < cLine) : OpR X (compareOp .NotEq) (rNeU K) := by subst h; exact op_neU hu
theorem op_inK (h : X.K = K) (hu : X.A.units + 1 < cLine) : OpR X (compareOp .In) (rInU K false) := by subst h; exact op_inU hu
theorem op_notInK (h : X.K = K) (hu : X.A.units + 1 < cLine) : OpR X (compareOp .NotIn) (rInU K true) := by subst h; exact op_notInU hu
theorem ix_K (h : X.K = K) (hu : X.A.units + 1 < cLine) : IxR X (rIxU K) := by subst h; exact ix_U hu
theorem sl_K (h : X.K = K) : SlR X (rSlU K) := by subst h; exact sl_U
theorem call_lenK (h : X.K = K) : CallR X (.builtin "len") (rLenU K) := by subst h; exact call_lenU
theorem call_isiK' (h : X.K = K) : CallR X (.builtin "isinstance") (rIsiU K) := by subst h; exact call_isiU
theorem call_sortedK (h : X.K = K) (hc : X.calm = true) : CallR X (.builtin "sorted") (rSortedU K) := by subst h; exact call_sortedU hc
theorem call_tupleK (h : X.K = K) : CallR X (.type "tuple") (rTupleU K) := by subst h; exact call_tupleU
theorem call_listK (h : X.K = K) (hc : X.calm = true) : CallR X (.type "list") (rListU K) := by subst h; exact call_listU hc
theorem call_dictK (h : X.K = K) (hc : X.calm = true) : CallR X (.type "dict") (rDictU K) := by subst h; exact call_dictU hc
theorem cr_allK (h : X.K = K) (hc : X.calm = true) : CallR X (.builtin "all") (rAll K) := by subst h; exact cr_all hc
theorem mt_indexK (h : X.K = K) : MtR X "list.index" (rIndex K) := by subst h; exact mt_indexU
end
section
variable {X : Cx} {K : PySem.W.Frag}
theorem pe_fldK {e : Expr} {f : Str} {pos : Pos} {ta : TE} (h : X.K = K) (he : PE X e ta) (hb : attributeBase e f X.env (eval e X.env) = eval e X.env := by rfl) : PE X (.Attribute e f pos) (tFld K ta f) := by subst h; exact pe_fld he hb
theorem pg_tupK {es : List Expr} {k : Nat} {t : TGs} {n : Nat} {pos : Pos} (h : X.K = K) (hc : X.calm = true) (hp : PGs X es t)
    (hn : (assignEach es X.env).length = n := by rfl) (hst : (assignEach es X.env).findIdx? (·.1) = none := by rfl) : PG X (.Tuple es k pos) (gTup K n t) := by subst h; exact pg_tup hc hp hn hst
theorem pi_listK {tg l : Expr} {tl : TE} (h : X.K = K) (hl : PE X l tl) : PI X tg l (iList K tl) := by subst h; exact pi_list hl
theorem pe_orTK {a b : Expr} {rest : List Expr} {pos : Pos} {ta tb : TE} (h : X.K = K) (ha : PE X a ta) (hb : PE X (.BoolOp .Or (b :: rest) pos) tb) : PE X (.BoolOp .Or (a :: b :: rest) pos) (tOrT K ta tb) := by subst h; exact pe_orT ha hb
def tTruK (K : PySem.W.Frag) (ta : TE) : TT := fun σ H Q => ta σ H fun x H' => ∃ k, TruV K x H' k ∧ Q k H'
theorem pt_truthK {a : Expr} {ta : TE} (h : X.K = K) (ha : PE X a ta) (he : ∀ whole, isTrue a X.env whole = (do let v ← whole; standAt a.pos; holding [v] (truthy v)) := by intro _; rfl) : PT X a (tTruK K ta) := by subst h; exact pt_truth ha he
theorem pe_bmK {T id : String} {name : Str} {o e : Expr} {es : List Expr} {apos cpos : Pos} {to : TE} {t : TA} {r : V → List V → Hp → VK → Prop} (h : X.K = K) (pa : PlainAttrs T) (slot : Slot T name id) (hty : typeOf (.builtin id) = pure (.type "method_descriptor")) (hm : MtR X id r) (ho : PE X o to) (ha : PA X (e :: es) t)
    (hbase : attributeBase o name X.env (eval o X.env) = eval o X.env := by rfl)
    (hfew : ((backTo cpos (starEach (e :: es) X.env)).all (fun x => !x.1) && (backToKw cpos (keywordEach [] X.env)).all (fun x => x.1.isSome)
      && decide ((e :: es).length + ([] : List Keyword).length + (if ([] : List Keyword).isEmpty then 0 else 1) < 30)) = true := by rfl)
    (hline : (apos.endLine == cpos.line) = true := by rfl) (hs : starEach (e :: es) X.env = (false, eval e X.env) :: starEach es X.env := by rfl) (hplain : (backTo cpos (starEach es X.env)).any (·.1) = false := by rfl) :
    PE X (.Call (.Attribute o name apos) (e :: es) [] cpos) (tBM K T r to t) := by subst h; exact pe_bm pa slot hty hm ho ha hbase hfew hline hs hplain
theorem pe_bm0K {T id : String} {name : Str} {o : Expr} {apos cpos : Pos} {to : TE} {r : V → List V → Hp → VK → Prop} (h : X.K = K) (pa : PlainAttrs T) (slot : Slot T name id) (hty : typeOf (.builtin id) = pure (.type "method_descriptor")) (hm : MtR X id r) (ho : PE X o to)
    (hbase : attributeBase o name X.env (eval o X.env) = eval o X.env := by rfl) (hline : (apos.endLine == cpos.line) = true := by rfl) : PE X (.Call (.Attribute o name apos) [] [] cpos) (tBM0 K T r to) := by subst h; exact pe_bm0 pa slot hty hm ho hbase hline
def rJoin (K : PySem.W.Frag) : V → List V → Hp → VK → Prop := fun x xs H Q => ∃ a p, ∃ ys : List Str, x = .str a ∧ xs = [.ref p] ∧ (SqL K H p (ys.map V.str) ∨ SqT K H p (ys.map V.str)) ∧
      (ys.map (·.length)).sum + ys.length * a.length ≤ 16777216 ∧ Q (.str (Txt.join a ys)) H
theorem pe_joinK {o e : Expr} {to te : TE} {apos pos : Pos} (h : X.K = K) (ho : PE X o to) (he : PE X e te) (hs : starEach [e] X.env = [(false, eval e X.env)] := by rfl) (hbase : attributeBase o "join" X.env (eval o X.env) = eval o X.env := by rfl) (hline : (apos.endLine == pos.line) = true := by rfl) :
    PE X (.Call (.Attribute o "join" apos) [e] [] pos) (tM1 (rJoin K) to te) := by subst h; exact pe_join ho he hs hbase hline
theorem pi_enumK {e : Expr} {ta : TA} {p pos tpos : Pos} {elts : List Expr} {kk : Nat} (h : X.K = K) (hg : Gl X "enumerate") (hm : X.mg "enumerate" = none) (ha : PA X [e] ta) (hs : starEach [e] X.env = [(false, eval e X.env)] := by rfl) :
    PI X (.Tuple elts kk tpos) (.Call (.Name "enumerate" p) [e] [] pos) (iEnum K ta) := by subst h; exact pi_enum hg hm ha hs
theorem pi_zipK {e e2 : Expr} {ta : TA} {p pos tpos : Pos} {elts : List Expr} {kk : Nat} (h : X.K = K) (hg : Gl X "zip") (hm : X.mg "zip" = none) (ha : PA X [e, e2] ta)
    (hs : starEach [e, e2] X.env = (false, eval e X.env) :: starEach [e2] X.env := by rfl) (hpl : (backTo pos (starEach [e2] X.env)).any (·.1) = false := by rfl) :
    PI X (.Tuple elts kk tpos) (.Call (.Name "zip" p) [e, e2] [] pos) (RZ.iZipA K ta) := by subst h; exact RZ.pi_zipA hg hm ha hs hpl
theorem pi_reversedK {tg e : Expr} {ta : TA} {p pos : Pos} (h : X.K = K) (hg : Gl X "reversed") (hm : X.mg "reversed" = none) (ha : PA X [e] ta) (hs : starEach [e] X.env = [(false, eval e X.env)] := by rfl) : PI X tg (.Call (.Name "reversed" p) [e] [] pos) (iRev K ta) := by subst h; exact pi_reversed hg hm ha hs
end
/-! ### names of the top -/
section
variable {X : Cx} {x : Str} {pos : Pos}
theorem pe_globS {z : Str} (hg : Gl X x) (h : ∃ t, X.mg x = some (.str z t)) (hd : (x == ("__debug__" : Str)) = false := by decide) : PE X (.Name x pos) (tC (.str z)) := let ⟨t, e⟩ := h; pe_glob hg e ⟨t, rfl⟩ hd
theorem pe_globI {z : Int} (hg : Gl X x) (h : ∃ t, X.mg x = some (.int z t)) (hd : (x == ("__debug__" : Str)) = false := by decide) : PE X (.Name x pos) (tC (.int z)) := let ⟨t, e⟩ := h; pe_glob hg e ⟨t, rfl⟩ hd
theorem pe_globC {C : Addr} (hg : Gl X x) (h : X.mg x = some (.ref C)) (hd : (x == ("__debug__" : Str)) = false := by decide) : PE X (.Name x pos) (tC (.ref C)) := pe_glob hg h rfl hd
theorem pe_bty {n : String} (hg : Gl X x) (hm : X.mg x = none) (hv : bootBuiltins x = some (.type n)) (hn : x ≠ "__name__" := by decide) (hd : (x == ("__debug__" : Str)) = false := by decide) : PE X (.Name x pos) (tC (.ty n)) := pe_bltn hg hm hv rfl hn hd
end
/-! ### defs and classes by name -/
section
variable (P : Program) (w : World) (K : PySem.W.Frag) (mg : Str → Option Value) (base : Heap) (CX : CXT) (k : Nat)
def FnAt (x : Str) (ps : List Str) (sp : Sp) : Prop := ∃ f fd, mg x = some (.ref f) ∧ PySem.W.keepIn K (.ref f) = true ∧ Binds K fd ps [] ∧ FnOk P w K mg base CX k f fd ps sp
def MtAt (C : Addr) (m : Str) (ps : List Str) (sp : Sp) : Prop := ∃ f fd, Cls K C ∧ Meth K C m f ∧ Binds K fd ps [] ∧ FnOk P w K mg base CX k f fd ps sp
def MkAt (x : Str) (C : Addr) (ps : List Str) (sp : Sp) : Prop := ∃ f fd, mg x = some (.ref C) ∧ Mk K C f ∧ Binds K fd ps [] ∧ FnOk P w K mg base CX k f fd ps sp
end
section
variable {X : Cx} {CX : CXT} {k : Nat} {x m : Str} {C : Addr} {ps : List Str} {sp : Sp} {e o : Expr} {es : List Expr} {t : TA} {ta : TE} {p pos apos : Pos}
theorem pe_fn (F : FnAt X.prog X.w X.K X.mg X.base CX0 k x ps sp) (hr : Room k X.A) (ha : PA X (e :: es) t) (hg : Gl X x := by rfl) (hdb : (x == ("__debug__" : Str)) = false := by decide)
    (he : starEach (e :: es) X.env = (false, eval e X.env) :: starEach es X.env := by rfl) (hpl : (backTo pos (starEach es X.env)).any (·.1) = false := by rfl) : PE X (.Call (.Name x p) (e :: es) [] pos) (tCall sp [] E0 t) :=
  let ⟨_, _, h1, h2, h3, h4⟩ := F
  pe_call h4 hr hg h1 h2 h3 .nil pass0 ha hdb he hpl
theorem pe_mk (F : MkAt X.prog X.w X.K X.mg X.base CX0 k x C ps sp) (hr : Room (k + 1) X.A) (ha : PA X (e :: es) t) (hg : Gl X x := by rfl) (hdb : (x == ("__debug__" : Str)) = false := by decide)
    (he : starEach (e :: es) X.env = (false, eval e X.env) :: starEach es X.env := by rfl) (hpl : (backTo pos (starEach es X.env)).any (·.1) = false := by rfl) : PE X (.Call (.Name x p) (e :: es) [] pos) (tMake C sp [] E0 t) :=
  let ⟨_, _, h1, h2, h3, h4⟩ := F
  pe_make h2 h4 hr hg h1 h3 .nil pass0 ha hdb he hpl
theorem pe_mt {pl : Sem Bool} (F : MtAt X.prog X.w X.K X.mg X.base CX0 k C m ps sp) (ho : PE X o ta) (hr : Room k X.A) (ha : PA X (e :: es) t)
    (hst : starEach (e :: es) X.env = (false, eval e X.env) :: starEach es X.env := by rfl) (hpl : (backTo pos (starEach es X.env)).any (·.1) = false := by rfl)
    (ht : eval (.Call (.Attribute o m apos) (e :: es) [] pos) X.env = (do
      let ov ← eval o X.env
      standAt apos.atName
      let (f, first) ← holding [ov] (getMethod ov m pl)
      callWith pos f first (backTo pos (starEach (e :: es) X.env)) (backToKw pos (keywordEach [] X.env))) := by rfl) : PE X (.Call (.Attribute o m apos) (e :: es) [] pos) (tMeth C m sp [] E0 ta t) :=
  let ⟨_, _, h1, h2, h3, h4⟩ := F
  pe_meth (pl := pl) ho h1 h2 h4 hr h3 .nil pass0 ha hst hpl ht
theorem pe_mt0 {pl : Sem Bool} (F : MtAt X.prog X.w X.K X.mg X.base CX0 k C m ps sp) (ho : PE X o ta) (hr : Room k X.A)
    (ht : eval (.Call (.Attribute o m apos) [] [] pos) X.env = (do
      let ov ← eval o X.env
      standAt apos.atName
      let (f, first) ← holding [ov] (getMethod ov m pl)
      callWith pos f first (backTo pos (starEach [] X.env)) (backToKw pos (keywordEach [] X.env))) := by rfl) : PE X (.Call (.Attribute o m apos) [] [] pos) (tMeth C m sp [] E0 ta tNil) :=
  let ⟨_, _, h1, h2, h3, h4⟩ := F
  pe_meth0 (pl := pl) ho h1 h2 h4 hr h3 .nil pass0 ht
end
end NN
namespace NN
open PySem L2
/-! ### types of values -/
theorem kb_str_str : kitB "str" "str" = some true := by decide +kernel
theorem kb_str_bool : kitB "str" "bool" = some false := by decide +kernel
theorem kb_str_dict : kitB "str" "dict" = some false := by decide +kernel
theorem kb_str_tuple : kitB "str" "tuple" = some false := by decide +kernel
theorem kb_str_list : kitB "str" "list" = some false := by decide +kernel
theorem kb_int_str : kitB "int" "str" = some false := by decide +kernel
theorem kb_int_bool : kitB "int" "bool" = some false := by decide +kernel
theorem kb_int_dict : kitB "int" "dict" = some false := by decide +kernel
theorem kb_int_tuple : kitB "int" "tuple" = some false := by decide +kernel
theorem kb_int_list : kitB "int" "list" = some false := by decide +kernel
theorem kb_bool_str : kitB "bool" "str" = some false := by decide +kernel
theorem kb_bool_bool : kitB "bool" "bool" = some true := by decide +kernel
theorem kb_bool_dict : kitB "bool" "dict" = some false := by decide +kernel
theorem kb_bool_tuple : kitB "bool" "tuple" = some false := by decide +kernel
theorem kb_bool_list : kitB "bool" "list" = some false := by decide +kernel
theorem kb_NoneType_str : kitB "NoneType" "str" = some false := by decide +kernel
theorem kb_NoneType_bool : kitB "NoneType" "bool" = some false := by decide +kernel
theorem kb_NoneType_dict : kitB "NoneType" "dict" = some false := by decide +kernel
theorem kb_NoneType_tuple : kitB "NoneType" "tuple" = some false := by decide +kernel
theorem kb_NoneType_list : kitB "NoneType" "list" = some false := by decide +kernel
theorem kb_list_str : kitB "list" "str" = some false := by decide +kernel
theorem kb_list_bool : kitB "list" "bool" = some false := by decide +kernel
theorem kb_list_dict : kitB "list" "dict" = some false := by decide +kernel
theorem kb_list_tuple : kitB "list" "tuple" = some false := by decide +kernel
theorem kb_list_list : kitB "list" "list" = some true := by decide +kernel
theorem kb_tuple_str : kitB "tuple" "str" = some false := by decide +kernel
theorem kb_tuple_bool : kitB "tuple" "bool" = some false := by decide +kernel
theorem kb_tuple_dict : kitB "tuple" "dict" = some false := by decide +kernel
theorem kb_tuple_tuple : kitB "tuple" "tuple" = some true := by decide +kernel
theorem kb_tuple_list : kitB "tuple" "list" = some false := by decide +kernel
theorem kb_dict_str : kitB "dict" "str" = some false := by decide +kernel
theorem kb_dict_bool : kitB "dict" "bool" = some false := by decide +kernel
theorem kb_dict_dict : kitB "dict" "dict" = some true := by decide +kernel
theorem kb_dict_tuple : kitB "dict" "tuple" = some false := by decide +kernel
theorem kb_dict_list : kitB "dict" "list" = some false := by decide +kernel
/-! ### readings, one step each -/
section
variable {K : PySem.W.Frag} {σ : St} {H : Hp} {Q : VK} {QB : Bool → Hp → Prop} {D : Ends} {ta tb tc te : TE} {r r' : R2} {v x y : V}
theorem g_var {i : Nat} (h : σ[i]? = some (some v)) (q : Q v H) : tVar i σ H Q := ⟨v, h, q⟩
theorem g_c (q : Q v H) : tC v σ H Q := q
theorem g_op (q : ta σ H fun x H1 => tb σ H1 fun y H2 => r x y H2 Q) : tOp r ta tb σ H Q := q
theorem g_un {r : V → Hp → VK → Prop} (q : ta σ H fun x H1 => r x H1 Q) : tUn r ta σ H Q := q
theorem g_test (q : te σ H fun x H1 => ∃ c, x = .bl c ∧ QB c H1) : tTest te σ H QB := q
theorem g_B (q : te σ H fun x H1 => ∃ c, x = .bl c ∧ QB c H1) : tB te σ H QB := q
theorem g_isbl {b : Bool} {P : Bool → Prop} (q : P b) : ∃ c, V.bl b = .bl c ∧ P c := ⟨b, rfl, q⟩
theorem g_and {t u : TT} (q : t σ H fun c H1 => if c = true then u σ H1 QB else QB false H1) : tAnd t u σ H QB := q
theorem g_or {t u : TT} (q : t σ H fun c H1 => if c = true then QB true H1 else u σ H1 QB) : tOr t u σ H QB := q
theorem g_not {t : TT} (q : t σ H fun c H1 => QB (!c) H1) : tNot t σ H QB := q
theorem g_andV (q : ta σ H fun x H1 => ∃ c, x = .bl c ∧ if c = true then tb σ H1 Q else Q (.bl false) H1) : tAndV ta tb σ H Q := q
theorem g_orV (q : ta σ H fun x H1 => ∃ c, x = .bl c ∧ if c = true then Q (.bl true) H1 else tb σ H1 Q) : tOrV ta tb σ H Q := q
theorem g_notV (q : ta σ H fun x H1 => ∃ c, x = .bl c ∧ Q (.bl (!c)) H1) : tNotV ta σ H Q := q
theorem g_if {t : TT} (q : t σ H fun c H1 => if c = true then ta σ H1 Q else tb σ H1 Q) : tIf t ta tb σ H Q := q
theorem g_chain (q : ta σ H fun x H1 => tb σ H1 fun y H2 => r x y H2 fun z H3 => ∃ k, z = .bl k ∧ (if k = true then tc σ H3 fun w' H4 => r' y w' H4 Q else Q (.bl false) H3)) : tChain r r' ta tb tc σ H Q := q
theorem g_nil {QA : List V → Hp → Prop} (q : QA [] H) : tNil σ H QA := q
theorem g_cons {tr : TA} {QA : List V → Hp → Prop} (q : ta σ H fun x H1 => tr σ H1 fun xs H2 => QA (x :: xs) H2) : tCons ta tr σ H QA := q
theorem g_tup {t : TA} (q : t σ H fun xs H1 => xs.length ≤ sizeLine ∧ ∀ p, H1 p = none → Q (.ref p) (upd H1 p (.tup xs))) : tTup t σ H Q := q
theorem g_lst {t : TA} (q : t σ H fun xs H1 => xs.length ≤ sizeLine ∧ ∀ p, H1 p = none → Q (.ref p) (upd H1 p (.lst xs))) : tLst t σ H Q := q
theorem g_cb {r : List V → Hp → VK → Prop} {t : TA} (q : t σ H fun vs H1 => r vs H1 Q) : tCB r t σ H Q := q
theorem g_call {sp : Sp} {E : XK} {t : TA} (q : t σ H fun vs H1 => sp (vs ++ []) H1 Q E) : tCall sp [] E t σ H Q := q
theorem g_sl {rs : V → Option Int → Option Int → Hp → VK → Prop} {tl th : TO} (q : te σ H fun x H1 => tl σ H1 fun l H2 => th σ H2 fun u H3 => rs x l u H3 Q) : tSl rs te tl th σ H Q := q
theorem g_part {QO : Option Int → Hp → Prop} (q : te σ H fun x H1 => ∃ i, x = .int i ∧ QO (some i) H1) : tPart te σ H QO := q
theorem g_isint {i : Int} {P : Int → Prop} (q : P i) : ∃ c, V.int i = .int c ∧ P c := ⟨i, rfl, q⟩
theorem g_nopart {QO : Option Int → Hp → Prop} (q : QO none H) : tNoPart σ H QO := q
theorem g_bm {T : String} {r : V → List V → Hp → VK → Prop} {t : TA} (q : te σ H fun x H1 => tyV K T x H1 ∧ t σ H1 fun xs H2 => r x xs H2 Q) : tBM K T r te t σ H Q := q
theorem g_bm0 {T : String} {r : V → List V → Hp → VK → Prop} (q : te σ H fun x H1 => tyV K T x H1 ∧ r x [] H1 Q) : tBM0 K T r te σ H Q := q
theorem g_m1 {r : V → List V → Hp → VK → Prop} (q : ta σ H fun x H1 => (∃ a, x = .str a) ∧ te σ H1 fun y H2 => r x [y] H2 Q) : tM1 r ta te σ H Q := q
theorem g_isstr {z : Str} {P : Prop} (q : P) : (∃ a, V.str z = .str a) ∧ P := ⟨⟨z, rfl⟩, q⟩
theorem g_fld {f : Str} (q : ta σ H fun x H1 => ∃ a C dx fs v, x = .ref a ∧ H1 a = some (.ins C dx fs) ∧ Cls K C ∧ NoAttr K C f ∧ fs.lookup f = some v ∧ Q v H1) : tFld K ta f σ H Q := q
theorem g_meth {C : Addr} {m : Str} {sp : Sp} {E : XK} {t : TA} (q : ta σ H fun x H1 => ∃ a dx fs, x = .ref a ∧ H1 a = some (.ins C dx fs) ∧ fs.lookup m = none ∧ t σ H1 fun vs H2 => sp (x :: (vs ++ [])) H2 Q E) : tMeth C m sp [] E ta t σ H Q := q
theorem g_make {C : Addr} {sp : Sp} {E : XK} {t : TA} (q : t σ H fun vs H1 => ∀ x dx, H1 x = none → H1 dx = none → dx ≠ x → sp (.ref x :: (vs ++ [])) (upd (upd H1 dx (.own x)) x (.ins C dx [])) (fun v H2 => v = .non ∧ Q (.ref x) H2) E) : tMake C sp [] E t σ H Q := q
theorem g_get2 {td ty tx : TE} (q : td σ H fun x H1 => ∃ a, x = .ref a ∧ IsD H1 a ∧ ty σ H1 fun y H2 => tx σ H2 fun z H3 => ∃ o, DGet H3 a y o ∧ Q (o.getD z) H3) : tDGet2 td ty tx σ H Q := q
theorem g_disp {trs : List (TE × TE)} (q : ∀ p, H p = none → tPairs trs σ (upd H p (.dK [])) fun ps H2 => H2 p = some (.dK []) ∧ ∃ kvs : List (Key × V), ps = kvs.map (fun kv => (kV kv.1, kv.2)) ∧ kvs.length ≤ 15 ∧ Q (.ref p) (upd H2 p (.dK (mergeK [] kvs)))) : tDisp trs σ H Q := q
theorem g_pnil {QP : List (V × V) → Hp → Prop} (q : QP [] H) : tPairs [] σ H QP := q
theorem g_pcons {tk tv : TE} {r : List (TE × TE)} {QP : List (V × V) → Hp → Prop} (q : tk σ H fun x H1 => tv σ H1 fun y H2 => tPairs r σ H2 fun ps H3 => QP ((x, y) :: ps) H3) : tPairs ((tk, tv) :: r) σ H QP := q
theorem g_new (q : ∀ p, H p = none → Q (.ref p) (upd H p (.dK []))) : tDNewK σ H Q := q
/-! statements -/
theorem g_seq {t u : TS} (q : t { D with nx := u D } σ H) : tSeq t u D σ H := q
theorem g_next (q : D.nx σ H) : tNext D σ H := q
theorem g_asg {g : TG} (q : te σ H fun x H1 => g x σ H1 D.nx) : tAsg te g D σ H := q
theorem g_drop (q : te σ H fun _ H1 => D.nx σ H1) : tDrop te D σ H := q
theorem g_ret (q : te σ H D.rt) : tRet te D σ H := q
theorem g_retN (q : D.rt .non H) : tRetN D σ H := q
theorem g_ifS {c : TT} {t u : TS} (q : c σ H fun b H1 => if b = true then t D σ H1 else u D σ H1) : tIfS c t u D σ H := q
theorem g_sfld {f : Str} (q : tb σ H fun y H1 => ta σ H1 fun x H2 => ∃ a C dx fs, x = .ref a ∧ H2 a = some (.ins C dx fs) ∧ Cls K C ∧ NoAttr K C f ∧ fs.length < 1000 ∧ D.nx σ (upd H2 a (.ins C dx (putF f y fs)))) : sFld K ta tb f D σ H := q
theorem g_aug {i : Nat} {ti : TIp} (h : σ[i]? = some (some x)) (q : te σ H fun y H1 => ti x y H1 fun z H2 => D.nx (σ.set i (some z)) H2) : tAug i te ti D σ H := ⟨x, h, q⟩
theorem g_ipI {f : Int → Int → Int} {i j : Int} (q : Q (.int (f i j)) H) : ipI f (.int i) (.int j) H Q := ⟨i, j, rfl, rfl, q⟩
theorem g_st {N : List Str} {vs : List V} (σ' : St) {t : TS} (h : start N vs = σ') (q : t D σ' H) : t D (start N vs) H := by rw [h]; exact q
/-! targets -/
theorem g_name {i : Nat} {QS : St → Hp → Prop} (q : QS (σ.set i (some v)) H) : gName i v σ H QS := q
theorem g_tgt {n : Nat} {t : TGs} {a : Addr} {xs : List V} {QS : St → Hp → Prop} (h : SqT K H a xs) (hn : xs.length = n) (q : t xs σ H QS) : gTup K n t (.ref a) σ H QS := ⟨a, xs, rfl, h, hn, q⟩
theorem g_gcons {t : TG} {u : TGs} {vs : List V} {QS : St → Hp → Prop} (q : t v σ H fun σ' H' => u vs σ' H' QS) : gCons t u (v :: vs) σ H QS := ⟨v, vs, rfl, q⟩
theorem g_gnil {QS : St → Hp → Prop} (q : QS σ H) : gNil [] σ H QS := ⟨rfl, q⟩
theorem g_gsub {to ti : TE} {t : TSet} {QS : St → Hp → Prop} (q : to σ H fun o H1 => ti σ H1 fun i H2 => t o i v H2 fun H3 => QS σ H3) : gSub to ti t v σ H QS := q
/-! by values -/
theorem g_rI {C : Int → Int → Prop} {g : Int → Int → V} {i j : Int} (c : C i j) (q : Q (g i j) H) : rI C g (.int i) (.int j) H Q := ⟨i, j, rfl, rfl, c, q⟩
theorem g_rI0 {g : Int → Int → V} {i j : Int} (q : Q (g i j) H) : rI0 g (.int i) (.int j) H Q := ⟨i, j, rfl, rfl, q⟩
theorem g_rU {g : Int → V} {i : Int} (q : Q (g i) H) : rU g (.int i) H Q := ⟨i, rfl, q⟩
theorem g_addI {i j : Int} (q : Q (.int (i + j)) H) : rAddU (.int i) (.int j) H Q := .inl ⟨i, j, rfl, rfl, q⟩
theorem g_addS {i j : Str} (c : i.length + j.length ≤ sizeLine) (q : Q (.str (i ++ j)) H) : rAddU (.str i) (.str j) H Q := .inr (.inl ⟨i, j, rfl, rfl, c, q⟩)
theorem g_addL {a b : Addr} {xs ys : List V} (ha : H a = some (.lst xs)) (hb : H b = some (.lst ys)) (c : xs.length + ys.length ≤ sizeLine) (q : ∀ p, H p = none → Q (.ref p) (upd H p (.lst (xs ++ ys)))) : rAddU (.ref a) (.ref b) H Q :=
  .inr (.inr ⟨a, b, xs, ys, rfl, rfl, ha, hb, c, q⟩)
theorem g_eqS (c : scal x y = true) (q : Q (.bl (decide (x = y))) H) : rEqU K x y H Q := .inl ⟨c, q⟩
theorem g_neS (c : scal x y = true) (q : Q (.bl (!decide (x = y))) H) : rNeU K x y H Q := .inl ⟨c, q⟩
theorem g_eqD {d e : PyData} (h1 : Dp K H x d) (h2 : Dp K H y e) (s1 : SeqAt.shaped d = true) (s2 : SeqAt.shaped e = true) (q : Q (.bl (PyData.eqv d e)) H) : rEqU K x y H Q := .inr ⟨d, e, h1, h2, s1, s2, q⟩
theorem g_neD {d e : PyData} (h1 : Dp K H x d) (h2 : Dp K H y e) (s1 : SeqAt.shaped d = true) (s2 : SeqAt.shaped e = true) (q : Q (.bl (!PyData.eqv d e)) H) : rNeU K x y H Q := .inr ⟨d, e, h1, h2, s1, s2, q⟩
theorem g_ltI {i j : Int} (q : Q (.bl (decide (i < j))) H) : rLtU (.int i) (.int j) H Q := .inl ⟨i, j, rfl, rfl, q⟩
theorem g_leI {i j : Int} (q : Q (.bl (decide (i ≤ j))) H) : rLeU (.int i) (.int j) H Q := .inl ⟨i, j, rfl, rfl, q⟩
theorem g_gtI {i j : Int} (q : Q (.bl (decide (j < i))) H) : rGtU (.int i) (.int j) H Q := ⟨i, j, rfl, rfl, q⟩
theorem g_geI {i j : Int} (q : Q (.bl (decide (j ≤ i))) H) : rGeU (.int i) (.int j) H Q := ⟨i, j, rfl, rfl, q⟩
theorem g_ltS {i j : Str} (q : Q (.bl (decide (i.cps.toList < j.cps.toList))) H) : rLtU (.str i) (.str j) H Q := .inr ⟨i, j, rfl, rfl, q⟩
theorem g_leS {i j : Str} (q : Q (.bl (!decide (j.cps.toList < i.cps.toList))) H) : rLeU (.str i) (.str j) H Q := .inr ⟨i, j, rfl, rfl, q⟩
theorem g_inSign {neg : Bool} {c : Nat} {z : Str} (q : Q (.bl (if neg then !decide (c ∈ z.cps.toList) else decide (c ∈ z.cps.toList))) H) : rInU K neg (.str ⟨#[c]⟩) (.str z) H Q := .inr (.inr (.inl ⟨c, z, rfl, rfl, q⟩))
theorem g_inN {neg : Bool} {a : Addr} {kvs : List (Key × V)} (h : H a = some (.dK kvs)) (q : Q (.bl neg) H) : rInU K neg .non (.ref a) H Q := .inr (.inr (.inr ⟨a, kvs, rfl, rfl, .inl h, q⟩))
theorem g_inD {neg : Bool} {a : Addr} {o : Option V} (h : DGet H a y o) (q : Q (.bl (if neg then !o.isSome else o.isSome)) H) : rInU K neg y (.ref a) H Q := .inr (.inl ⟨a, o, rfl, h, q⟩)
theorem g_inL {neg : Bool} {a : Addr} {xs : List V} (h : H a = some (.lst xs)) (c1 : flatV x = true) (c2 : xs.all flatV = true) (q : Q (.bl (if neg then !inV x xs else inV x xs)) H) : rInU K neg x (.ref a) H Q := .inl ⟨a, xs, rfl, .inl (SqL.of h), c1, c2, q⟩
theorem g_inT {neg : Bool} {a : Addr} {xs : List V} (h : H a = some (.tup xs)) (c1 : flatV x = true) (c2 : xs.all flatV = true) (q : Q (.bl (if neg then !inV x xs else inV x xs)) H) : rInU K neg x (.ref a) H Q := .inl ⟨a, xs, rfl, .inr (SqT.of h), c1, c2, q⟩
theorem g_isN {neg : Bool} (q : Q (.bl (if neg then !decide (x = .non) else decide (x = .non))) H) : rIsU neg x .non H Q := .inl ⟨rfl, q⟩
theorem g_isB {neg : Bool} {a b : Bool} (q : Q (.bl (if neg then !decide (a = b) else decide (a = b))) H) : rIsU neg (.bl a) (.bl b) H Q := .inr ⟨a, b, rfl, rfl, q⟩
theorem g_ixL {a : Addr} {xs : List V} {i : Int} (h : H a = some (.lst xs)) (c : atI xs i = some v) (q : Q v H) : rIxU K (.ref a) (.int i) H Q := .inl (.inl ⟨a, xs, i, v, rfl, rfl, SqL.of h, c, q⟩)
theorem g_ixT {a : Addr} {xs : List V} {i : Int} (h : H a = some (.tup xs)) (c : atI xs i = some v) (q : Q v H) : rIxU K (.ref a) (.int i) H Q := .inl (.inr (.inl ⟨a, xs, i, v, rfl, rfl, SqT.of h, c, q⟩))
theorem g_ixS {z : Str} {i : Int} {c : Nat} (h : z.length ≤ sizeLine) (e : atI z.cps.toList i = some c) (q : Q (.str ⟨#[c]⟩) H) : rIxU K (.str z) (.int i) H Q := .inl (.inr (.inr ⟨z, i, c, rfl, rfl, h, e, q⟩))
theorem g_ixD {a : Addr} (h : DGet H a y (some v)) (q : Q v H) : rIxU K (.ref a) y H Q := .inr ⟨a, v, rfl, h, q⟩
theorem g_setL {p : Addr} {xs : List V} {k : Int} {j : Nat} {QH : Hp → Prop} (h : H p = some (.lst xs)) (c : ixN xs.length k = some j) (q : QH (upd H p (.lst (xs.set j v)))) : rSetU (.ref p) (.int k) v H QH := .inl ⟨p, xs, k, j, rfl, rfl, h, c, q⟩
theorem g_setD {p : Addr} {kvs : List (Key × V)} {k : Str} {QH : Hp → Prop} (h : H p = some (.dK kvs)) (c : kvs.length < sizeLine) (q : QH (upd H p (.dK (putK kvs (.inr k) v)))) : rSetU (.ref p) (.str k) v H QH := .inr ⟨p, _, rfl, DPut.k (k := .inr k) h c, q⟩
theorem g_slL {a : Addr} {xs : List V} {lo hi : Option Int} (h : H a = some (.lst xs)) (q : ∀ p, H p = none → Q (.ref p) (upd H p (.lst (cutV xs lo hi)))) : rSlU K (.ref a) lo hi H Q := .inl ⟨a, xs, rfl, SqL.of h, q⟩
theorem g_slS {z : Str} {lo hi : Option Int} (c : z.length ≤ sizeLine) (q : Q (.str (cutS z lo hi)) H) : rSlU K (.str z) lo hi H Q := .inr ⟨z, rfl, c, q⟩
theorem g_lenL {a : Addr} {xs : List V} (h : H a = some (.lst xs)) (q : Q (.int xs.length) H) : rLenU K [.ref a] H Q := .inl ⟨_, _, rfl, .inl ⟨xs, SqL.of h, rfl⟩, q⟩
theorem g_lenT {a : Addr} {xs : List V} (h : H a = some (.tup xs)) (q : Q (.int xs.length) H) : rLenU K [.ref a] H Q := .inl ⟨_, _, rfl, .inr ⟨xs, SqT.of h, rfl⟩, q⟩
theorem g_lenS {z : Str} (c : z.length ≤ sizeLine) (q : Q (.int z.length) H) : rLenU K [.str z] H Q := .inl ⟨_, _, rfl, ⟨c, rfl⟩, q⟩
theorem g_lenD {a : Addr} {kvs : List (Key × V)} (h : H a = some (.dK kvs)) (q : Q (.int kvs.length) H) : rLenU K [.ref a] H Q := .inr ⟨a, kvs, rfl, h, q⟩
theorem g_isi {n : String} {t : Value} {b : Bool} (h : TyX K H x t) (c : PySem.W.kitOne K t (.type n) = some b) (q : Q (.bl b) H) : rIsiU K [x, .ty n] H Q := .inl ⟨x, .ty n, t, _, b, rfl, .ty n, h, c, q⟩
theorem g_isiS {n : String} {z : Str} (b : Bool) (c : kitB "str" n = some b) (q : Q (.bl b) H) : rIsiU K [.str z, .ty n] H Q := g_isi (.base (.str _)) (kit_ty c) q
theorem g_isiI {n : String} {z : Int} (b : Bool) (c : kitB "int" n = some b) (q : Q (.bl b) H) : rIsiU K [.int z, .ty n] H Q := g_isi (.base (.int _)) (kit_ty c) q
theorem g_isiB {n : String} {z : Bool} (b : Bool) (c : kitB "bool" n = some b) (q : Q (.bl b) H) : rIsiU K [.bl z, .ty n] H Q := g_isi (.base (.bl _)) (kit_ty c) q
theorem g_isiN {n : String} (b : Bool) (c : kitB "NoneType" n = some b) (q : Q (.bl b) H) : rIsiU K [.non, .ty n] H Q := g_isi (.base .non) (kit_ty c) q
theorem g_isiL {n : String} {a : Addr} {xs : List V} (b : Bool) (h : H a = some (.lst xs)) (c : kitB "list" n = some b) (q : Q (.bl b) H) : rIsiU K [.ref a, .ty n] H Q := g_isi (.base (.lst h)) (kit_ty c) q
theorem g_isiT {n : String} {a : Addr} {xs : List V} (b : Bool) (h : H a = some (.tup xs)) (c : kitB "tuple" n = some b) (q : Q (.bl b) H) : rIsiU K [.ref a, .ty n] H Q := g_isi (.base (.tup h)) (kit_ty c) q
theorem g_isiD {n : String} {a : Addr} {kvs : List (Key × V)} (b : Bool) (h : H a = some (.dK kvs)) (c : kitB "dict" n = some b) (q : Q (.bl b) H) : rIsiU K [.ref a, .ty n] H Q := g_isi (.base (.dK h)) (kit_ty c) q
theorem g_all {a : Addr} {bs : List Bool} (h : H a = some (.lst (bs.map V.bl))) (q : Q (.bl (bs.all id)) H) : rAll K [.ref a] H Q := ⟨a, bs, rfl, SqL.of h, q⟩
theorem g_tupL {a : Addr} {xs : List V} (h : H a = some (.lst xs)) (q : ∀ l, H l = none → Q (.ref l) (upd H l (.tup xs))) : rTupleU K [.ref a] H Q := ⟨a, xs, rfl, .inl ⟨SqL.of h, q⟩⟩
theorem g_listL {a : Addr} {xs : List V} (h : H a = some (.lst xs)) (q : ∀ l, H l = none → Q (.ref l) (upd H l (.lst xs))) : rListU K [.ref a] H Q := .inl ⟨a, xs, rfl, .inl (SqL.of h), q⟩
theorem g_listT {a : Addr} {xs : List V} (h : H a = some (.tup xs)) (q : ∀ l, H l = none → Q (.ref l) (upd H l (.lst xs))) : rListU K [.ref a] H Q := .inl ⟨a, xs, rfl, .inr (SqT.of h), q⟩
theorem g_listD {a : Addr} {kvs : List (Key × V)} (h : H a = some (.dK kvs)) (q : ∀ l, H l = none → Q (.ref l) (upd H l (.lst (kvs.map fun kv => kV kv.1)))) : rListU K [.ref a] H Q := .inr ⟨a, kvs, rfl, .inl h, q⟩
theorem g_dictD {a : Addr} {kvs : List (Key × V)} (h : H a = some (.dK kvs)) (q : ∀ l, H l = none → Q (.ref l) (upd H l (.dK kvs))) : rDictU K [.ref a] H Q := .inr ⟨a, kvs, rfl, .inl h, q⟩
theorem g_intB {k : Bool} {R1 : Int → Prop} {R2 : Bool → Prop} (q : R2 k) : (∃ i, [V.bl k] = [.int i] ∧ R1 i) ∨ ∃ k', [V.bl k] = [.bl k'] ∧ R2 k' := .inr ⟨k, rfl, q⟩
theorem g_append {a : Addr} {xs : List V} (h : H a = some (.lst xs)) (c : xs.length < sizeLine) (q : Q .non (upd H a (.lst (xs ++ [y])))) : rAppend (.ref a) [y] H Q := ⟨a, xs, y, rfl, rfl, h, c, q⟩
theorem g_extend {a b : Addr} {xs ys : List V} (h : H a = some (.lst xs)) (hb : H b = some (.lst ys)) (c : xs.length + ys.length ≤ sizeLine) (q : Q .non (upd H a (.lst (xs ++ ys)))) : rExtend (.ref a) [.ref b] H Q := ⟨a, b, xs, ys, rfl, rfl, h, hb, c, q⟩
theorem tyL {a : Addr} {xs : List V} (h : H a = some (.lst xs)) : tyV K "list" (.ref a) H := .inl ⟨rfl, _, SqL.of h⟩
theorem g_ty {T : String} {P : Prop} (h : tyV K T x H) (q : P) : tyV K T x H ∧ P := ⟨h, q⟩
/-! ifs -/
theorem g_ifB {b : Bool} {A B : Prop} (h1 : b = true → A) (h2 : b = false → B) : if b = true then A else B := by
  cases b with
  | true => rw [if_pos rfl]; exact h1 rfl
  | false => rw [if_neg Bool.false_ne_true]; exact h2 rfl
theorem g_ifT {b : Bool} {A B : Prop} (h : b = true) (q : A) : if b = true then A else B := by rw [if_pos h]; exact q
theorem g_ifF {b : Bool} {A B : Prop} (h : b = false) (q : B) : if b = true then A else B := by rw [h, if_neg Bool.false_ne_true]; exact q
end
theorem sz1 {n : Nat} (h : n ≤ 100000) : n ≤ sizeLine := Nat.le_trans h (by decide)
theorem sz2 {n : Nat} (h : n < 100000) : n < sizeLine := Nat.lt_of_lt_of_le h (by decide)
end NN
namespace NN
open PySem L2
theorem Kp.drop {S : List Addr} {H H' : Hp} {f : Addr} (hf : H f = none) (k : Kp (f :: S) H H') : Kp S H H' := fun a o e n => k a o e fun z => (List.mem_cons.mp z).elim (ne_of_none e hf) n
theorem Kp.add {S : List Addr} {H H' : Hp} {f : Addr} (k : Kp S H H') : Kp (f :: S) H H' := k.sub fun _ h => List.mem_cons_of_mem _ h
theorem Kp.upd {S : List Addr} {H H' : Hp} {f : Addr} {o : HO} (k : Kp S H H') (h : f ∈ S) : Kp S H (upd H' f o) := k.trans (Kp.mut h)
theorem Kp.upn {S : List Addr} {H H' : Hp} {f : Addr} {o : HO} (k : Kp S H H') (h : H' f = none) : Kp S H (L2.upd H' f o) := k.trans (Kp.new h)
section
variable {K : PySem.W.Frag} {J : It} {n : Nat} {G : Hp → Prop} {Y : Nat → Hp → V → Hp → Prop} {σ : St} {H : Hp} {g : TG} {Q : VK}
/-- what a comprehension asks once its iterator is there -/
def LcG (J : It) (g : TG) (tt : TT) (te : TE) (vs : List Nat) (σ : St) (H1 : Hp) (D : Addr) (Q : VK) : Prop := ∃ W : Nat → Nat → Hp → Prop, (∃ m, W 0 m (upd H1 D (.lst []))) ∧ ∀ i m H, W i m H →
      (J.stop i H ∧ Q (.ref D) H) ∨ (J.go i H ∧ ∃ Nx : Hp → Prop, (∀ H', Nx H' → ∃ m', m' < m ∧ W (i + 1) m' H') ∧ ∀ x H', J.yld i H x H' → g x (wipe σ vs) H' fun σ2 H2 => wipe σ2 vs = wipe σ vs ∧ tt σ2 H2 fun b H3 =>
        if b = true then te σ2 H3 fun y H4 => ∃ acc, H4 D = some (.lst acc) ∧ acc.length < sizeLine ∧ Nx (upd H4 D (.lst (acc ++ [y]))) else Nx H3)
theorem g_lc {wi : TI} {tt : TT} {te : TE} {vs : List Nat} (q : wi σ H fun J H1 => ∀ D, H1 D = none → LcG J g tt te vs σ H1 D Q) : tLc wi g tt te vs σ H Q := q
def ForG (J : It) (g : TG) (tb : TS) (D : Ends) (σ : St) (H1 : Hp) : Prop := ∃ W : Nat → Nat → St → Hp → Prop, (∃ m, W 0 m σ H1) ∧ ∀ i m σ H, W i m σ H →
      (J.stop i H ∧ D.nx σ H) ∨ (J.go i H ∧ ∃ N : St → Hp → Prop, (∀ σ' H', N σ' H' → ∃ m', m' < m ∧ W (i + 1) m' σ' H') ∧ ∀ x H', J.yld i H x H' → g x σ H' fun σ2 H2 => tb { D with nx := N, ct := N, bk := D.nx } σ2 H2)
theorem g_for {wi : TI} {tb : TS} {D : Ends} (q : wi σ H fun J H1 => ForG J g tb D σ H1) : tFor wi g tb D σ H := q
theorem g_iList {tl : TE} {R : It → Hp → Prop} (q : tl σ H fun x H1 => ∃ a, x = .ref a ∧ (∃ xs, SqL K H1 a xs) ∧ R (Itl K a) H1) : iList K tl σ H R := q
theorem g_iL {a : Addr} {xs : List V} {R : Addr → Prop} (h : H a = some (.lst xs)) (q : R a) : ∃ b, V.ref a = .ref b ∧ (∃ xs, SqL K H b xs) ∧ R b := ⟨a, rfl, ⟨xs, SqL.of h⟩, q⟩
theorem g_iStr {tl : TE} {R : It → Hp → Prop} (q : tl σ H fun v H1 => ∃ x, v = .str x ∧ R (Its x) H1) : iStr tl σ H R := q
theorem g_iS {z : Str} {P : Str → Prop} (q : P z) : ∃ x, V.str z = .str x ∧ P x := ⟨z, rfl, q⟩
theorem g_iRng1 {ta : TA} {R : It → Hp → Prop} (q : ta σ H fun vs H1 => ∃ j : Int, vs = [.int j] ∧ -(2 ^ 62) ≤ j ∧ j < 2 ^ 62 ∧ R (Itr 0 j.toNat) H1) : iRng1 ta σ H R := q
theorem g_iR {j : Int} {R : Int → Prop} (c : -(2 ^ 62) ≤ j ∧ j < 2 ^ 62) (q : R j) : ∃ i : Int, [V.int j] = [.int i] ∧ -(2 ^ 62) ≤ i ∧ i < 2 ^ 62 ∧ R i := ⟨j, rfl, c.1, c.2, q⟩
theorem g_iEnum {ta : TA} {R : It → Hp → Prop} (q : ta σ H fun vs H1 => ∃ a xs, vs = [.ref a] ∧ SqL K H1 a xs ∧ R (Ite K a) H1) : iEnum K ta σ H R := q
theorem g_iE {a : Addr} {xs : List V} {R : Addr → Prop} (h : SqL K H a xs) (q : R a) : ∃ b xs, [V.ref a] = [.ref b] ∧ SqL K H b xs ∧ R b := ⟨a, xs, rfl, h, q⟩
theorem g_iRev {ta : TA} {R : It → Hp → Prop} (q : ta σ H fun vs H1 => ∃ (a : Addr) (xs : List V), vs = [.ref a] ∧ SqL K H1 a xs ∧ R (Itv K a xs.length) H1) : iRev K ta σ H R := q
theorem g_iV {a : Addr} {xs : List V} {R : Addr → List V → Prop} (h : H a = some (.lst xs)) (q : R a xs) : ∃ (b : Addr) (xs : List V), [V.ref a] = [.ref b] ∧ SqL K H b xs ∧ R b xs := ⟨a, xs, rfl, SqL.of h, q⟩
theorem g_iZip {ta : TA} {R : It → Hp → Prop} (q : ta σ H fun vs H1 => ∃ a b xs ys, vs = [.ref a, .ref b] ∧ ((SqL K H1 a xs ∧ SqL K H1 b ys ∧ R (Itz K a b) H1) ∨ (SqT K H1 a xs ∧ SqT K H1 b ys ∧ R (RZ.ItzT K a b) H1))) : RZ.iZipA K ta σ H R := q
theorem g_iZL {a b : Addr} {xs ys : List V} {R R' : Addr → Addr → Prop} (h : H a = some (.lst xs)) (h' : H b = some (.lst ys)) (q : R a b) : ∃ a' b' xs ys, [V.ref a, V.ref b] = [.ref a', .ref b'] ∧ ((SqL K H a' xs ∧ SqL K H b' ys ∧ R a' b') ∨ (SqT K H a' xs ∧ SqT K H b' ys ∧ R' a' b')) := ⟨a, b, xs, ys, rfl, .inl ⟨SqL.of h, SqL.of h', q⟩⟩
theorem g_iZT {a b : Addr} {xs ys : List V} {R R' : Addr → Addr → Prop} (h : H a = some (.tup xs)) (h' : H b = some (.tup ys)) (q : R' a b) : ∃ a' b' xs ys, [V.ref a, V.ref b] = [.ref a', .ref b'] ∧ ((SqL K H a' xs ∧ SqL K H b' ys ∧ R a' b') ∨ (SqT K H a' xs ∧ SqT K H b' ys ∧ R' a' b')) := ⟨a, b, xs, ys, rfl, .inr ⟨SqT.of h, SqT.of h', q⟩⟩
theorem walk_zipT {a b : Addr} {xs ys : List V} {n : Nat} (hn : n = min xs.length ys.length) : Walk (RZ.ItzT K a b) n (fun H => SqT K H a xs ∧ SqT K H b ys) (YPair (fun i => xs[i]?) (fun i => ys[i]?)) := by
  subst hn
  refine ⟨fun i _ hi q => ?_, fun _ q => ⟨xs, ys, q.1, q.2, by omega⟩, fun i H v H' _ q y => ?_⟩
  · have h1 : i < xs.length := by omega
    have h2 : i < ys.length := by omega
    exact ⟨xs, ys, xs[i], ys[i], q.1, q.2, by simp [h1], by simp [h2]⟩
  · obtain ⟨T, x, z, h1, h2, h3, h4, h5⟩ := y
    exact ⟨T, x, z, h1, h2, h3, h4 xs q.1, h5 ys q.2⟩
theorem g_iKeys {td : TE} {R : It → Hp → Prop} (q : td σ H fun x H1 => ∃ d o, x = .ref d ∧ ((∃ kvs, H1 d = some (.frz o (.dK kvs)) ∧ R (Itk d o kvs) H1) ∨ ∃ kvs, H1 d = some (.frz o (.dT kvs)) ∧ R (Itkt d o kvs) H1)) : iKeys td σ H R := q
theorem g_iK {d : Addr} {o : Obj} {kvs : List (Key × V)} {R : Addr → Obj → List (Key × V) → Prop} {R' : Addr → Obj → List (List Key × V) → Prop} (h : H d = some (.frz o (.dK kvs))) (q : R d o kvs) : ∃ d' o, V.ref d = .ref d' ∧ ((∃ kvs, H d' = some (.frz o (.dK kvs)) ∧ R d' o kvs) ∨ ∃ kvs, H d' = some (.frz o (.dT kvs)) ∧ R' d' o kvs) :=
  ⟨d, o, rfl, .inl ⟨kvs, h, q⟩⟩
/-- behind i turns: the list so far, what stays, and what J says of them -/
def LI (S : List Addr) (H1 : Hp) (D : Addr) (Pv : Nat → List V → Hp → Prop) (i : Nat) (H : Hp) : Prop := ∃ acc, H D = some (.lst acc) ∧ acc.length ≤ i ∧ Kp (D :: S) H1 H ∧ Pv i acc H
/-- a comprehension -/
theorem lc_kp (w : Walk J n G Y) (S : List Addr) (Pv : Nat → List V → Hp → Prop) {tt : TT} {te : TE} {vs : List Nat} {H1 : Hp} {D : Addr} (hD : H1 D = none) (h0 : Pv 0 [] (upd H1 D (.lst [])))
    (hG : ∀ i acc H, i ≤ n → Kp (D :: S) H1 H → Pv i acc H → G H)
    (hs : ∀ i x H H' acc, i < n → H D = some (.lst acc) → acc.length ≤ i → Kp (D :: S) H1 H → Pv i acc H → Y i H x H' → g x (wipe σ vs) H' fun σ2 H2 => wipe σ2 vs = wipe σ vs ∧ tt σ2 H2 fun b H3 =>
      if b = true then te σ2 H3 fun y H4 => ∃ acc, H4 D = some (.lst acc) ∧ acc.length < sizeLine ∧ LI S H1 D Pv (i + 1) (upd H4 D (.lst (acc ++ [y]))) else LI S H1 D Pv (i + 1) H3)
    (hd : ∀ H acc, H D = some (.lst acc) → Kp S H1 H → Pv n acc H → Q (.ref D) H) :
    LcG J g tt te vs σ H1 D Q :=
  lc_it w (Qd := fun H => Q (.ref D) H) (LI S H1 D Pv) ⟨[], upd_same, Nat.le_refl _, Kp.new hD, h0⟩ (fun i H hi ⟨acc, _, _, k, p⟩ => hG i acc H hi k p)
    (fun i x H H' hi ⟨acc, hacc, hl, k, p⟩ y => hs i x H H' acc hi hacc hl k p y) (fun H ⟨acc, h, _, k, p⟩ => hd H acc h (k.drop hD) p)
theorem lc_add {S : List Addr} {H1 H4 : Hp} {D : Addr} {Pv : Nat → List V → Hp → Prop} {i : Nat} {acc : List V} {y : V} (h : H4 D = some (.lst acc)) (hl : acc.length ≤ i) (hi : i < 100000) (k : Kp (D :: S) H1 H4) (p : Pv (i + 1) (acc ++ [y]) (upd H4 D (.lst (acc ++ [y])))) :
    ∃ acc, H4 D = some (.lst acc) ∧ acc.length < sizeLine ∧ LI S H1 D Pv (i + 1) (upd H4 D (.lst (acc ++ [y]))) :=
  ⟨acc, h, sz2 (by omega), acc ++ [y], upd_same, by simp; omega, k.upd (by simp), p⟩
theorem lc_skip {S : List Addr} {H1 H4 : Hp} {D : Addr} {Pv : Nat → List V → Hp → Prop} {i : Nat} {acc : List V} (h : H4 D = some (.lst acc)) (hl : acc.length ≤ i) (k : Kp (D :: S) H1 H4) (p : Pv (i + 1) acc H4) :
    LI S H1 D Pv (i + 1) H4 := ⟨acc, h, by omega, k, p⟩
theorem g_iEL {a : Addr} {xs : List V} {R : Addr → Prop} (h : H a = some (.lst xs)) (q : R a) : ∃ b xs, [V.ref a] = [.ref b] ∧ SqL K H b xs ∧ R b := ⟨a, xs, rfl, SqL.of h, q⟩
theorem g_yes {QB : Bool → Hp → Prop} (q : QB true H) : tYes σ H QB := q
end
end NN
namespace NN
open PySem L2
/-! ### readings that unfold by themselves -/
def vAt (o : Option (Option V)) (k : V → Prop) : Prop := match o with
  | some (some v) => k v
  | _ => False
theorem vAt_ex {o : Option (Option V)} {k : V → Prop} (h : vAt o k) : ∃ v, o = some (some v) ∧ k v := by
  unfold vAt at h
  split at h
  · exact ⟨_, rfl, h⟩
  · exact h.elim
def tVarM (i : Nat) : TE := fun σ H Q => vAt (σ[i]?) fun v => Q v H
/-- a condition that is to be shown at once -/
def Ck (p : Prop) : Prop := p
section
variable {X : Cx}
theorem pv (i : Nat) {x : Str} {pos : Pos} (hN : X.N[i]? = some x := by rfl) (hv : Vis X.env.scope x := by first | exact Or.inl rfl | exact Or.inr (Or.inl rfl) | exact Or.inr (Or.inr rfl)) (hd : (x == ("__debug__" : Str)) = false := by decide)
    (hcd : (x == ("__classdict__" : Str)) = false := by decide) : PE X (.Name x pos) (tVarM i) :=
  ⟨fun pins s σ H Q I q => (L2.pv i hN hv hd hcd).run pins s σ H Q I (vAt_ex q)⟩
end
section
variable {K : PySem.W.Frag} {σ : St} {H : Hp} {Q : VK} {QB : Bool → Hp → Prop} {D : Ends} {ta tb tc te : TE} {r r' : R2} {v x y : V}
theorem e_var {i : Nat} : tVarM i σ H Q = vAt (σ[i]?) (fun v => Q v H) := rfl
theorem e_vAt {k : V → Prop} : vAt (some (some v)) k = k v := rfl
theorem e_c : tC v σ H Q = Q v H := rfl
theorem e_op : tOp r ta tb σ H Q = ta σ H (fun x H1 => tb σ H1 fun y H2 => r x y H2 Q) := rfl
theorem e_un {r : V → Hp → VK → Prop} : tUn r ta σ H Q = ta σ H (fun x H1 => r x H1 Q) := rfl
theorem e_test : tTest te σ H QB = te σ H (fun x H1 => ∃ c, x = .bl c ∧ QB c H1) := rfl
theorem e_B : tB te σ H QB = te σ H (fun x H1 => ∃ c, x = .bl c ∧ QB c H1) := rfl
theorem e_isbl {b : Bool} {P : Bool → Prop} : (∃ c, V.bl b = .bl c ∧ P c) = P b := propext ⟨fun ⟨c, e, q⟩ => by cases e; exact q, fun q => ⟨b, rfl, q⟩⟩
theorem e_isint {i : Int} {P : Int → Prop} : (∃ c, V.int i = .int c ∧ P c) = P i := propext ⟨fun ⟨c, e, q⟩ => by cases e; exact q, fun q => ⟨i, rfl, q⟩⟩
theorem e_isS {z : Str} {P : Str → Prop} : (∃ c, V.str z = .str c ∧ P c) = P z := propext ⟨fun ⟨c, e, q⟩ => by cases e; exact q, fun q => ⟨z, rfl, q⟩⟩
theorem e_isstr {z : Str} {P : Prop} : ((∃ a, V.str z = .str a) ∧ P) = P := propext ⟨fun h => h.2, fun q => ⟨⟨z, rfl⟩, q⟩⟩
theorem e_and {t u : TT} : tAnd t u σ H QB = t σ H (fun c H1 => if c = true then u σ H1 QB else QB false H1) := rfl
theorem e_or {t u : TT} : tOr t u σ H QB = t σ H (fun c H1 => if c = true then QB true H1 else u σ H1 QB) := rfl
theorem e_not {t : TT} : tNot t σ H QB = t σ H (fun c H1 => QB (!c) H1) := rfl
theorem e_andV : tAndV ta tb σ H Q = ta σ H (fun x H1 => ∃ c, x = .bl c ∧ if c = true then tb σ H1 Q else Q (.bl false) H1) := rfl
theorem e_orV : tOrV ta tb σ H Q = ta σ H (fun x H1 => ∃ c, x = .bl c ∧ if c = true then Q (.bl true) H1 else tb σ H1 Q) := rfl
theorem e_notV : tNotV ta σ H Q = ta σ H (fun x H1 => ∃ c, x = .bl c ∧ Q (.bl (!c)) H1) := rfl
theorem e_if {t : TT} : tIf t ta tb σ H Q = t σ H (fun c H1 => if c = true then ta σ H1 Q else tb σ H1 Q) := rfl
theorem e_chain : tChain r r' ta tb tc σ H Q = ta σ H (fun x H1 => tb σ H1 fun y H2 => r x y H2 fun z H3 => ∃ k, z = .bl k ∧ (if k = true then tc σ H3 fun w' H4 => r' y w' H4 Q else Q (.bl false) H3)) := rfl
theorem e_nil {QA : List V → Hp → Prop} : tNil σ H QA = QA [] H := rfl
theorem e_cons {tr : TA} {QA : List V → Hp → Prop} : tCons ta tr σ H QA = ta σ H (fun x H1 => tr σ H1 fun xs H2 => QA (x :: xs) H2) := rfl
theorem e_tup {t : TA} : tTup t σ H Q = t σ H (fun xs H1 => xs.length ≤ sizeLine ∧ ∀ p, H1 p = none → Q (.ref p) (upd H1 p (.tup xs))) := rfl
theorem e_lst {t : TA} : tLst t σ H Q = t σ H (fun xs H1 => xs.length ≤ sizeLine ∧ ∀ p, H1 p = none → Q (.ref p) (upd H1 p (.lst xs))) := rfl
theorem e_cb {r : List V → Hp → VK → Prop} {t : TA} : tCB r t σ H Q = t σ H (fun vs H1 => r vs H1 Q) := rfl
theorem e_call {sp : Sp} {E : XK} {t : TA} : tCall sp [] E t σ H Q = t σ H (fun vs H1 => sp (vs ++ []) H1 Q E) := rfl
theorem e_sl {rs : V → Option Int → Option Int → Hp → VK → Prop} {tl th : TO} : tSl rs te tl th σ H Q = te σ H (fun x H1 => tl σ H1 fun l H2 => th σ H2 fun u H3 => rs x l u H3 Q) := rfl
theorem e_part {QO : Option Int → Hp → Prop} : tPart te σ H QO = te σ H (fun x H1 => ∃ i, x = .int i ∧ QO (some i) H1) := rfl
theorem e_nopart {QO : Option Int → Hp → Prop} : tNoPart σ H QO = QO none H := rfl
theorem e_bm {T : String} {r : V → List V → Hp → VK → Prop} {t : TA} : tBM K T r te t σ H Q = te σ H (fun x H1 => tyV K T x H1 ∧ t σ H1 fun xs H2 => r x xs H2 Q) := rfl
theorem e_bm0 {T : String} {r : V → List V → Hp → VK → Prop} : tBM0 K T r te σ H Q = te σ H (fun x H1 => tyV K T x H1 ∧ r x [] H1 Q) := rfl
theorem e_m1 {r : V → List V → Hp → VK → Prop} : tM1 r ta te σ H Q = ta σ H (fun x H1 => (∃ a, x = .str a) ∧ te σ H1 fun y H2 => r x [y] H2 Q) := rfl
theorem e_fld {f : Str} : tFld K ta f σ H Q = ta σ H (fun x H1 => ∃ a C dx fs v, x = .ref a ∧ H1 a = some (.ins C dx fs) ∧ Cls K C ∧ NoAttr K C f ∧ fs.lookup f = some v ∧ Q v H1) := rfl
theorem e_meth {C : Addr} {m : Str} {sp : Sp} {E : XK} {t : TA} : tMeth C m sp [] E ta t σ H Q = ta σ H (fun x H1 => ∃ a dx fs, x = .ref a ∧ H1 a = some (.ins C dx fs) ∧ fs.lookup m = none ∧ t σ H1 fun vs H2 => sp (x :: (vs ++ [])) H2 Q E) := rfl
theorem e_make {C : Addr} {sp : Sp} {E : XK} {t : TA} : tMake C sp [] E t σ H Q = t σ H (fun vs H1 => ∀ x dx, H1 x = none → H1 dx = none → dx ≠ x → sp (.ref x :: (vs ++ [])) (upd (upd H1 dx (.own x)) x (.ins C dx [])) (fun v H2 => v = .non ∧ Q (.ref x) H2) E) := rfl
theorem e_get1 {td ty : TE} : tDGet1 td ty σ H Q = td σ H fun x H1 => ∃ a, x = .ref a ∧ IsD H1 a ∧ ty σ H1 fun y H2 => ∃ o, DGet H2 a y o ∧ Q (o.getD .non) H2 := rfl
theorem e_get2 {td ty tx : TE} : tDGet2 td ty tx σ H Q = td σ H (fun x H1 => ∃ a, x = .ref a ∧ IsD H1 a ∧ ty σ H1 fun y H2 => tx σ H2 fun z H3 => ∃ o, DGet H3 a y o ∧ Q (o.getD z) H3) := rfl
theorem e_disp {trs : List (TE × TE)} : tDisp trs σ H Q = (∀ p, H p = none → tPairs trs σ (upd H p (.dK [])) fun ps H2 => H2 p = some (.dK []) ∧ ∃ kvs : List (Key × V), ps = kvs.map (fun kv => (kV kv.1, kv.2)) ∧ kvs.length ≤ 15 ∧ Q (.ref p) (upd H2 p (.dK (mergeK [] kvs)))) := rfl
theorem e_pnil {QP : List (V × V) → Hp → Prop} : tPairs [] σ H QP = QP [] H := rfl
theorem e_pcons {tk tv : TE} {r : List (TE × TE)} {QP : List (V × V) → Hp → Prop} : tPairs ((tk, tv) :: r) σ H QP = tk σ H (fun x H1 => tv σ H1 fun y H2 => tPairs r σ H2 fun ps H3 => QP ((x, y) :: ps) H3) := rfl
theorem e_new : tDNewK σ H Q = (∀ p, H p = none → Q (.ref p) (upd H p (.dK []))) := rfl
theorem e_lc {wi : TI} {g : TG} {tt : TT} {vs : List Nat} : tLc wi g tt te vs σ H Q = wi σ H (fun J H1 => ∀ D, H1 D = none → LcG J g tt te vs σ H1 D Q) := rfl
theorem e_for {wi : TI} {g : TG} {tb : TS} : tFor wi g tb D σ H = wi σ H (fun J H1 => ForG J g tb D σ H1) := rfl
theorem e_iList {R : It → Hp → Prop} : iList K te σ H R = te σ H (fun x H1 => ∃ a, x = .ref a ∧ (∃ xs, SqL K H1 a xs) ∧ R (Itl K a) H1) := rfl
theorem e_iStr {R : It → Hp → Prop} : iStr te σ H R = te σ H (fun v H1 => ∃ x, v = .str x ∧ R (Its x) H1) := rfl
theorem e_iRng1 {t : TA} {R : It → Hp → Prop} : iRng1 t σ H R = t σ H (fun vs H1 => ∃ j : Int, vs = [.int j] ∧ -(2 ^ 62) ≤ j ∧ j < 2 ^ 62 ∧ R (Itr 0 j.toNat) H1) := rfl
theorem e_iEnum {t : TA} {R : It → Hp → Prop} : iEnum K t σ H R = t σ H (fun vs H1 => ∃ a xs, vs = [.ref a] ∧ SqL K H1 a xs ∧ R (Ite K a) H1) := rfl
theorem e_iKeys {R : It → Hp → Prop} : iKeys te σ H R = te σ H (fun x H1 => ∃ d o, x = .ref d ∧ ((∃ kvs, H1 d = some (.frz o (.dK kvs)) ∧ R (Itk d o kvs) H1) ∨ ∃ kvs, H1 d = some (.frz o (.dT kvs)) ∧ R (Itkt d o kvs) H1)) := rfl
theorem e_yes : tYes σ H QB = QB true H := rfl
/-! statements -/
theorem e_next : tNext D σ H = D.nx σ H := rfl
theorem e_asg {g : TG} : tAsg te g D σ H = te σ H (fun x H1 => g x σ H1 D.nx) := rfl
theorem e_drop : tDrop te D σ H = te σ H (fun _ H1 => D.nx σ H1) := rfl
theorem e_ret : tRet te D σ H = te σ H D.rt := rfl
theorem e_retN : tRetN D σ H = D.rt .non H := rfl
theorem e_ifS {c : TT} {t u : TS} : tIfS c t u D σ H = c σ H (fun b H1 => if b = true then t D σ H1 else u D σ H1) := rfl
theorem e_sfld {f : Str} : sFld K ta tb f D σ H = tb σ H (fun y H1 => ta σ H1 fun x H2 => ∃ a C dx fs, x = .ref a ∧ H2 a = some (.ins C dx fs) ∧ Cls K C ∧ NoAttr K C f ∧ fs.length < 1000 ∧ D.nx σ (upd H2 a (.ins C dx (putF f y fs)))) := rfl
theorem e_name {i : Nat} {QS : St → Hp → Prop} : gName i v σ H QS = QS (σ.set i (some v)) H := rfl
theorem e_gsub {to ti : TE} {t : TSet} {QS : St → Hp → Prop} : gSub to ti t v σ H QS = to σ H (fun o H1 => ti σ H1 fun i H2 => t o i v H2 fun H3 => QS σ H3) := rfl
theorem e_gcons {t : TG} {u : TGs} {vs : List V} {QS : St → Hp → Prop} : gCons t u (v :: vs) σ H QS = t v σ H (fun σ' H' => u vs σ' H' QS) := propext ⟨fun ⟨_, _, e, q⟩ => by cases e; exact q, fun q => ⟨v, vs, rfl, q⟩⟩
theorem e_gnil {QS : St → Hp → Prop} : gNil [] σ H QS = QS σ H := propext ⟨fun h => h.2, fun q => ⟨rfl, q⟩⟩
/-! by values -/
theorem e_rI {C : Int → Int → Prop} {g : Int → Int → V} {i j : Int} : rI C g (.int i) (.int j) H Q = (Ck (C i j) ∧ Q (g i j) H) := propext ⟨fun ⟨_, _, e1, e2, c, q⟩ => by cases e1; cases e2; exact ⟨c, q⟩, fun h => ⟨i, j, rfl, rfl, h.1, h.2⟩⟩
theorem e_rI0 {g : Int → Int → V} {i j : Int} : rI0 g (.int i) (.int j) H Q = Q (g i j) H := propext ⟨fun ⟨_, _, e1, e2, q⟩ => by cases e1; cases e2; exact q, fun q => ⟨i, j, rfl, rfl, q⟩⟩
theorem e_rU {g : Int → V} {i : Int} : rU g (.int i) H Q = Q (g i) H := propext ⟨fun ⟨_, e, q⟩ => by cases e; exact q, fun q => ⟨i, rfl, q⟩⟩
theorem e_addI {i j : Int} : rAddU (.int i) (.int j) H Q = Q (.int (i + j)) H := propext ⟨(fun h => by
  rcases h with ⟨_, _, e1, e2, q⟩ | ⟨_, _, e1, _⟩ | ⟨_, _, _, _, e1, _⟩
  · cases e1; cases e2; exact q
  · cases e1
  · cases e1), fun q => .inl ⟨i, j, rfl, rfl, q⟩⟩
theorem e_ltI {i j : Int} : rLtU (.int i) (.int j) H Q = Q (.bl (decide (i < j))) H := propext ⟨(fun h => by
  rcases h with ⟨_, _, e1, e2, q⟩ | ⟨_, _, e1, _⟩
  · cases e1; cases e2; exact q
  · cases e1), fun q => .inl ⟨i, j, rfl, rfl, q⟩⟩
theorem e_leI {i j : Int} : rLeU (.int i) (.int j) H Q = Q (.bl (decide (i ≤ j))) H := propext ⟨(fun h => by
  rcases h with ⟨_, _, e1, e2, q⟩ | ⟨_, _, e1, _⟩
  · cases e1; cases e2; exact q
  · cases e1), fun q => .inl ⟨i, j, rfl, rfl, q⟩⟩
theorem e_gtI {i j : Int} : rGtU (.int i) (.int j) H Q = Q (.bl (decide (j < i))) H := e_rI0
theorem e_geI {i j : Int} : rGeU (.int i) (.int j) H Q = Q (.bl (decide (j ≤ i))) H := e_rI0
theorem e_ifT {A B : Prop} : (if true = true then A else B) = A := if_pos rfl
theorem e_ifF {A B : Prop} : (if false = true then A else B) = B := if_neg Bool.false_ne_true
theorem e_ifTr {A B : Prop} [Decidable True] : (if True then A else B) = A := if_pos trivial
theorem e_ifFa {A B : Prop} [Decidable False] : (if False then A else B) = B := if_neg id
theorem g_newt {n : Nat} {R : Addr → Prop} (h : n ≤ 100000) (q : ∀ p, H p = none → R p) : n ≤ sizeLine ∧ ∀ p, H p = none → R p := ⟨sz1 h, q⟩
theorem g_ck {p q : Prop} (c : p) (h : q) : Ck p ∧ q := ⟨c, h⟩
theorem g_wipe {σ1 σ2 : St} {P : Prop} (h : σ1 = σ2) (q : P) : σ1 = σ2 ∧ P := ⟨h, q⟩
theorem e_wipe0 : wipe σ [] = σ := rfl
theorem e_wipe1 {i : Nat} {is : List Nat} : wipe σ (i :: is) = (wipe σ is).set i none := rfl
theorem e_map0 {α : Type} {f : α → Nat} : List.map f [] = [] := rfl
theorem e_map1 {α : Type} {f : α → Nat} {a : α} {as : List α} : List.map f (a :: as) = f a :: List.map f as := rfl
theorem e_true {A : Prop} : (True ∧ A) = A := propext ⟨fun h => h.2, fun h => ⟨trivial, h⟩⟩
theorem e_intB {k : Bool} {R1 : Int → Prop} {R2 : Bool → Prop} : ((∃ i, [V.bl k] = [.int i] ∧ R1 i) ∨ ∃ k', [V.bl k] = [.bl k'] ∧ R2 k') = R2 k := propext ⟨(fun h => by
  rcases h with ⟨_, e, _⟩ | ⟨_, e, q⟩
  · cases e
  · cases e; exact q), fun q => .inr ⟨k, rfl, q⟩⟩
end
end NN
namespace NN
open PySem L2
/-- a text by its codes -/
def tx (l : List Nat) : Str := ⟨l.toArray⟩
theorem tx_cps (l : List Nat) : (tx l).cps.toList = l := rfl
theorem tx_len (l : List Nat) : (tx l).length = l.length := by show l.toArray.size = _; simp
theorem len_T (z : Str) : z.length = z.cps.toList.length := by show z.cps.size = _; simp
theorem tx_of (z : Str) : tx z.cps.toList = z := by cases z; simp [tx]
theorem str_ext {a b : Str} (h : a.cps.toList = b.cps.toList) : a = b := by rw [← tx_of a, ← tx_of b, h]
theorem cps_app (a b : Str) : (a ++ b).cps.toList = a.cps.toList ++ b.cps.toList := by
  show (a.cps ++ b.cps).toList = _
  simp
theorem len_app (a b : Str) : (a ++ b).length = a.length + b.length := by rw [len_T, cps_app, List.length_append, ← len_T, ← len_T]
theorem tx_app (a b : List Nat) : tx a ++ tx b = tx (a ++ b) := str_ext (by rw [cps_app, tx_cps, tx_cps, tx_cps])
theorem empty_eq : (("" : Str) : Str) = tx [] := by decide +kernel
theorem join_nil : ∀ ys : List Str, (Txt.join (tx []) ys).cps.toList = ys.flatMap (·.cps.toList) := by
  intro ys
  rw [TL.join_eq]
  induction ys with
  | nil => rfl
  | cons x r ih =>
    cases r with
    | nil => show x.cps.toList = _; simp
    | cons y r =>
      show (x ++ tx [] ++ Str.join (tx []) (y :: r)).cps.toList = _
      rw [cps_app, cps_app, ih, tx_cps]
      simp
theorem join_empty (ys : List Str) : Txt.join "" ys = tx (ys.flatMap (·.cps.toList)) := by
  rw [empty_eq]
  exact str_ext (by rw [join_nil, tx_cps])
/-- one sign -/
abbrev sg (c : Nat) : Str := ⟨#[c]⟩
theorem flat_sg (cs : List Nat) : (cs.map sg).flatMap (·.cps.toList) = cs := by
  induction cs with
  | nil => rfl
  | cons c r ih => rw [List.map_cons, List.flatMap_cons, ih]; rfl
theorem join_sg (cs : List Nat) : Txt.join "" (cs.map sg) = tx cs := by rw [join_empty, flat_sg]
theorem sum_len_sg (cs : List Nat) : ((cs.map sg).map (·.length)).sum = cs.length := by
  induction cs with
  | nil => rfl
  | cons c r ih => rw [List.map_cons, List.map_cons, List.sum_cons, ih]; show 1 + r.length = r.length + 1; omega
theorem g_join {K : PySem.W.Frag} {H : Hp} {Q : VK} {z : Str} {a : Addr} {ys : List Str} (h : H a = some (.lst (ys.map V.str))) (c : (ys.map (·.length)).sum + ys.length * z.length ≤ 16777216) (q : Q (.str (Txt.join z ys)) H) :
    rJoin K (.str z) [.ref a] H Q := ⟨z, a, ys, rfl, rfl, .inl (SqL.of h), c, q⟩
/-- behind an if: what follows, proved once -/
theorem g_then {t u : TS} {D : Ends} {σ : St} {H : Hp} (P : St → Hp → Prop) (h2 : ∀ σ H, P σ H → u D σ H) (h1 : (∀ σ H, P σ H → u D σ H) → t { D with nx := u D } σ H) : tSeq t u D σ H := h1 h2
/-- a place of a text or a list -/
theorem at_lt {α : Type} {xs : List α} {i : Int} (h0 : 0 ≤ i) (h1 : i < xs.length) : ∃ v, atI xs i = some v ∧ v ∈ xs ∧ xs[i.toNat]? = some v := by
  obtain ⟨j, rfl⟩ := Int.eq_ofNat_of_zero_le h0
  have hj : j < xs.length := by omega
  exact ⟨xs[j], atI_nat (by simp [hj]), by simp, by simp [hj]⟩
end NN
namespace NN
open PySem L2
/-! ### == and != of lists of texts -/
def fineS (z : Str) : Prop := PyData.strOk z = true
theorem dp_strs {K : PySem.W.Frag} {H : Hp} : ∀ (ys : List Str), DpAll K H (ys.map V.str) (ys.map PyData.str)
  | [] => .nil
  | y :: r => .cons (.str y) (dp_strs r)
theorem lay_strs : ∀ {ys : List Str}, (∀ y ∈ ys, fineS y) → PyData.canLayAll0 (ys.map PyData.str) = true
  | [], _ => rfl
  | y :: r, h => by
    show (PyData.strOk y && PyData.canLayAll0 (r.map PyData.str)) = true
    rw [lay_strs fun z hz => h z (List.mem_cons_of_mem _ hz), show PyData.strOk y = true from h y (List.mem_cons_self ..)]
    rfl
theorem depth_strs : ∀ (ys : List Str), PyData.depthAll (ys.map PyData.str) = 0
  | [] => rfl
  | y :: r => by
    show max (PyData.depth (.str y)) (PyData.depthAll (r.map PyData.str)) = 0
    rw [depth_strs r]; rfl
theorem shaped_strs {ys : List Str} (h : ∀ y ∈ ys, fineS y) : SeqAt.shaped (.list (ys.map PyData.str)) = true := by
  unfold SeqAt.shaped
  have e1 : PyData.canLay0 (.list (ys.map PyData.str)) = true := lay_strs h
  have e2 : PyData.depth (.list (ys.map PyData.str)) = 1 := by
    show PyData.depthAll (ys.map PyData.str) + 1 = 1
    rw [depth_strs]
  rw [e1, e2]; rfl
theorem eqv_strs : ∀ (xs ys : List Str), PyData.eqvAll (xs.map PyData.str) (ys.map PyData.str) = decide (xs = ys)
  | [], [] => rfl
  | [], _ :: _ => rfl
  | _ :: _, [] => rfl
  | x :: xs, y :: ys => by
    show (PyData.eqv (.str x) (.str y) && PyData.eqvAll (xs.map PyData.str) (ys.map PyData.str)) = _
    rw [eqv_strs xs ys, show PyData.eqv (.str x) (.str y) = (x == y) from rfl]
    by_cases e : x = y
    · subst e; by_cases e2 : xs = ys
      · subst e2; simp
      · simp [e2]
    · simp [e]
section
variable {K : PySem.W.Frag} {H : Hp} {Q : VK} {a b : Addr} {xs ys : List Str}
theorem g_eqStrs (ha : H a = some (.lst (xs.map V.str))) (hb : H b = some (.lst (ys.map V.str))) (fx : ∀ y ∈ xs, fineS y) (fy : ∀ y ∈ ys, fineS y) (q : Q (.bl (decide (xs = ys))) H) : rEqU K (.ref a) (.ref b) H Q :=
  g_eqD (.lst (SqL.of ha) (dp_strs xs)) (.lst (SqL.of hb) (dp_strs ys)) (shaped_strs fx) (shaped_strs fy) (by rw [show PyData.eqv (.list (xs.map PyData.str)) (.list (ys.map PyData.str)) = PyData.eqvAll (xs.map PyData.str) (ys.map PyData.str) by rw [PyData.eqv], eqv_strs]; exact q)
theorem g_neStrs (ha : H a = some (.lst (xs.map V.str))) (hb : H b = some (.lst (ys.map V.str))) (fx : ∀ y ∈ xs, fineS y) (fy : ∀ y ∈ ys, fineS y) (q : Q (.bl (!decide (xs = ys))) H) : rNeU K (.ref a) (.ref b) H Q :=
  g_neD (.lst (SqL.of ha) (dp_strs xs)) (.lst (SqL.of hb) (dp_strs ys)) (shaped_strs fx) (shaped_strs fy) (by rw [show PyData.eqv (.list (xs.map PyData.str)) (.list (ys.map PyData.str)) = PyData.eqvAll (xs.map PyData.str) (ys.map PyData.str) by rw [PyData.eqv], eqv_strs]; exact q)
theorem g_neNil (ha : H a = some (.lst (xs.map V.str))) (hb : H b = some (.lst [])) (fx : ∀ y ∈ xs, fineS y) (q : Q (.bl (!xs.isEmpty)) H) : rNeU K (.ref a) (.ref b) H Q :=
  g_neStrs (ys := []) ha hb fx (by simp) (by cases xs <;> exact q)
end
end NN
namespace NN
open PySem PySem.Spec PyProof.Rows L2
/-! ### texts in order -/
theorem ltL_irr : ∀ a : List Nat, ltCps a a = false
  | [] => rfl
  | x :: r => by
    have := ltL_irr r
    simp [ltCps, this]
theorem ltL_tri : ∀ a b : List Nat, ltCps a b = false → ltCps b a = false → a = b
  | [], [], _, _ => rfl
  | [], _ :: _, h, _ => by simp [ltCps] at h
  | _ :: _, [], _, h => by simp [ltCps] at h
  | x :: r, y :: q, h, h' => by
    simp only [ltCps] at h h'
    have e : x = y := by
      by_cases h1 : x < y
      · simp [h1] at h
      · by_cases h2 : y < x
        · simp [h2] at h'
        · omega
    subst e
    simp at h h'
    rw [ltL_tri r q h h']
theorem ltL_trans : ∀ a b c : List Nat, ltCps a b = true → ltCps b c = true → ltCps a c = true
  | _, b, [], _, h => by cases b <;> simp [ltCps] at h
  | [], _, _ :: _, _, _ => rfl
  | _ :: _, [], _ :: _, h, _ => by simp [ltCps] at h
  | x :: r, y :: q, z :: t, h, h' => by
    simp only [ltCps, Bool.or_eq_true, Bool.and_eq_true, decide_eq_true_eq, beq_iff_eq] at h h' ⊢
    have ih := ltL_trans r q t
    rcases h with h | ⟨h1, h2⟩ <;> rcases h' with h' | ⟨h3, h4⟩
    · exact .inl (by omega)
    · exact .inl (by omega)
    · exact .inl (by omega)
    · exact .inr ⟨by omega, ih h2 h4⟩
/-- a stands ahead of b, strictly -/
def sl (a b : Str) : Prop := ltCps a.cps.toList b.cps.toList = true
instance (a b : Str) : Decidable (sl a b) := by unfold sl; infer_instance
/-- a does not stand behind b -/
def sle (a b : Str) : Prop := ltCps b.cps.toList a.cps.toList = false
instance (a b : Str) : Decidable (sle a b) := by unfold sle; infer_instance
theorem sl_irr (a : Str) : ¬ sl a a := by unfold sl; rw [ltL_irr]; exact Bool.false_ne_true
theorem sl_trans {a b c : Str} : sl a b → sl b c → sl a c := ltL_trans _ _ _
theorem sle_of_not {a b : Str} (h : ¬ sl b a) : sle a b := by unfold sle; unfold sl at h; cases e : ltCps b.cps.toList a.cps.toList <;> simp_all
theorem sle_not {a b : Str} (h : sle a b) : ¬ sl b a := by unfold sl; rw [show ltCps b.cps.toList a.cps.toList = false from h]; exact Bool.false_ne_true
theorem sle_anti {a b : Str} (h : sle a b) (h' : sle b a) : a = b := str_ext (ltL_tri _ _ h' h)
theorem sl_or {a b : Str} (h : a ≠ b) : sl a b ∨ sl b a := by
  by_cases h1 : sl a b
  · exact .inl h1
  · by_cases h2 : sl b a
    · exact .inr h2
    · exact absurd (sle_anti (sle_of_not h2) (sle_of_not h1)) h
theorem sle_trans {a b c : Str} (h : sle a b) (h' : sle b c) : sle a c := by
  refine sle_of_not fun z => ?_
  by_cases e : b = c
  · subst e; exact sle_not h z
  · rcases sl_or e with q | q
    · exact sle_not h (sl_trans q z)
    · exact sle_not h' q
theorem sle_refl (a : Str) : sle a a := sle_of_not (sl_irr a)
theorem sle_of_sl {a b : Str} (h : sl a b) : sle a b := sle_of_not fun z => sl_irr a (sl_trans h z)
theorem sl_of {a b : Str} (h : sle a b) (n : a ≠ b) : sl a b := (sl_or n).resolve_right (sle_not h)
theorem rising_pw : ∀ (l : List Str) (p : Str), risingS p l = true → (p :: l).Pairwise sle
  | [], p, _ => by simp
  | x :: r, p, h => by
    have h' : (!ltCps x.cps.toList p.cps.toList && risingS x r) = true := h
    simp only [Bool.and_eq_true, Bool.not_eq_true'] at h'
    have ih := rising_pw r x h'.2
    have hpx : sle p x := h'.1
    refine List.pairwise_cons.mpr ⟨fun y hy => ?_, ih⟩
    rcases List.mem_cons.mp hy with e | hy
    · rw [e]; exact hpx
    · exact sle_trans hpx ((List.pairwise_cons.mp ih).1 y hy)
theorem sorted_pw {l : List Str} (h : sortedS l = true) : l.Pairwise sle := by
  cases l with
  | nil => exact List.Pairwise.nil
  | cons x r => exact rising_pw r x h
theorem perm_sorted : ∀ {xs ys : List Str}, xs.Perm ys → xs.Pairwise sle → ys.Pairwise sle → xs = ys
  | [], ys, p, _, _ => by rw [List.nil_perm.mp p]
  | x :: r, [], p, _, _ => by simp at p
  | x :: r, y :: q, p, h, h' => by
    have e : x = y := by
      have hx : x ∈ y :: q := p.subset (List.mem_cons_self ..)
      have hy : y ∈ x :: r := p.symm.subset (List.mem_cons_self ..)
      rcases List.mem_cons.mp hx with e | hx
      · exact e
      · rcases List.mem_cons.mp hy with e | hy
        · exact e.symm
        · exact sle_anti ((List.pairwise_cons.mp h).1 y hy) ((List.pairwise_cons.mp h').1 x hx)
    subst e
    rw [perm_sorted (List.Perm.cons_inv p) (List.pairwise_cons.mp h).2 (List.pairwise_cons.mp h').2]
def ins (x : Str) : List Str → List Str
  | [] => [x]
  | y :: r => if sle x y then x :: y :: r else y :: ins x r
def srt : List Str → List Str
  | [] => []
  | x :: r => ins x (srt r)
theorem ins_perm (x : Str) : ∀ l : List Str, (ins x l).Perm (x :: l)
  | [] => .refl _
  | y :: r => by
    unfold ins
    split
    · exact .refl _
    · exact (List.Perm.cons y (ins_perm x r)).trans (List.Perm.swap x y r)
theorem srt_perm : ∀ l : List Str, (srt l).Perm l
  | [] => .refl _
  | x :: r => (ins_perm x (srt r)).trans (List.Perm.cons x (srt_perm r))
theorem ins_pw (x : Str) : ∀ {l : List Str}, l.Pairwise sle → (ins x l).Pairwise sle
  | [], _ => by simp [ins]
  | y :: r, h => by
    unfold ins
    obtain ⟨h1, h2⟩ := List.pairwise_cons.mp h
    split
    · rename_i c
      exact List.pairwise_cons.mpr ⟨fun z hz => (List.mem_cons.mp hz).elim (fun e => e ▸ c) fun q => sle_trans c (h1 z q), h⟩
    · rename_i c
      refine List.pairwise_cons.mpr ⟨fun z hz => ?_, ins_pw x h2⟩
      rcases List.mem_cons.mp ((ins_perm x r).subset hz) with e | q
      · rw [e]; by_cases e2 : x = y
        · subst e2; exact sle_refl _
        · rcases sl_or e2 with q | q
          · exact absurd (sle_of_sl q) c
          · exact sle_of_sl q
      · exact h1 z q
theorem srt_pw : ∀ l : List Str, (srt l).Pairwise sle
  | [] => List.Pairwise.nil
  | x :: r => ins_pw x (srt_pw r)
theorem srt_of {xs ys : List Str} (p : ys.Perm xs) (h : sortedS ys = true) : ys = srt xs := perm_sorted (p.trans (srt_perm xs).symm) (sorted_pw h) (srt_pw xs)
theorem srt_eq {xs ys : List Str} (p : xs.Perm ys) : srt xs = srt ys := perm_sorted ((srt_perm xs).trans (p.trans (srt_perm ys).symm)) (srt_pw _) (srt_pw _)
theorem srt_fix {xs : List Str} (h : xs.Pairwise sle) : srt xs = xs := perm_sorted (srt_perm xs) (srt_pw _) h
theorem srt_idem (xs : List Str) : srt (srt xs) = srt xs := srt_fix (srt_pw _)
theorem mem_srt {x : Str} {l : List Str} : x ∈ srt l ↔ x ∈ l := (srt_perm l).mem_iff
theorem len_srt (l : List Str) : (srt l).length = l.length := (srt_perm l).length_eq
theorem nd_srt {l : List Str} (h : l.Nodup) : (srt l).Nodup := (srt_perm l).nodup_iff.mpr h
theorem srt_strict {l : List Str} (h : l.Nodup) : (srt l).Pairwise sl := by
  have a := srt_pw l
  have b := nd_srt h
  exact (List.Pairwise.and a b).imp fun ⟨x, y⟩ => sl_of x y
/-! ### dicts by texts -/
section
variable {α : Type}
def lk (th : List (Str × α)) (k : Str) : Option α := (th.find? fun p => decide (p.1 = k)).map (·.2)
def keys (th : List (Str × α)) : List Str := th.map (·.1)
def put (th : List (Str × α)) (k : Str) (v : α) : List (Str × α) := if k ∈ keys th then th.map (fun p => if p.1 = k then (p.1, v) else p) else th ++ [(k, v)]
def drop (th : List (Str × α)) (k : Str) : List (Str × α) := th.filter fun p => decide (p.1 ≠ k)
theorem lk_cons (p : Str × α) (r : List (Str × α)) (k : Str) : lk (p :: r) k = if p.1 = k then some p.2 else lk r k := by
  unfold lk; rw [List.find?_cons]
  by_cases e : p.1 = k <;> simp [e]
theorem lk_none {th : List (Str × α)} {k : Str} : lk th k = none ↔ k ∉ keys th := by
  induction th with
  | nil => simp [lk, keys]
  | cons p r ih =>
    rw [lk_cons]
    by_cases e : p.1 = k
    · simp [e, keys]
    · rw [if_neg e, ih]
      simp only [keys, List.map_cons, List.mem_cons, not_or]
      exact ⟨fun h => ⟨fun z => e z.symm, h⟩, fun h => h.2⟩
theorem lk_some_key {th : List (Str × α)} {k : Str} {v : α} (h : lk th k = some v) : k ∈ keys th := by
  refine Classical.byContradiction fun n => ?_
  rw [lk_none.mpr n] at h; cases h
theorem lk_mem {th : List (Str × α)} {k : Str} {v : α} (h : lk th k = some v) : (k, v) ∈ th := by
  induction th with
  | nil => cases h
  | cons p r ih =>
    rw [lk_cons] at h
    by_cases e : p.1 = k
    · rw [if_pos e] at h; cases h; subst e; exact List.mem_cons_self ..
    · rw [if_neg e] at h; exact List.mem_cons_of_mem _ (ih h)
theorem lk_of_mem {th : List (Str × α)} {k : Str} {v : α} (nd : (keys th).Nodup) (h : (k, v) ∈ th) : lk th k = some v := by
  induction th with
  | nil => cases h
  | cons p r ih =>
    have nd' : (p.1 :: keys r).Nodup := nd
    obtain ⟨n1, n2⟩ := List.nodup_cons.mp nd'
    rw [lk_cons]
    rcases List.mem_cons.mp h with e | h
    · subst e; simp
    · have : p.1 ≠ k := fun e => n1 (e ▸ List.mem_map.mpr ⟨_, h, rfl⟩)
      rw [if_neg this]; exact ih n2 h
theorem lk_iff {th : List (Str × α)} {k : Str} {v : α} (nd : (keys th).Nodup) : lk th k = some v ↔ (k, v) ∈ th := ⟨lk_mem, lk_of_mem nd⟩
theorem lk_of_key {th : List (Str × α)} {k : Str} (h : k ∈ keys th) : ∃ v, lk th k = some v := by
  cases e : lk th k with
  | some v => exact ⟨v, rfl⟩
  | none => exact absurd h (lk_none.mp e)
theorem lk_put (th : List (Str × α)) (k j : Str) (v : α) : lk (put th k v) j = if j = k then some v else lk th j := by
  unfold put
  split
  · rename_i h
    induction th with
    | nil => simp [keys] at h
    | cons p r ih =>
      rw [List.map_cons, lk_cons]
      by_cases e : p.1 = k
      · rw [if_pos e]
        by_cases ej : j = k
        · subst ej; simp [e]
        · have : p.1 ≠ j := fun z => ej (z ▸ e)
          rw [if_neg this, if_neg ej, lk_cons, if_neg this]
          by_cases hr : k ∈ keys r
          · rw [ih hr, if_neg ej]
          · have : (r.map fun p => if p.1 = k then (p.1, v) else p) = r := by
              have h0 : ∀ p ∈ r, (if p.1 = k then (p.1, v) else p) = p := fun q hq => by
                have : q.1 ≠ k := fun z => hr (List.mem_map.mpr ⟨q, hq, z⟩)
                rw [if_neg this]
              exact (List.map_congr_left h0).trans (List.map_id r)
            rw [this]
      · rw [if_neg e]
        have hr : k ∈ keys r := by
          rcases List.mem_cons.mp (show k ∈ p.1 :: keys r from h) with z | z
          · exact absurd z.symm e
          · exact z
        rw [lk_cons, ih hr]
        by_cases e2 : p.1 = j
        · have : j ≠ k := fun z => e (e2.trans z)
          simp [e2, this]
        · rw [if_neg e2, if_neg e2]
  · rename_i h
    induction th with
    | nil => rw [List.nil_append, lk_cons]; by_cases e : k = j <;> simp [e, eq_comm, lk]
    | cons p r ih =>
      rw [List.cons_append, lk_cons, lk_cons]
      have hr : k ∉ keys r := fun z => h (List.mem_cons_of_mem _ z)
      by_cases e : p.1 = j
      · have : j ≠ k := fun z => h (z ▸ e ▸ List.mem_cons_self ..)
        simp [e, this]
      · rw [if_neg e, if_neg e, ih hr]
theorem keys_put (th : List (Str × α)) (k : Str) (v : α) : keys (put th k v) = if k ∈ keys th then keys th else keys th ++ [k] := by
  unfold put
  split
  · unfold keys; rw [List.map_map]
    refine List.map_congr_left fun p _ => ?_
    show (if p.1 = k then (p.1, v) else p).1 = p.1
    split <;> rfl
  · simp [keys]
theorem put_new {th : List (Str × α)} {k : Str} (v : α) (h : k ∉ keys th) : put th k v = th ++ [(k, v)] := if_neg h
theorem lk_drop (th : List (Str × α)) (k j : Str) : lk (drop th k) j = if j = k then none else lk th j := by
  unfold drop
  induction th with
  | nil => simp [lk]
  | cons p r ih =>
    rw [List.filter_cons]
    by_cases e : p.1 = k
    · rw [if_neg (by simp [e]), ih, lk_cons]
      by_cases ej : j = k
      · simp [ej]
      · have : p.1 ≠ j := fun z => ej (z ▸ e)
        simp [ej, this]
    · rw [if_pos (by simp [e]), lk_cons, lk_cons, ih]
      by_cases ej : p.1 = j
      · have : j ≠ k := fun z => e (ej.trans z)
        simp [ej, this]
      · simp [ej]
theorem keys_drop (th : List (Str × α)) (k : Str) : keys (drop th k) = (keys th).filter fun x => decide (x ≠ k) := by
  unfold keys drop
  rw [List.filter_map]
  rfl
theorem mem_keys_drop {th : List (Str × α)} {k j : Str} : j ∈ keys (drop th k) ↔ j ∈ keys th ∧ j ≠ k := by rw [keys_drop]; simp
theorem nd_keys_drop {th : List (Str × α)} {k : Str} (h : (keys th).Nodup) : (keys (drop th k)).Nodup := by rw [keys_drop]; exact h.filter _
theorem nd_keys_put {th : List (Str × α)} {k : Str} {v : α} (h : (keys th).Nodup) : (keys (put th k v)).Nodup := by
  rw [keys_put]
  split
  · exact h
  · rename_i n; exact nd_snoc h n
theorem mem_keys_put {th : List (Str × α)} {k j : Str} {v : α} : j ∈ keys (put th k v) ↔ j ∈ keys th ∨ j = k := by
  rw [keys_put]
  split
  · rename_i h; exact ⟨.inl, fun q => q.elim id fun e => e ▸ h⟩
  · simp
end
/-- a dict's pairs -/
def dS (th : List (Str × V)) : List (Key × V) := th.map fun p => (.inr p.1, p.2)
theorem dS_len (th : List (Str × V)) : (dS th).length = th.length := by simp [dS]
theorem dS_keys (th : List (Str × V)) : (dS th).map (·.1) = (keys th).map Sum.inr := by simp [dS, keys]
theorem valV_dS (th : List (Str × V)) (k : Str) : valV (dS th) (.inr k) = lk th k := by
  induction th with
  | nil => rfl
  | cons p r ih =>
    rw [lk_cons]
    by_cases e : p.1 = k
    · rw [if_pos e]; exact valV_pos (p := ((.inr p.1 : Key), p.2)) (congrArg Sum.inr e)
    · rw [if_neg e, ← ih]; exact valV_neg (p := ((.inr p.1 : Key), p.2)) (fun z => e (Sum.inr.inj z))
theorem any_dS (th : List (Str × V)) (k : Str) : ((dS th).any fun kv => decide (kv.1 = (.inr k : Key))) = decide (k ∈ keys th) := by
  rw [valV_any, valV_dS]
  by_cases h : k ∈ keys th
  · obtain ⟨v, hv⟩ := lk_of_key h
    simp [hv, h]
  · simp [lk_none.mpr h, h]
theorem putK_dS (th : List (Str × V)) (k : Str) (v : V) : putK (dS th) (.inr k) v = dS (put th k v) := by
  unfold putK put
  rw [any_dS]
  by_cases h : k ∈ keys th
  · rw [if_pos (by simpa using h), if_pos h]
    unfold dS
    rw [List.map_map, List.map_map]
    refine List.map_congr_left fun p _ => ?_
    show (if (Sum.inr p.1 : Key) = Sum.inr k then ((Sum.inr p.1 : Key), v) else (.inr p.1, p.2)) = (Sum.inr (if p.1 = k then (p.1, v) else p).1, (if p.1 = k then (p.1, v) else p).2)
    by_cases e : p.1 = k
    · rw [if_pos e, if_pos (congrArg Sum.inr e)]
    · rw [if_neg e, if_neg fun z => e (Sum.inr.inj z)]
  · rw [if_neg (by simpa using h), if_neg h]
    simp [dS]
theorem dropK_dS (th : List (Str × V)) (k : Str) : dropK (dS th) (.inr k) = dS (drop th k) := by
  unfold dropK drop dS
  rw [List.filter_map]
  refine congrArg _ (List.filter_congr fun p _ => ?_)
  show decide ((Sum.inr p.1 : Key) ≠ Sum.inr k) = decide (p.1 ≠ k)
  exact decide_eq_decide.mpr ⟨fun h z => h (congrArg _ z), fun h z => h (Sum.inr.inj z)⟩
theorem merge_dS : ∀ (more th : List (Str × V)), (keys th ++ keys more).Nodup → mergeK (dS th) (dS more) = dS (th ++ more)
  | [], th, _ => by simp [dS, mergeK]
  | p :: r, th, nd => by
    show mergeK (putK (dS th) (.inr p.1) p.2) (dS r) = _
    have h : p.1 ∉ keys th := fun z => by
      have := (List.nodup_append.mp nd).2.2 p.1 z p.1 (List.mem_cons_self ..)
      exact this rfl
    rw [putK_dS, put_new _ h, merge_dS r (th ++ [(p.1, p.2)]) (by
      have : keys (th ++ [(p.1, p.2)]) ++ keys r = keys th ++ keys (p :: r) := by simp [keys]
      rw [this]; exact nd)]
    simp
theorem merge_dS0 {th : List (Str × V)} (nd : (keys th).Nodup) : mergeK [] (dS th) = dS th := by
  have := merge_dS th [] (by simpa [keys] using nd)
  simpa [dS] using this
end NN
namespace NN
open PySem L2
/-! ### names -/
def letters : Str := "abcdefghijklmnopqrstuvwxyz"
def isName (z : Str) : Bool := decide (0 < z.length) && (decide (z.length ≤ 8) && z.cps.toList.all fun c => decide (c ∈ letters.cps.toList))
theorem letters_len : letters.cps.toList.length = 26 := by decide +kernel
theorem letters_lt : ∀ c ∈ letters.cps.toList, c < 1114112 := by decide +kernel
theorem letters_nd : letters.cps.toList.Nodup := by decide +kernel
theorem isName_iff {z : Str} : isName z = true ↔ 0 < z.length ∧ z.length ≤ 8 ∧ ∀ c ∈ z.cps.toList, c ∈ letters.cps.toList := by
  unfold isName
  rw [Bool.and_eq_true, Bool.and_eq_true, decide_eq_true_eq, decide_eq_true_eq, List.all_eq_true]
  simp only [decide_eq_true_eq]
theorem name_len {z : Str} (h : isName z = true) : z.length ≤ 8 := (isName_iff.mp h).2.1
theorem fine_of {z : Str} (h : ∀ c ∈ z.cps.toList, c < 1114112) : fineS z := by
  show (z.cps.all fun x => decide (x < 0x110000)) = true
  rw [Array.all_eq_true']
  intro x hx
  exact decide_eq_true (h x (by simpa using hx))
theorem name_fine {z : Str} (h : isName z = true) : fineS z := fine_of fun c hc => letters_lt c ((isName_iff.mp h).2.2 c hc)
/-! ### promises -/
def NotStr (K : PySem.W.Frag) (H : Hp) (x : V) : Prop := ∃ t, TyX K H x t ∧ PySem.W.kitOne K t (.type "str") = some false
def spIsName (K : PySem.W.Frag) : Sp := fun vs H Q _ => ∃ x, vs = [x] ∧ ((NotStr K H x ∧ Q (.bl false) H) ∨ ∃ z, x = .str z ∧ z.length ≤ 100000 ∧ ∀ H', Kp [] H H' → Q (.bl (isName z)) H')
def St1 (H : Hp) (st : Addr) : Prop := ∃ z : Int, H st = some (.lst [.int z])
def spState : Sp := fun vs H Q _ => ∃ c k : Int, vs = [.int c, .int k] ∧ ∀ st H', H st = none → Kp [] H H' → St1 H' st → Q (.ref st) H'
def spNext : Sp := fun vs H Q _ => ∃ (st : Addr) (n : Int), vs = [.ref st, .int n] ∧ St1 H st ∧ 0 < n ∧ ∀ r H', 0 ≤ r → r < n → Kp [st] H H' → St1 H' st → Q (.int r) H'
def PoolOk (ns : List Str) : Prop := ns.length = 14 ∧ ns.Nodup ∧ ∀ n ∈ ns, isName n = true
def spPool : Sp := fun vs H Q _ => ∃ st, vs = [.ref st] ∧ St1 H st ∧ ∀ p ns H', H p = none → Kp [st] H H' → St1 H' st → H' p = some (.lst (ns.map V.str)) → PoolOk ns → Q (.ref p) H'
/-- what list(..) of it gives -/
def SeqOf (H : Hp) (a : Addr) (xs : List V) : Prop := H a = some (.lst xs) ∨ ∃ kvs, H a = some (.dK kvs) ∧ xs = kvs.map fun kv => kV kv.1
def spTurned : Sp := fun vs H Q _ => ∃ (st a : Addr) (xs : List V), vs = [.ref st, .ref a] ∧ St1 H st ∧ SeqOf H a xs ∧ xs.length ≤ 1000 ∧ ∀ p ys H', H p = none → Kp [st] H H' → St1 H' st → H' p = some (.lst ys) → ys.Perm xs → Q (.ref p) H'
def ThingV (v : V) : Prop := (∃ n, v = .int n) ∨ ∃ s, v = .str s ∧ fineS s
def spThing : Sp := fun vs H Q _ => ∃ st, vs = [.ref st] ∧ St1 H st ∧ ∀ v H', ThingV v → Kp [st] H H' → St1 H' st → Q v H'
structure ThOk (ns : List Str) (th : List (Str × V)) : Prop where
  nd : (keys th).Nodup
  sub : ∀ k ∈ keys th, k ∈ ns.take 10
  len : th.length ≤ 7
  val : ∀ kv ∈ th, ThingV kv.2
def spThings : Sp := fun vs H Q _ => ∃ (st a : Addr) (ns : List Str), vs = [.ref st, .ref a] ∧ St1 H st ∧ H a = some (.lst (ns.map V.str)) ∧ PoolOk ns ∧
  ∀ p th H', H p = none → Kp [st] H H' → St1 H' st → H' p = some (.dK (dS th)) → ThOk ns th → Q (.ref p) H'
/-! ### plans -/
abbrev Pr := List (Str × Option Str)
def oV : Option Str → V
  | none => .non
  | some n => .str n
def encP (p : Str × Option Str) : D := .t [.v (.str p.1), .v (oV p.2)]
def encPs (prs : Pr) : D := .l (prs.map encP)
def news (prs : Pr) : List Str := prs.filterMap (·.2)
structure PlOk (prs : Pr) : Prop where
  ndo : (keys prs).Nodup
  ndn : (news prs).Nodup
  olds : ∀ o ∈ keys prs, isName o = true
  news : ∀ n ∈ news prs, isName n = true
  len : prs.length ≤ 40
structure PrOk (ns : List Str) (th : List (Str × V)) (prs : Pr) : Prop where
  ndo : (keys prs).Nodup
  ndn : (news prs).Nodup
  len : prs.length ≤ 7
  olds : ∀ o ∈ keys prs, o ∈ keys th
  news : ∀ n ∈ news prs, n ∈ ns.take 12 ∧ (n ∈ keys th → n ∈ keys prs)
def Live (S : List Addr) (H : Hp) : Prop := ∀ s ∈ S, H s ≠ none
theorem Live.fresh {S : List Addr} {H : Hp} {p : Addr} (l : Live S H) (h : H p = none) : p ∉ S := fun z => l p z h
theorem Live.kp {S S' : List Addr} {H H' : Hp} (l : Live S H) (k : Kp S' H H') (s : ∀ a ∈ S', H' a ≠ none) : Live S H' := fun a ha => by
  by_cases z : a ∈ S'
  · exact s a z
  · cases e : H a with
    | none => exact absurd e (l a ha)
    | some o => rw [k a o e z]; intro q; cases q
def spPairs : Sp := fun vs H Q _ => ∃ (st a b : Addr) (ns : List Str) (th : List (Str × V)) (S : List Addr), vs = [.ref st, .ref a, .ref b] ∧ St1 H st ∧ H a = some (.lst (ns.map V.str)) ∧ H b = some (.dK (dS th)) ∧ PoolOk ns ∧ ThOk ns th ∧ Live S H ∧ st ∈ S ∧
  ∀ x prs H', Kp [st] H H' → St1 H' st → At S H' x (encPs prs) → PrOk ns th prs → Q x H'
theorem PrOk.pl {ns : List Str} {th : List (Str × V)} {prs : Pr} (h : PrOk ns th prs) (hp : PoolOk ns) (ht : ThOk ns th) : PlOk prs :=
  ⟨h.ndo, h.ndn, fun o ho => hp.2.2 o (List.mem_of_mem_take (ht.sub o (h.olds o ho))), fun n hn => hp.2.2 n (List.mem_of_mem_take (h.news n hn).1), by have := h.len; omega⟩
def oldsD (prs : Pr) : List (Str × V) := prs.map fun p => (p.1, oV p.2)
def newsD (prs : Pr) : List (Str × V) := prs.filterMap fun p => p.2.map fun n => (n, V.str p.1)
theorem keys_oldsD (prs : Pr) : keys (oldsD prs) = keys prs := by simp [keys, oldsD]
theorem keys_newsD (prs : Pr) : keys (newsD prs) = news prs := by
  unfold keys newsD news
  rw [List.map_filterMap]
  congr 1
  funext p
  cases p.2 <;> rfl
theorem lk_oldsD (prs : Pr) (k : Str) : lk (oldsD prs) k = (lk prs k).map oV := by
  induction prs with
  | nil => rfl
  | cons p r ih =>
    show lk ((p.1, oV p.2) :: oldsD r) k = _
    rw [lk_cons, lk_cons, ih]
    by_cases e : p.1 = k <;> simp [e]
def byOlds (prs : Pr) : Pr := (srt (keys prs)).map fun o => (o, (lk prs o).getD none)
theorem keys_byOlds (prs : Pr) : keys (byOlds prs) = srt (keys prs) := by unfold keys byOlds; rw [List.map_map]; exact List.map_id _
def flds (a b : Addr) : List (Str × V) := [("by_olds", .ref a), ("by_news", .ref b)]
/-- a Plan of the class at C stands at p, none of its objects in S -/
structure PlanAt (S : List Addr) (C : Addr) (H : Hp) (p : Addr) (prs : Pr) : Prop where
  ex : ∃ a b dx, H p = some (.ins C dx (flds a b)) ∧ H a = some (.dK (dS (oldsD prs))) ∧ H b = some (.dK (dS (newsD prs))) ∧ p ∉ S ∧ a ∉ S ∧ b ∉ S
theorem PlanAt.kp {S S' : List Addr} {C p : Addr} {H H' : Hp} {prs : Pr} (h : PlanAt S C H p prs) (k : Kp S' H H') (s : ∀ a ∈ S', a ∈ S) : PlanAt S C H' p prs :=
  let ⟨a, b, dx, h1, h2, h3, n1, n2, n3⟩ := h.ex
  ⟨a, b, dx, k.at h1 fun z => n1 (s _ z), k.at h2 fun z => n2 (s _ z), k.at h3 fun z => n3 (s _ z), n1, n2, n3⟩
theorem PlanAt.ext {S : List Addr} {C p f : Addr} {H : Hp} {prs : Pr} (h : PlanAt S C H p prs) (hf : H f = none) : PlanAt (f :: S) C H p prs :=
  let ⟨a, b, dx, h1, h2, h3, n1, n2, n3⟩ := h.ex
  ⟨a, b, dx, h1, h2, h3, fun z => (List.mem_cons.mp z).elim (ne_of_none h1 hf) n1, fun z => (List.mem_cons.mp z).elim (ne_of_none h2 hf) n2, fun z => (List.mem_cons.mp z).elim (ne_of_none h3 hf) n3⟩
theorem PlanAt.sub {S S' : List Addr} {C p : Addr} {H : Hp} {prs : Pr} (h : PlanAt S C H p prs) (s : ∀ a ∈ S', a ∈ S) : PlanAt S' C H p prs :=
  let ⟨a, b, dx, h1, h2, h3, n1, n2, n3⟩ := h.ex
  ⟨a, b, dx, h1, h2, h3, fun z => n1 (s _ z), fun z => n2 (s _ z), fun z => n3 (s _ z)⟩
def spPlanInit (C : Addr) : Sp := fun vs H Q _ => ∃ (x dx : Addr) (y : V) (prs : Pr), vs = [.ref x, y] ∧ H x = some (.ins C dx []) ∧ At [x] H y (encPs prs) ∧ PlOk prs ∧
  ∀ a b H', Kp [x] H H' → H a = none → H b = none → H' x = some (.ins C dx (flds a b)) → H' a = some (.dK (dS (oldsD prs))) → H' b = some (.dK (dS (newsD prs))) → Q .non H'
def spPlanPairs (C : Addr) : Sp := fun vs H Q _ => ∃ (p : Addr) (prs : Pr), vs = [.ref p] ∧ PlanAt [] C H p prs ∧ PlOk prs ∧
  ∀ q ws H' , H q = none → Kp [] H H' → H' q = some (.lst ws) → (∀ S, Live S H → AtL (q :: S) H' ws ((byOlds prs).map encP)) → Q (.ref q) H'
def spPlanOlds (C : Addr) : Sp := fun vs H Q _ => ∃ (p : Addr) (prs : Pr), vs = [.ref p] ∧ PlanAt [] C H p prs ∧ PlOk prs ∧
  ∀ q H', H q = none → Kp [] H H' → H' q = some (.lst ((srt (keys prs)).map V.str)) → Q (.ref q) H'
def spPlanNews (C : Addr) : Sp := fun vs H Q _ => ∃ (p : Addr) (prs : Pr), vs = [.ref p] ∧ PlanAt [] C H p prs ∧ PlOk prs ∧
  ∀ q H', H q = none → Kp [] H H' → H' q = some (.lst ((srt (news prs)).map V.str)) → Q (.ref q) H'
def toV (prs : Pr) (n : Str) : V := ((lk prs n).map oV).getD (.str n)
def spPlanTo (C : Addr) : Sp := fun vs H Q _ => ∃ (p : Addr) (prs : Pr) (n : Str), vs = [.ref p, .str n] ∧ PlanAt [] C H p prs ∧ Q (toV prs n) H
/-- dict of pairs, rising by the old names -/
def spByOlds : Sp := fun vs H Q _ => ∃ (a : Addr) (prs : Pr), vs = [.ref a] ∧ At [] H (.ref a) (encPs prs) ∧ (keys prs).Nodup ∧ prs.length ≤ 40 ∧
  ∀ q ws H' , H q = none → Kp [] H H' → H' q = some (.lst ws) → (∀ S, Live S H → AtL (q :: S) H' ws ((byOlds prs).map encP)) → Q (.ref q) H'
/-! ### calls -/
section
variable {H : Hp} {Q : VK} {E : XK} {K : PySem.W.Frag}
theorem c_next {st : Addr} {n : Int} (h : St1 H st) (hn : 0 < n) (k : ∀ r H', 0 ≤ r → r < n → Kp [st] H H' → St1 H' st → Q (.int r) H') : spNext [.ref st, .int n] H Q E := ⟨st, n, rfl, h, hn, k⟩
theorem c_isName {z : Str} (hz : z.length ≤ 100000) (k : ∀ H', Kp [] H H' → Q (.bl (isName z)) H') : spIsName K [.str z] H Q E := ⟨_, rfl, .inr ⟨z, rfl, hz, k⟩⟩
theorem c_notName {x : V} (h : NotStr K H x) (k : Q (.bl false) H) : spIsName K [x] H Q E := ⟨_, rfl, .inl ⟨h, k⟩⟩
theorem c_state {c k : Int} (q : ∀ st H', H st = none → Kp [] H H' → St1 H' st → Q (.ref st) H') : spState [.int c, .int k] H Q E := ⟨c, k, rfl, q⟩
theorem St1.kp {H H' : Hp} {S : List Addr} {st : Addr} (h : St1 H st) (k : Kp S H H') (n : st ∉ S) : St1 H' st := let ⟨z, e⟩ := h; ⟨z, k.at e n⟩
theorem St1.upn {H : Hp} {p st : Addr} {o : HO} (h : St1 H st) (hp : H p = none) : St1 (upd H p o) st := h.kp (S := []) (Kp.new hp) (by simp)
theorem St1.ne {H : Hp} {p st : Addr} (h : St1 H st) (hp : H p = none) : p ≠ st := let ⟨_, e⟩ := h; (ne_of_none e hp).symm
theorem St1.live {H : Hp} {st : Addr} (h : St1 H st) : H st ≠ none := let ⟨_, e⟩ := h; by rw [e]; intro q; cases q
end
theorem script_int {ns : List Int} {i : Nat} {y : V} (hy : (ns.map V.int)[i]? = some y) : ∃ c, y = V.int c := by
  rw [List.getElem?_map] at hy
  cases e : ns[i]? with
  | none => rw [e] at hy; cases hy
  | some z => rw [e] at hy; exact ⟨z, (Option.some.inj hy).symm⟩
/-- law's: a list of at most 63 ints is handed in, True comes out -/
def spLaw (K : PySem.W.Frag) : Sp := fun vs H Q _ => ∃ (a : Addr) (ns : List Int), vs = [.ref a] ∧ SqL K H a (ns.map V.int) ∧ ns.length ≤ 63 ∧ ∀ H', Q (.bl true) H'
theorem ixN_lt {n : Nat} {i : Int} (h0 : 0 ≤ i) (h1 : i < n) : ixN n i = some i.toNat := by
  unfold ixN
  rw [if_pos h0, if_pos h1]
/-- the items of a list of texts -/
theorem str_at {ns : List Str} {i : Nat} {x : V} (h : (ns.map V.str)[i]? = some x) : ∃ n, ns[i]? = some n ∧ x = .str n := by
  rw [List.getElem?_map] at h
  cases e : ns[i]? with
  | none => rw [e] at h; cases h
  | some z => rw [e] at h; exact ⟨z, rfl, (Option.some.inj h).symm⟩
end NN
namespace NN
open PySem L2
/-! ### the pool of names -/
def letAt (i : Int) : Nat := letters.cps.toList.getD i.toNat 0
theorem letAt_at {i : Int} (h0 : 0 ≤ i) (h1 : i < 26) : atI letters.cps.toList i = some (letAt i) := by
  obtain ⟨v, hv, _, hw⟩ := at_lt (xs := letters.cps.toList) h0 (by rw [letters_len]; exact h1)
  rw [hv]; congr 1
  unfold letAt
  rw [List.getD_eq_getElem?_getD, hw]; rfl
theorem letAt_mem {i : Int} (h0 : 0 ≤ i) (h1 : i < 26) : letAt i ∈ letters.cps.toList := by
  obtain ⟨v, hv, hm, hw⟩ := at_lt (xs := letters.cps.toList) h0 (by rw [letters_len]; exact h1)
  unfold letAt
  rw [List.getD_eq_getElem?_getD, hw]; exact hm
theorem letAt_inj {i j : Int} (h0 : 0 ≤ i) (h1 : i < 26) (h2 : 0 ≤ j) (h3 : j < 26) (e : letAt i = letAt j) : i = j := by
  obtain ⟨v, _, _, hv⟩ := at_lt (xs := letters.cps.toList) h0 (by rw [letters_len]; exact h1)
  obtain ⟨w, _, _, hw⟩ := at_lt (xs := letters.cps.toList) h2 (by rw [letters_len]; exact h3)
  unfold letAt at e
  rw [List.getD_eq_getElem?_getD, List.getD_eq_getElem?_getD, hv, hw] at e
  have e : v = w := e
  subst e
  have := nd_ix letters_nd hv hw
  omega
theorem cut_to {z : Str} {i : Int} (h : 0 ≤ i) : cutS z none (some i) = tx (z.cps.toList.take i.toNat) := by
  refine str_ext ?_
  rw [tx_cps]
  show ((z.cps.toList.drop (HT.sIx z.length 0 none)).take (HT.sIx z.length z.length (some i) - HT.sIx z.length 0 none)) = _
  have h1 : HT.sIx z.length 0 none = 0 := rfl
  have h2 : HT.sIx z.length z.length (some i) = min i.toNat z.length := by show (if i < 0 then (i + (z.length : Int)).toNat else min i.toNat z.length) = _; rw [if_neg (by omega)]
  rw [h1, h2, List.drop_zero, Nat.sub_zero, len_T]
  rw [List.take_eq_take_iff]; omega
theorem cut_from {z : Str} {i : Int} (h : 0 ≤ i) : cutS z (some i) none = tx (z.cps.toList.drop i.toNat) := by
  refine str_ext ?_
  rw [tx_cps]
  show ((z.cps.toList.drop (HT.sIx z.length 0 (some i))).take (HT.sIx z.length z.length none - HT.sIx z.length 0 (some i))) = _
  have h1 : HT.sIx z.length z.length none = z.length := rfl
  have h2 : HT.sIx z.length 0 (some i) = min i.toNat z.length := by show (if i < 0 then (i + (z.length : Int)).toNat else min i.toNat z.length) = _; rw [if_neg (by omega)]
  rw [h1, h2, len_T]
  by_cases hi : i.toNat ≤ z.cps.toList.length
  · rw [Nat.min_eq_left hi, List.take_of_length_le (by rw [List.length_drop]; omega)]
  · rw [Nat.min_eq_right (by omega), List.drop_eq_nil_of_le (Nat.le_refl _), List.drop_eq_nil_of_le (by omega)]; simp
def poolA (bs : List Nat) (s : Int) (k : Nat) : Str := tx (letAt ((s + 5 * (k : Int)) % 26) :: bs.take (((k : Int) + s) % 4).toNat)
def poolB (bs : List Nat) (p s : Int) (k : Nat) : Str := tx (bs.take p.toNat ++ letAt ((s + 7 * (k : Int)) % 26) :: bs.drop p.toNat)
theorem poolA_ok {bs : List Nat} {s : Int} (hb : ∀ c ∈ bs, c ∈ letters.cps.toList) (hl : bs.length ≤ 7) (h0 : 0 ≤ s) : PoolOk ((List.range 14).map (poolA bs s)) := by
  refine ⟨by simp, ?_, ?_⟩
  · refine List.pairwise_map.mpr ((List.nodup_range (n := 14)).imp_of_mem fun {a b} ha hb' hab e => hab ?_)
    have e1 := congrArg (fun z : Str => z.cps.toList.head?) e
    simp only [poolA, tx_cps, List.head?_cons, Option.some.injEq] at e1
    have := letAt_inj (Int.emod_nonneg _ (by decide)) (Int.emod_lt_of_pos _ (by decide)) (Int.emod_nonneg _ (by decide)) (Int.emod_lt_of_pos _ (by decide)) e1
    rw [List.mem_range] at ha hb'
    omega
  · intro n hn
    obtain ⟨k, _, rfl⟩ := List.mem_map.mp hn
    refine isName_iff.mpr ⟨?_, ?_, ?_⟩
    · unfold poolA; rw [tx_len]; simp
    · unfold poolA; rw [tx_len, List.length_cons, List.length_take]; omega
    · intro c hc
      unfold poolA at hc
      rw [tx_cps] at hc
      rcases List.mem_cons.mp hc with e | hc
      · rw [e]; exact letAt_mem (Int.emod_nonneg _ (by decide)) (Int.emod_lt_of_pos _ (by decide))
      · exact hb c (List.mem_of_mem_take hc)
theorem poolB_ok {bs : List Nat} {p s : Int} (hb : ∀ c ∈ bs, c ∈ letters.cps.toList) (hl : bs.length ≤ 7) (h0 : 0 ≤ s) (h1 : 0 ≤ p) (h2 : p ≤ bs.length) : PoolOk ((List.range 14).map (poolB bs p s)) := by
  refine ⟨by simp, ?_, ?_⟩
  · refine List.pairwise_map.mpr ((List.nodup_range (n := 14)).imp_of_mem fun {a b} ha hb' hab e => hab ?_)
    have e1 := congrArg (fun z : Str => z.cps.toList) e
    simp only [poolB, tx_cps] at e1
    have e2 := (List.append_inj e1 rfl).2
    have e3 := (List.cons.inj e2).1
    have := letAt_inj (Int.emod_nonneg _ (by decide)) (Int.emod_lt_of_pos _ (by decide)) (Int.emod_nonneg _ (by decide)) (Int.emod_lt_of_pos _ (by decide)) e3
    rw [List.mem_range] at ha hb'
    omega
  · intro n hn
    obtain ⟨k, _, rfl⟩ := List.mem_map.mp hn
    refine isName_iff.mpr ⟨?_, ?_, ?_⟩
    · unfold poolB; rw [tx_len]; simp; omega
    · unfold poolB; rw [tx_len, List.length_append, List.length_cons, List.length_take, List.length_drop]; omega
    · intro c hc
      unfold poolB at hc
      rw [tx_cps] at hc
      rcases List.mem_append.mp hc with hc | hc
      · exact hb c (List.mem_of_mem_take hc)
      · rcases List.mem_cons.mp hc with e | hc
        · rw [e]; exact letAt_mem (Int.emod_nonneg _ (by decide)) (Int.emod_lt_of_pos _ (by decide))
        · exact hb c (List.mem_of_mem_drop hc)
/-! ### comprehensions -/
section
variable {J : It} {n : Nat} {G : Hp → Prop} {Y : Nat → Hp → V → Hp → Prop} {σ : St} {g : TG} {Q : VK}
/-- what a turn of a comprehension is to reach -/
def LA (st : List Addr) (H1 : Hp) (D : Addr) (Pv : Nat → List V → Hp → Prop) (i : Nat) (y : V) (H4 : Hp) : Prop := ∃ acc, H4 D = some (.lst acc) ∧ acc.length < sizeLine ∧ LI st H1 D Pv (i + 1) (upd H4 D (.lst (acc ++ [y])))
/-- the items one by one, the list so far told by their number alone -/
theorem lc_fn (w : Walk J n G Y) (f : Nat → V) (S : List Addr) {tt : TT} {te : TE} {vs : List Nat} {H1 : Hp} {D : Addr} (hD : H1 D = none) (hn : n ≤ 100000) (hG : ∀ H, Kp (D :: S) H1 H → G H)
    (hs : ∀ i x H H', i < n → H D = some (.lst ((List.range i).map f)) → Kp (D :: S) H1 H → Y i H x H' → g x (wipe σ vs) H' fun σ2 H2 => wipe σ2 vs = wipe σ vs ∧ tt σ2 H2 fun b H3 =>
      if b = true then te σ2 H3 fun y H4 => ∃ acc, H4 D = some (.lst acc) ∧ acc.length < sizeLine ∧ LI S H1 D (fun i acc _ => acc = (List.range i).map f) (i + 1) (upd H4 D (.lst (acc ++ [y]))) else LI S H1 D (fun i acc _ => acc = (List.range i).map f) (i + 1) H3)
    (hd : ∀ H, H D = some (.lst ((List.range n).map f)) → Kp S H1 H → Q (.ref D) H) : LcG J g tt te vs σ H1 D Q := by
  refine lc_kp w S (fun i acc _ => acc = (List.range i).map f) hD rfl (fun i acc H _ k _ => hG H k) (fun i x H H' acc hi hacc hl k p y => ?_) (fun H acc h k p => hd H (p ▸ h) k)
  subst p
  exact hs i x H H' hi hacc k y
theorem lc_fn_add {f : Nat → V} {S : List Addr} {H1 H4 : Hp} {D : Addr} {i : Nat} {y : V} (h : H4 D = some (.lst ((List.range i).map f))) (hi : i < 100000) (k : Kp (D :: S) H1 H4) (e : y = f i) :
    ∃ acc, H4 D = some (.lst acc) ∧ acc.length < sizeLine ∧ LI S H1 D (fun i acc _ => acc = (List.range i).map f) (i + 1) (upd H4 D (.lst (acc ++ [y]))) :=
  lc_add h (by simp) hi k (by rw [e, List.range_succ, List.map_append]; rfl)
end
end NN
namespace NN
open PySem L2
/-! ### data that may be compared -/
def fineD (d : D) : Prop := ∃ p, d.py = some p ∧ p.canLay0 = true ∧ p.depth ≤ 30
def FineV (S : List Addr) (H : Hp) (x : V) : Prop := ∃ d, At S H x d ∧ fineD d
theorem FineV.kp {S S' : List Addr} {H H' : Hp} {x : V} (h : FineV S H x) (k : Kp S' H H') (s : ∀ a ∈ S', a ∈ S) : FineV S H' x := let ⟨d, a, f⟩ := h; ⟨d, a.kp k s, f⟩
theorem FineV.sub {S S' : List Addr} {H : Hp} {x : V} (h : FineV S H x) (s : ∀ a ∈ S', a ∈ S) : FineV S' H x := let ⟨d, a, f⟩ := h; ⟨d, a.sub s, f⟩
theorem FineV.ext {S : List Addr} {H : Hp} {x : V} {f : Addr} (h : FineV S H x) (hf : H f = none) : FineV (f :: S) H x := let ⟨d, a, q⟩ := h; ⟨d, a.ext hf, q⟩
theorem FineV.str {S : List Addr} {H : Hp} {s : Str} (h : fineS s) : FineV S H (.str s) := ⟨_, .v _, _, rfl, h, Nat.zero_le _⟩
theorem fine_oV {o : Option Str} (h : ∀ n, o = some n → fineS n) : fineD (.v (oV o)) := by
  cases o with
  | none => exact ⟨_, rfl, rfl, Nat.zero_le _⟩
  | some n => exact ⟨_, rfl, h n rfl, Nat.zero_le _⟩
theorem fine_encP {p : Str × Option Str} (h1 : fineS p.1) (h2 : ∀ n, p.2 = some n → fineS n) : fineD (encP p) := by
  obtain ⟨q, e, c, dq⟩ := fine_oV h2
  refine ⟨.tuple [.str p.1, q], ?_, ?_, ?_⟩
  · show (D.pys [.v (.str p.1), .v (oV p.2)]).map PyData.tuple = _
    show (((D.v (.str p.1)).py).bind fun p' => (((D.v (oV p.2)).py).bind fun q' => some (q' :: [])).map (p' :: ·)).map PyData.tuple = _
    rw [e]; rfl
  · show (PyData.strOk p.1 && (q.canLay0 && true)) = true
    rw [show PyData.strOk p.1 = true from h1, c]; rfl
  · show max (PyData.depth (.str p.1)) (max q.depth 0) + 1 ≤ 30
    have : q.depth = 0 := by
      cases h : p.2 <;> rw [h] at e <;> (cases e; rfl)
    rw [this]; exact (by decide : 0 + 1 ≤ 30)
theorem dp_fine {K : PySem.W.Frag} {S : List Addr} {H : Hp} : ∀ {vs : List V}, (∀ x ∈ vs, FineV S H x) → ∃ ps, DpAll K H vs ps ∧ PyData.canLayAll0 ps = true ∧ PyData.depthAll ps ≤ 30 ∧ ps.length = vs.length
  | [], _ => ⟨[], .nil, rfl, Nat.zero_le _, rfl⟩
  | x :: r, h => by
    obtain ⟨d, a, p, e, c, dd⟩ := h x (List.mem_cons_self ..)
    obtain ⟨ps, h1, h2, h3, h4⟩ := dp_fine (K := K) fun y hy => h y (List.mem_cons_of_mem _ hy)
    refine ⟨p :: ps, .cons (a.dp e) h1, ?_, ?_, ?_⟩
    · show (p.canLay0 && PyData.canLayAll0 ps) = true
      rw [c, h2]; rfl
    · show max p.depth (PyData.depthAll ps) ≤ 30
      omega
    · rw [List.length_cons, List.length_cons, h4]
theorem shaped_list {ps : List PyData} (h1 : PyData.canLayAll0 ps = true) (h2 : PyData.depthAll ps ≤ 60) : SeqAt.shaped (.list ps) = true := by
  unfold SeqAt.shaped
  rw [show PyData.canLay0 (.list ps) = true from h1, Bool.true_and]
  exact decide_eq_true (by show PyData.depthAll ps + 1 ≤ 64; omega)
section
variable {K : PySem.W.Frag} {H : Hp} {Q : VK} {a b : Addr} {xs : List V} {S : List Addr}
theorem g_neNilV (ha : H a = some (.lst xs)) (hb : H b = some (.lst [])) (f : ∀ x ∈ xs, FineV S H x) (q : Q (.bl (!xs.isEmpty)) H) : rNeU K (.ref a) (.ref b) H Q := by
  obtain ⟨ps, h1, h2, h3, h4⟩ := dp_fine (K := K) f
  refine g_neD (.lst (SqL.of ha) h1) (.lst (SqL.of hb) .nil) (shaped_list h2 (by omega)) (shaped_list rfl (Nat.zero_le _)) ?_
  have : PyData.eqv (.list ps) (.list []) = xs.isEmpty := by
    rw [PyData.eqv]
    cases xs with
    | nil => cases ps with
      | nil => rfl
      | cons p r => cases h4
    | cons x r => cases ps with
      | nil => cases h4
      | cons p r => rfl
  rw [this]; exact q
theorem g_eqAt {x y : V} {d : D} {S' : List Addr} (h1 : At S H x d) (h2 : At S' H y d) (f : fineD d) (q : Q (.bl true) H) : rEqU K x y H Q := by
  obtain ⟨p, e, c, dd⟩ := f
  have hs : SeqAt.shaped p = true := by
    unfold SeqAt.shaped
    rw [c, Bool.true_and]
    exact decide_eq_true (by omega)
  refine g_eqD (h1.dp e) (h2.dp e) hs hs ?_
  rw [SeqAt.eqv_refl p c]
  exact q
theorem g_neAt {x y : V} {d : D} {S' : List Addr} (h1 : At S H x d) (h2 : At S' H y d) (f : fineD d) (q : Q (.bl false) H) : rNeU K x y H Q := by
  obtain ⟨p, e, c, dd⟩ := f
  have hs : SeqAt.shaped p = true := by
    unfold SeqAt.shaped
    rw [c, Bool.true_and]
    exact decide_eq_true (by omega)
  refine g_neD (h1.dp e) (h2.dp e) hs hs ?_
  rw [SeqAt.eqv_refl p c]
  exact q
theorem g_popAt {i : Int} {y : V} (h : H a = some (.lst xs)) (h0 : 0 ≤ i) (h1 : i < xs.length) (hl : xs.length ≤ 100000) (hy : xs[i.toNat]? = some y) (q : Q y (upd H a (.lst (xs.eraseIdx i.toNat)))) : rPopAt (.ref a) [.int i] H Q := by
  refine ⟨a, xs, i, i.toNat, y, rfl, rfl, h, by omega, by omega, ?_, hy, q⟩
  unfold seqIndex?
  have h2 : ¬ i < 0 := by omega
  simp only [if_neg h2]
  rw [if_pos]
  simp only [Bool.and_eq_true, decide_eq_true_eq]
  exact ⟨h0, h1⟩
theorem g_pop {y : V} (h : H a = some (.lst xs)) (hy : xs[xs.length - 1]? = some y) (q : Q y (upd H a (.lst xs.dropLast))) : rPop (.ref a) [] H Q := ⟨a, xs, y, rfl, rfl, h, hy, q⟩
theorem g_while {c : TT} {tb : TS} {D : Ends} {σ : St} (W : Nat → St → Hp → Prop) (m : Nat) (w0 : W m σ H) (hs : ∀ m σ H, W m σ H →
  c σ H fun b H1 => if b = true then ∃ N : St → Hp → Prop, (∀ σ' H', N σ' H' → ∃ m', m' < m ∧ W m' σ' H') ∧ tb { D with nx := N, ct := N, bk := D.nx } σ H1 else D.nx σ H1) : tWhile c tb D σ H := ⟨W, ⟨m, w0⟩, hs⟩
theorem g_turn {N : (St → Hp → Prop) → Prop} {W : Nat → St → Hp → Prop} {m : Nat} (q : N fun σ' H' => ∃ m', m' < m ∧ W m' σ' H') : ∃ M : St → Hp → Prop, (∀ σ' H', M σ' H' → ∃ m', m' < m ∧ W m' σ' H') ∧ N M := ⟨_, fun _ _ h => h, q⟩
theorem g_listSeq {xs : List V} (h : SeqOf H a xs) (q : ∀ l, H l = none → Q (.ref l) (upd H l (.lst xs))) : rListU K [.ref a] H Q := by
  rcases h with h | ⟨kvs, h, rfl⟩
  · exact g_listL h q
  · exact g_listD h q
end
theorem SeqOf.kp {S : List Addr} {H H' : Hp} {a : Addr} {xs : List V} (h : SeqOf H a xs) (k : Kp S H H') (n : a ∉ S) : SeqOf H' a xs := by
  rcases h with h | ⟨kvs, h, e⟩
  · exact .inl (k.at h n)
  · exact .inr ⟨kvs, k.at h n, e⟩
def spTurnedV : Sp := fun vs H Q _ => ∃ (st a : Addr) (xs : List V), vs = [.ref st, .ref a] ∧ St1 H st ∧ SeqOf H a xs ∧ xs.length ≤ 1000 ∧ (∀ x ∈ xs, FineV [st] H x) ∧
  ∀ p ys H', H p = none → Kp [st] H H' → St1 H' st → H' p = some (.lst ys) → ys.Perm xs → Q (.ref p) H'
theorem perm_erase {xs : List V} {i : Nat} {y : V} (h : xs[i]? = some y) : (y :: xs.eraseIdx i).Perm xs := by
  obtain ⟨hi, e⟩ := List.getElem?_eq_some_iff.mp h
  have h1 : xs = xs.take i ++ y :: xs.drop (i + 1) := by
    conv => lhs; rw [← List.take_append_drop i xs]
    rw [List.drop_eq_getElem_cons hi, e]
  rw [List.eraseIdx_eq_take_drop_succ]
  conv => rhs; rw [h1]
  exact List.perm_middle.symm
end NN
namespace NN
open PySem L2
/-! ### a dict that is walked; new data -/
theorem g_lock {t : TS} {D : Ends} {σ : St} {H : Hp} {d : Addr} {u : HO} (h : H d = some u) (m : Mut (some u)) (q : ∀ od, t ⟨fun σ' H' => H' d = some (.frz od u) ∧ D.nx σ' (upd H' d u), fun v H' => H' d = some (.frz od u) ∧ D.rt v (upd H' d u), fun σ' H' => H' d = some (.frz od u) ∧ D.bk σ' (upd H' d u), fun σ' H' => H' d = some (.frz od u) ∧ D.ct σ' (upd H' d u)⟩ σ (upd H d (.frz od u))) : tLock t D σ H := ⟨d, u, h, m, q⟩
theorem g_lockE {t : TE} {σ : St} {H : Hp} {Q : VK} {d : Addr} {u : HO} (h : H d = some u) (m : Mut (some u)) (q : ∀ od, t σ (upd H d (.frz od u)) fun v H' => H' d = some (.frz od u) ∧ Q v (upd H' d u)) : tLockE t σ H Q := ⟨d, u, h, m, q⟩
theorem Kp.lock {S : List Addr} {H H' : Hp} {d : Addr} {u : HO} {o : Obj} (k : Kp S (L2.upd H d (.frz o u)) H') (h : H d = some u) : Kp S H (L2.upd H' d u) := fun a z e n => by
  by_cases c : a = d
  · subst c; rw [h] at e; cases e; exact upd_same
  · rw [upd_ne c]; exact k a z (by rw [upd_ne c]; exact e) n
theorem AtL.mem {S : List Addr} {H : Hp} : ∀ {vs : List V} {ds : List D}, AtL S H vs ds → ∀ x ∈ vs, ∃ d ∈ ds, At S H x d
  | _, _, .nil, _, h => by cases h
  | _, _, .cons a r, x, h => by
    rcases List.mem_cons.mp h with e | h
    · rw [e]; exact ⟨_, List.mem_cons_self .., a⟩
    · obtain ⟨d, hd, q⟩ := AtL.mem r x h; exact ⟨d, List.mem_cons_of_mem _ hd, q⟩
theorem At.newT {S : List Addr} {H : Hp} {p : Addr} {vs : List V} {ds : List D} (hp : H p = none) (l : Live S H) (a : AtL S H vs ds) : At S (upd H p (.tup vs)) (.ref p) (.t ds) := .t (l.fresh hp) upd_same (a.kp (Kp.new (S := []) hp) (by simp))
theorem At.newL {S : List Addr} {H : Hp} {p : Addr} {vs : List V} {ds : List D} (hp : H p = none) (l : Live S H) (a : AtL S H vs ds) : At S (upd H p (.lst vs)) (.ref p) (.l ds) := .l (l.fresh hp) upd_same (a.kp (Kp.new (S := []) hp) (by simp))
theorem AtL.two {S : List Addr} {H : Hp} (x y : V) : AtL S H [x, y] [.v x, .v y] := .cons (.v x) (.cons (.v y) .nil)
theorem AtL.snoc {S : List Addr} {H : Hp} {vs : List V} {ds : List D} {x : V} {d : D} (a : AtL S H vs ds) (b : At S H x d) : AtL S H (vs ++ [x]) (ds ++ [d]) := a.append (.cons b .nil)
theorem Live.upn {S : List Addr} {H : Hp} {p : Addr} {o : HO} (l : Live S H) : Live S (upd H p o) := fun s hs => by
  by_cases c : s = p
  · rw [c, upd_same]; intro q; cases q
  · rw [upd_ne c]; exact l s hs
theorem Live.cons {S : List Addr} {H : Hp} {p : Addr} (l : Live S H) (h : H p ≠ none) : Live (p :: S) H := fun s hs => (List.mem_cons.mp hs).elim (fun e => e ▸ h) (l s)
theorem live1 {H : Hp} {st : Addr} (h : St1 H st) : Live [st] H := fun s hs => by rw [List.mem_singleton.mp hs]; exact h.live
theorem ne_some {H : Hp} {a : Addr} {o : HO} (h : H a = some o) : H a ≠ none := by rw [h]; intro q; cases q
def encK (kv : Str × V) : D := .t [.v (.str kv.1), .v kv.2]
theorem paired_K {K : PySem.W.Frag} {S : List Addr} {H : Hp} : ∀ {vs : List V} {th : List (Str × V)}, AtL S H vs (th.map encK) → ∃ ps : List Addr, vs = ps.map V.ref ∧ Paired (fun p kv => SqT K H p [kV kv.1, kv.2]) ps (dS th)
  | [], [], _ => ⟨[], rfl, .nil⟩
  | [], _ :: _, h => by cases h
  | _ :: _, [], h => by cases h
  | x :: r, kv :: th, h => by
    cases h with
    | cons h1 h2 =>
      obtain ⟨a, vs, rfl, _, e, hv⟩ := h1.isT
      obtain ⟨ps, rfl, q⟩ := paired_K (K := K) h2
      have hv' : vs = [.str kv.1, kv.2] := AtL.vals_eq (ws := [.str kv.1, kv.2]) hv
      subst hv'
      exact ⟨a :: ps, rfl, .cons (SqT.of e) q⟩
theorem g_dictP {K : PySem.W.Frag} {S : List Addr} {H : Hp} {Q : VK} {a : Addr} {vs : List V} {th : List (Str × V)} (h : H a = some (.lst vs)) (hv : AtL S H vs (th.map encK)) (nd : (keys th).Nodup) (q : ∀ p, H p = none → Q (.ref p) (upd H p (.dK (dS th)))) : rDictU K [.ref a] H Q := by
  obtain ⟨ps, rfl, pr⟩ := paired_K (K := K) hv
  refine .inl ⟨a, ps, dS th, rfl, SqL.of h, pr, fun p hp => ?_⟩
  rw [merge_dS0 nd]
  exact q p hp
theorem encP_K (p : Str × Option Str) : encP p = encK (p.1, oV p.2) := rfl
theorem encPs_K (prs : Pr) : prs.map encP = (oldsD prs).map encK := by unfold oldsD; rw [List.map_map]; rfl
/-- a slice of a list from its start -/
theorem cutV_to {xs : List V} {i : Int} (h : 0 ≤ i) : cutV xs none (some i) = xs.take i.toNat := by
  unfold cutV
  have h1 : HT.sIx xs.length 0 none = 0 := rfl
  have h2 : HT.sIx xs.length xs.length (some i) = min i.toNat xs.length := by show (if i < 0 then (i + (xs.length : Int)).toNat else min i.toNat xs.length) = _; rw [if_neg (by omega)]
  rw [h1, h2, List.drop_zero, Nat.sub_zero, List.take_eq_take_iff]; omega
theorem cutV_from {xs : List V} {i : Int} (h : 0 ≤ i) : cutV xs (some i) none = xs.drop i.toNat := by
  unfold cutV
  have h1 : HT.sIx xs.length xs.length none = xs.length := rfl
  have h2 : HT.sIx xs.length 0 (some i) = min i.toNat xs.length := by show (if i < 0 then (i + (xs.length : Int)).toNat else min i.toNat xs.length) = _; rw [if_neg (by omega)]
  rw [h1, h2]
  by_cases hi : i.toNat ≤ xs.length
  · rw [Nat.min_eq_left hi, List.take_of_length_le (by rw [List.length_drop]; omega)]
  · rw [Nat.min_eq_right (by omega), List.drop_eq_nil_of_le (Nat.le_refl _), List.drop_eq_nil_of_le (by omega)]; simp
theorem inV_strs (k : Str) (ns : List Str) : inV (.str k) (ns.map V.str) = decide (k ∈ ns) := by
  unfold inV
  rw [List.any_map]
  induction ns with
  | nil => rfl
  | cons n r ih =>
    rw [List.any_cons, ih]
    show (n == k || decide (k ∈ r)) = decide (k ∈ n :: r)
    by_cases e : n = k
    · subst e; simp
    · have : k ≠ n := fun z => e z.symm
      simp [e, this]
theorem flat_strs (ns : List Str) : (ns.map V.str).all flatV = true := by rw [List.all_map]; exact List.all_eq_true.mpr fun _ _ => rfl
theorem perm_strs {ys : List V} {ns : List Str} (h : ys.Perm (ns.map V.str)) : ∃ nm : List Str, ys = nm.map V.str ∧ nm.Perm ns := by
  obtain ⟨nm, rfl⟩ : ∃ nm : List Str, ys = nm.map V.str := by
    have : ∀ y ∈ ys, ∃ n, y = V.str n := fun y hy => by
      obtain ⟨n, _, e⟩ := List.mem_map.mp (h.subset hy)
      exact ⟨n, e.symm⟩
    clear h
    induction ys with
    | nil => exact ⟨[], rfl⟩
    | cons y r ih =>
      obtain ⟨n, e⟩ := this y (List.mem_cons_self ..)
      obtain ⟨r', e'⟩ := ih fun z hz => this z (List.mem_cons_of_mem _ hz)
      exact ⟨n :: r', by rw [e, e']; rfl⟩
  refine ⟨nm, rfl, ?_⟩
  have := h.map (fun v => match v with | V.str n => n | _ => letters)
  simpa [List.map_map, Function.comp_def] using this
theorem pairs_ok {ns ms mv so so2 : List Str} {th : List (Str × V)} {prs : Pr} (hprs : mv.zip (so2.reverse.map some) = prs) (h1 : mv.Perm ms) (h2 : so2.Perm so) (hms : ms.Sublist (keys th)) (ht : ThOk ns th) (hso1 : so.Nodup)
    (hso2 : ∀ n ∈ so, n ∈ ns.take 12 ∧ (n ∈ keys th → n ∈ ms)) (hso3 : ms.length ≤ so.length) (hms3 : ms.length ≤ 7) : PrOk ns th prs := by
  have l1 := h1.length_eq
  have l2 := h2.length_eq
  have hk : keys prs = mv := by
    rw [← hprs]; unfold keys
    exact List.map_fst_zip (by rw [List.length_map, List.length_reverse]; omega)
  have hn : news prs = so2.reverse.take mv.length := by
    rw [← hprs]; unfold news
    have e : ∀ (a : List Str) (b : List Str), (a.zip (b.map some)).filterMap (·.2) = b.take a.length := by
      intro a
      induction a with
      | nil => intro b; simp
      | cons x r ih =>
        intro b
        cases b with
        | nil => rfl
        | cons y t => show (y :: ((r.zip (t.map some)).filterMap (·.2))) = y :: t.take r.length; rw [ih]
    exact e mv so2.reverse
  refine ⟨?_, ?_, ?_, ?_, ?_⟩
  · rw [hk]; exact h1.nodup_iff.mpr (ht.nd.sublist hms)
  · rw [hn]; exact (((List.reverse_perm so2).nodup_iff.mpr (h2.nodup_iff.mpr hso1))).sublist (List.take_sublist ..)
  · have : prs.length = (keys prs).length := by simp [keys]
    rw [this, hk]; omega
  · intro o ho; rw [hk] at ho; exact hms.subset (h1.subset ho)
  · intro n hnn
    rw [hn] at hnn
    have := hso2 n (h2.subset (List.mem_reverse.mp (List.mem_of_mem_take hnn)))
    exact ⟨this.1, fun z => by rw [hk]; exact h1.symm.subset (this.2 z)⟩
theorem g_sortedD {K : PySem.W.Frag} {H : Hp} {Q : VK} {a : Addr} {th : List (Str × V)} (h : H a = some (.dK (dS th))) (hl : (keys th).length < 64) (q : ∀ p, H p = none → Q (.ref p) (upd H p (.lst ((srt (keys th)).map V.str)))) : rSortedU K [.ref a] H Q :=
  .inr ⟨a, dS th, keys th, rfl, .inl h, dS_keys th, hl, fun ys p hp hs hn => by rw [srt_of hp hs]; exact q p hn⟩
theorem g_sortedS {K : PySem.W.Frag} {H : Hp} {Q : VK} {a : Addr} {xs : List Str} (h : H a = some (.lst (xs.map V.str))) (hl : xs.length < 64) (q : ∀ p, H p = none → Q (.ref p) (upd H p (.lst ((srt xs).map V.str)))) : rSortedU K [.ref a] H Q :=
  .inl ⟨a, xs, rfl, SqL.of h, hl, fun ys p hp hs hn => by rw [srt_of hp hs]; exact q p hn⟩
theorem g_fA {K : PySem.W.Frag} {H : Hp} {a C dx : Addr} {fs : List (Str × V)} {f : Str} {v : V} {R : V → Prop} (h : H a = some (.ins C dx fs)) (c : Cls K C) (n : NoAttr K C f) (l : fs.lookup f = some v) (q : R v) :
    ∃ a' C' dx fs v, V.ref a = .ref a' ∧ H a' = some (.ins C' dx fs) ∧ Cls K C' ∧ NoAttr K C' f ∧ fs.lookup f = some v ∧ R v := ⟨a, C, dx, fs, v, rfl, h, c, n, l, q⟩
theorem flds_no {a b : Addr} {m : Str} (h1 : m ≠ "by_olds") (h2 : m ≠ "by_news") : (flds a b).lookup m = none := by
  unfold flds
  have e1 : (m == ("by_olds" : Str)) = false := by simpa using h1
  have e2 : (m == ("by_news" : Str)) = false := by simpa using h2
  simp [List.lookup, e1, e2]
/-- some new names put away -/
def cutN (prs : Pr) (bs : List Bool) : Pr := (prs.zip bs).map fun q => (q.1.1, if q.2 = true then none else q.1.2)
theorem cutN_snoc {prs : Pr} {bs : List Bool} {p : Str × Option Str} {b : Bool} (h : prs.length = bs.length) : cutN (prs ++ [p]) (bs ++ [b]) = cutN prs bs ++ [(p.1, if b = true then none else p.2)] := by
  unfold cutN
  rw [List.zip_append h, List.map_append]; rfl
theorem cutN_keys : ∀ {prs : Pr} {bs : List Bool}, prs.length = bs.length → keys (cutN prs bs) = keys prs
  | [], _, _ => rfl
  | p :: r, [], h => by cases h
  | p :: r, b :: bs, h => by
    show p.1 :: keys (cutN r bs) = p.1 :: keys r
    rw [cutN_keys (by simpa using h)]
theorem cutN_news : ∀ {prs : Pr} {bs : List Bool}, (news (cutN prs bs)).Sublist (news prs)
  | [], _ => List.Sublist.refl _
  | p :: r, [] => List.nil_sublist _
  | (o, n) :: r, b :: bs => by
    have ih := cutN_news (prs := r) (bs := bs)
    have e : cutN ((o, n) :: r) (b :: bs) = (o, if b = true then none else n) :: cutN r bs := rfl
    rw [e]
    cases n with
    | none => cases b <;> exact ih
    | some n => cases b with
      | true => exact ih.cons n
      | false => exact ih.cons₂ n
theorem cutN_ok {ns : List Str} {th : List (Str × V)} {prs : Pr} {bs : List Bool} (h : prs.length = bs.length) (k : PrOk ns th prs) : PrOk ns th (cutN prs bs) := by
  refine ⟨by rw [cutN_keys h]; exact k.ndo, k.ndn.sublist cutN_news, ?_, by rw [cutN_keys h]; exact k.olds, fun n hn => by rw [cutN_keys h]; exact k.news n (cutN_news.subset hn)⟩
  have e1 : (cutN prs bs).length = (keys (cutN prs bs)).length := by simp [keys]
  have e2 : prs.length = (keys prs).length := by simp [keys]
  rw [e1, cutN_keys h, ← e2]; exact k.len
theorem DGet.s {H : Hp} {a : Addr} {th : List (Str × V)} (k : Str) (h : H a = some (.dK (dS th))) : DGet H a (.str k) (lk th k) := by rw [← valV_dS]; exact DGet.k (k := .inr k) h
theorem lk_isSome {α : Type} (th : List (Str × α)) (k : Str) : (lk th k).isSome = decide (k ∈ keys th) := by
  by_cases h : k ∈ keys th
  · obtain ⟨v, hv⟩ := lk_of_key h; simp [hv, h]
  · simp [lk_none.mpr h, h]
end NN
namespace NN
open PySem L2
/-! ### data that are alike -/
def okV (x : V) : Prop := x = .non ∨ (∃ b, x = .bl b) ∨ (∃ i, x = .int i) ∨ ∃ s, x = .str s ∧ fineS s
/-- data of a depth of n at most: texts, numbers, truths, None; lists and tuples of them; dicts of such values by texts -/
inductive okD : Nat → D → Prop
  | v {n : Nat} {x : V} : okV x → okD n (.v x)
  | l {n : Nat} {ds : List D} : ds.length ≤ 1000 → (∀ d ∈ ds, okD n d) → okD (n + 1) (.l ds)
  | t {n : Nat} {ds : List D} : ds.length ≤ 1000 → (∀ d ∈ ds, okD n d) → okD (n + 1) (.t ds)
  | d {n : Nat} {ks : List Str} {ws : List V} : ks.length = ws.length → ks.length ≤ 1000 → ks.Nodup → (∀ k ∈ ks, fineS k) → (∀ w ∈ ws, okV w) → okD (n + 1) (.d ks (ws.map D.v))
def spAlike (n : Nat) : Sp := fun vs H Q _ => ∃ (x y : V) (d : D), vs = [x, y] ∧ At [] H x d ∧ At [] H y d ∧ okD n d ∧ ∀ H', Kp [] H H' → Q (.bl true) H'
theorem ok_oV {o : Option Str} (h : ∀ n, o = some n → fineS n) : okV (oV o) := by
  cases o with
  | none => exact .inl rfl
  | some n => exact .inr (.inr (.inr ⟨n, rfl, h n rfl⟩))
theorem ok_encP {p : Str × Option Str} {n : Nat} (h1 : fineS p.1) (h2 : ∀ n, p.2 = some n → fineS n) : okD (n + 1) (encP p) := .t (by simp) fun d hd => by
  simp only [List.mem_cons, List.not_mem_nil, or_false] at hd
  rcases hd with rfl | rfl
  · exact .v (.inr (.inr (.inr ⟨_, rfl, h1⟩)))
  · exact .v (ok_oV h2)
theorem zipK_keys {ks : List Str} {vs : List V} (h : ks.length = vs.length) : (zipK ks vs).map (fun kv => kV kv.1) = ks.map V.str := by
  unfold zipK
  rw [List.map_map]
  show ((ks.zip vs).map fun p => V.str p.1) = _
  rw [show (ks.zip vs).map (fun p => V.str p.1) = ((ks.zip vs).map Prod.fst).map V.str by rw [List.map_map]; rfl, List.map_fst_zip (by omega)]
theorem zipK_dS (ks : List Str) (vs : List V) : zipK ks vs = dS (ks.zip vs) := rfl
theorem pys_encPs : ∀ l : Pr, (∀ p ∈ l, isName p.1 = true ∧ ∀ n, p.2 = some n → isName n = true) → ∃ ps, D.pys (l.map encP) = some ps ∧ PyData.canLayAll0 ps = true ∧ PyData.depthAll ps ≤ 20
  | [], _ => ⟨[], rfl, rfl, Nat.zero_le _⟩
  | p :: r, hr => by
    obtain ⟨ps, e1, e2, e3⟩ := pys_encPs r fun q hq => hr q (List.mem_cons_of_mem _ hq)
    obtain ⟨q, f1, f2, f3⟩ := fine_encP (p := p) (name_fine (hr p (List.mem_cons_self ..)).1) fun n hn => name_fine ((hr p (List.mem_cons_self ..)).2 n hn)
    refine ⟨q :: ps, ?_, ?_, ?_⟩
    · show ((encP p).py).bind (fun p' => (D.pys (r.map encP)).map (p' :: ·)) = _
      rw [f1, e1]; rfl
    · show (q.canLay0 && PyData.canLayAll0 ps) = true
      rw [f2, e2]; rfl
    · show max q.depth (PyData.depthAll ps) ≤ 20
      have : q.depth ≤ 20 := by
        have h1 : (encP p).py = some (.tuple [.str p.1, match p.2 with | none => .none | some n => .str n]) := by
          obtain ⟨o, n⟩ := p; cases n <;> rfl
        rw [f1] at h1
        have h2 := Option.some.inj h1
        rw [h2]
        obtain ⟨o, n⟩ := p; cases n <;> (show max 0 (max 0 0) + 1 ≤ 20; decide)
      omega
theorem PlOk.names {prs : Pr} (h : PlOk prs) : ∀ p ∈ prs, isName p.1 = true ∧ ∀ n, p.2 = some n → isName n = true := fun p hp =>
  ⟨h.olds p.1 (List.mem_map.mpr ⟨p, hp, rfl⟩), fun n hn => h.news n (List.mem_filterMap.mpr ⟨p, hp, hn⟩)⟩
theorem fine_encPs {prs : Pr} (h : ∀ p ∈ prs, isName p.1 = true ∧ ∀ n, p.2 = some n → isName n = true) : fineD (encPs prs) := by
  obtain ⟨ps, e1, e2, e3⟩ := pys_encPs prs h
  refine ⟨.list ps, ?_, e2, ?_⟩
  · show (D.pys (prs.map encP)).map PyData.list = _
    rw [e1]; rfl
  · show PyData.depthAll ps + 1 ≤ 30
    omega
theorem byOlds_names {prs : Pr} (h : PlOk prs) : ∀ p ∈ byOlds prs, isName p.1 = true ∧ ∀ n, p.2 = some n → isName n = true := fun p hp => by
  obtain ⟨o, ho, rfl⟩ := List.mem_map.mp hp
  have hok := mem_srt.mp ho
  refine ⟨h.olds o hok, fun n hn => ?_⟩
  obtain ⟨v, hv⟩ := lk_of_key hok
  have : v = some n := by simpa [hv] using hn
  exact h.news n (List.mem_filterMap.mpr ⟨_, lk_mem hv, this⟩)
/-- a new plan's place -/
theorem plan_new {C px dx a b : Addr} {H H6 H7 : Hp} {prs : Pr} {S : List Addr} (l : Live S H) (hpx : H px = none) (k6 : Kp [] H H6) (h6 : H6 px = some (.ins C dx [])) (fa : H6 a = none) (fb : H6 b = none) (e1 : H7 px = some (.ins C dx (flds a b))) (e2 : H7 a = some (.dK (dS (oldsD prs)))) (e3 : H7 b = some (.dK (dS (newsD prs)))) : PlanAt S C H7 px prs :=
  ⟨a, b, dx, e1, e2, e3, l.fresh hpx, l.fresh (k6.free fa (by simp)), l.fresh (k6.free fb (by simp))⟩
section
variable {K : PySem.W.Frag} {H : Hp} {Q : VK}
theorem g_isi2 {x : V} {t : String} {p : Addr} (b1 b2 : Bool) (hp : H p = some (.tup [.ty "tuple", .ty "list"])) (ty : TyX K H x (.type t)) (c1 : kitB t "tuple" = some b1) (c2 : kitB t "list" = some b2) (q : Q (.bl (b1 || b2)) H) : rIsiU K [x, .ref p] H Q := by
  refine .inr ⟨x, p, _, .type t, [.type "tuple", .type "list"], b1 || b2, rfl, hp, .cons (.ty _) (.cons (.ty _) .nil), ty, ?_, q⟩
  refine kitAny_cons (kit_ty c1) (fun e => ?_) (fun e => by rw [e]; rfl)
  rw [e, Bool.false_or]
  exact kitAny_cons (kit_ty c2) (fun e => by rw [kitAny_nil, e]) (fun e => e)
theorem g_notR {R : Bool → Prop} {b : Bool} (q : R b) : ∃ c, V.bl b = .bl c ∧ R c := ⟨b, rfl, q⟩
end
end NN
namespace NN
open PySem PySem.Spec PyProof.Rows L2
open PySem.W (minOf DatumOrd min_list_datum HoldAll str_of_holds)
/-! ### rings -/
/-- where a name is led to, if to a name -/
def nx (prs : Pr) (n : Str) : Option Str := (lk prs n).getD none
theorem nx_mem {prs : Pr} {a b : Str} (h : nx prs a = some b) : (a, some b) ∈ prs := by
  unfold nx at h
  cases e : lk prs a with
  | none => rw [e] at h; cases h
  | some v => rw [e] at h; exact lk_mem (by rw [e]; exact congrArg some h)
theorem nx_key {prs : Pr} {a b : Str} (h : nx prs a = some b) : a ∈ keys prs := List.mem_map.mpr ⟨_, nx_mem h, rfl⟩
theorem nx_new {prs : Pr} {a b : Str} (h : nx prs a = some b) : b ∈ news prs := List.mem_filterMap.mpr ⟨_, nx_mem h, rfl⟩
theorem news_inj {c : Str} : ∀ {prs : Pr}, (news prs).Nodup → ∀ {a b : Str}, (a, some c) ∈ prs → (b, some c) ∈ prs → a = b
  | [], _, a, b, h, _ => by cases h
  | (o, v) :: r, hn, a, b, ha, hb => by
    have hr : (news r).Nodup := by
      cases v with
      | none => exact hn
      | some n => exact (List.nodup_cons.mp (show (n :: news r).Nodup from hn)).2
    have no : ∀ {x : Str}, (x, some c) ∈ r → v ≠ some c := fun hx e => by
      subst e
      exact (List.nodup_cons.mp (show (c :: news r).Nodup from hn)).1 (List.mem_filterMap.mpr ⟨_, hx, rfl⟩)
    rcases List.mem_cons.mp ha with e | ha <;> rcases List.mem_cons.mp hb with e' | hb
    · exact (congrArg Prod.fst e).trans (congrArg Prod.fst e').symm
    · exact absurd (congrArg Prod.snd e).symm (no hb)
    · exact absurd (congrArg Prod.snd e').symm (no ha)
    · exact news_inj hr ha hb
theorem nx_inj {prs : Pr} (hn : (news prs).Nodup) {a b c : Str} (h : nx prs a = some c) (h' : nx prs b = some c) : a = b := news_inj hn (nx_mem h) (nx_mem h')
theorem nd_le {α : Type} [DecidableEq α] : ∀ {l m : List α}, l.Nodup → (∀ x ∈ l, x ∈ m) → l.length ≤ m.length
  | [], _, _, _ => Nat.zero_le _
  | x :: l, m, h, s => by
    obtain ⟨h1, h2⟩ := List.nodup_cons.mp h
    have hx := s x (List.mem_cons_self ..)
    have := nd_le (m := m.erase x) h2 fun y hy => (List.mem_erase_of_ne (fun e => h1 (by rw [← e]; exact hy))).mpr (s y (List.mem_cons_of_mem _ hy))
    rw [List.length_erase_of_mem hx] at this
    have := List.length_pos_of_mem hx
    simp only [List.length_cons]; omega
/-- each leads to the next, none twice -/
structure Way (prs : Pr) (r : List Str) : Prop where
  nd : r.Nodup
  st : ∀ i a b, r[i]? = some a → r[i + 1]? = some b → nx prs a = some b
theorem Way.one (prs : Pr) (n : Str) : Way prs [n] := ⟨by simp, fun i a b _ h => by simp at h⟩
theorem Way.nil (prs : Pr) : Way prs [] := ⟨by simp, fun i a b _ h => by simp at h⟩
theorem Way.snoc {prs : Pr} {r : List Str} {x y : Str} (h : Way prs r) (hx : r[r.length - 1]? = some x) (e : nx prs x = some y) (n : y ∉ r) : Way prs (r ++ [y]) := by
  refine ⟨nd_snoc h.nd n, fun i a b ha hb => ?_⟩
  have hi : i + 1 < (r ++ [y]).length := (List.getElem?_eq_some_iff.mp hb).1
  simp only [List.length_append, List.length_cons, List.length_nil] at hi
  have ha' : r[i]? = some a := by rw [List.getElem?_append_left (by omega)] at ha; exact ha
  by_cases e2 : i + 1 < r.length
  · rw [List.getElem?_append_left e2] at hb
    exact h.st i a b ha' hb
  · have e3 : i = r.length - 1 := by omega
    rw [List.getElem?_append_right (by omega), show i + 1 - r.length = 0 by omega] at hb
    rw [e3, hx] at ha'
    cases ha'; cases hb; exact e
theorem Way.len {prs : Pr} {r : List Str} (h : Way prs r) : r.length ≤ (news prs).length + 1 := by
  cases r with
  | nil => simp
  | cons n r =>
    have := nd_le (List.nodup_cons.mp h.nd).2 (m := news prs) fun x hx => by
      obtain ⟨i, hi⟩ := List.mem_iff_getElem?.mp hx
      obtain ⟨a, ha⟩ : ∃ a, (n :: r)[i]? = some a := ⟨(n :: r)[i]'(by have := (List.getElem?_eq_some_iff.mp hi).1; simp; omega), List.getElem?_eq_getElem _⟩
      exact nx_new (h.st i a x ha (by simpa using hi))
    simp; omega
/-- a ring, from n on -/
structure Cyc (prs : Pr) (n : Str) (r : List Str) : Prop where
  way : Way prs r
  hd : r[0]? = some n
  up : ∃ z, r[r.length - 1]? = some z ∧ nx prs z = some n
theorem Way.same {prs : Pr} {r r' : List Str} (h : Way prs r) (h' : Way prs r') (e : r[0]? = r'[0]?) : ∀ (i : Nat) (a b : Str), r[i]? = some a → r'[i]? = some b → a = b
  | 0, a, b, ha, hb => by rw [e, hb] at ha; exact (Option.some.inj ha).symm
  | i + 1, a, b, ha, hb => by
    have l1 := (List.getElem?_eq_some_iff.mp ha).1
    have l2 := (List.getElem?_eq_some_iff.mp hb).1
    obtain ⟨c, hc⟩ : ∃ c, r[i]? = some c := ⟨r[i]'(by omega), List.getElem?_eq_getElem _⟩
    obtain ⟨d, hd⟩ : ∃ d, r'[i]? = some d := ⟨r'[i]'(by omega), List.getElem?_eq_getElem _⟩
    have := Way.same h h' e i c d hc hd
    subst this
    have e1 := h.st i c a hc ha
    have e2 := h'.st i c b hd hb
    rw [e1] at e2
    exact Option.some.inj e2
theorem Cyc.pos {prs : Pr} {n : Str} {r : List Str} (h : Cyc prs n r) : 0 < r.length := (List.getElem?_eq_some_iff.mp h.hd).1
/-- a way from a ring's first name runs within the ring -/
theorem Cyc.pre {prs : Pr} {n : Str} {r r' : List Str} (h : Cyc prs n r) (h' : Way prs r') (e : r'[0]? = some n) : r'.length ≤ r.length ∧ r' = r.take r'.length := by
  have hl : r'.length ≤ r.length := by
    refine Nat.le_of_not_lt fun z => ?_
    obtain ⟨x, hx, ex⟩ := h.up
    have hp := h.pos
    obtain ⟨c, hc⟩ : ∃ c, r'[r.length - 1]? = some c := ⟨r'[r.length - 1]'(by omega), List.getElem?_eq_getElem _⟩
    have := Way.same h.way h' (h.hd.trans e.symm) _ _ _ hx hc
    subst this
    obtain ⟨d, hd⟩ : ∃ d, r'[r.length]? = some d := ⟨r'[r.length], List.getElem?_eq_getElem _⟩
    have := h'.st (r.length - 1) x d hc (by rw [show r.length - 1 + 1 = r.length by omega]; exact hd)
    rw [ex] at this
    cases this
    have := nd_ix h'.nd e hd
    omega
  refine ⟨hl, List.ext_getElem? fun i => ?_⟩
  by_cases hi : i < r'.length
  · rw [List.getElem?_take_of_lt hi]
    obtain ⟨c, hc⟩ : ∃ c, r'[i]? = some c := ⟨r'[i], List.getElem?_eq_getElem _⟩
    obtain ⟨d, hd⟩ : ∃ d, r[i]? = some d := ⟨r[i]'(by omega), List.getElem?_eq_getElem _⟩
    rw [hc, hd, Way.same h.way h' (h.hd.trans e.symm) _ _ _ hd hc]
  · rw [List.getElem?_eq_none (by omega), List.getElem?_eq_none (by simp; omega)]
theorem Cyc.uniq {prs : Pr} {n : Str} {r r' : List Str} (h : Cyc prs n r) (h' : Cyc prs n r') : r = r' := by
  obtain ⟨a1, a2⟩ := h.pre h'.way h'.hd
  obtain ⟨b1, b2⟩ := h'.pre h.way h.hd
  have : r'.length = r.length := by omega
  rw [a2, this, List.take_length]
/-- in a ring each has its forerunner in it -/
theorem Cyc.back {prs : Pr} {n : Str} {r : List Str} (hn : (news prs).Nodup) (h : Cyc prs n r) {a b : Str} (hb : b ∈ r) (e : nx prs a = some b) : a ∈ r := by
  obtain ⟨i, hi⟩ := List.mem_iff_getElem?.mp hb
  cases i with
  | zero =>
    obtain ⟨z, hz, ez⟩ := h.up
    rw [h.hd] at hi
    cases hi
    exact nx_inj hn e ez ▸ List.mem_of_getElem? hz
  | succ i =>
    obtain ⟨c, hc⟩ : ∃ c, r[i]? = some c := ⟨r[i]'(by have := (List.getElem?_eq_some_iff.mp hi).1; omega), List.getElem?_eq_getElem _⟩
    exact nx_inj hn e (h.way.st i c b hc hi) ▸ List.mem_of_getElem? hc
theorem Cyc.backs {prs : Pr} {n : Str} {r q : List Str} (hn : (news prs).Nodup) (h : Cyc prs n r) (w : Way prs q) : ∀ (i : Nat) (a b : Str), q[i]? = some b → b ∈ r → q[0]? = some a → a ∈ r
  | 0, a, b, hb, hr, ha => by rw [ha] at hb; cases hb; exact hr
  | i + 1, a, b, hb, hr, ha => by
    obtain ⟨c, hc⟩ : ∃ c, q[i]? = some c := ⟨q[i]'(by have := (List.getElem?_eq_some_iff.mp hb).1; omega), List.getElem?_eq_getElem _⟩
    exact Cyc.backs hn h w i a c hc (h.back hn hr (w.st i c b hc hb)) ha
/-- a set that holds each one's next holds the whole ring -/
theorem Cyc.fwd {prs : Pr} {n : Str} {r : List Str} (h : Cyc prs n r) {W : Str → Prop} (cl : ∀ x y, W x → nx prs x = some y → y ∈ keys prs → W y) {b : Str} (hb : b ∈ r) (hw : W b) : W n := by
  have key : ∀ m ∈ r, m ∈ keys prs := fun m hm => by
    obtain ⟨i, hi⟩ := List.mem_iff_getElem?.mp hm
    by_cases z : i + 1 < r.length
    · exact nx_key (h.way.st i m r[i + 1] hi (List.getElem?_eq_getElem _))
    · obtain ⟨x, hx, ex⟩ := h.up
      have : i = r.length - 1 := by have := (List.getElem?_eq_some_iff.mp hi).1; omega
      rw [this, hx] at hi
      cases hi
      exact nx_key ex
  obtain ⟨i, hi⟩ := List.mem_iff_getElem?.mp hb
  have : ∀ k i b, k = r.length - 1 - i → r[i]? = some b → W b → W n := fun k => by
    induction k with
    | zero =>
      intro i b hk hi hw
      have := (List.getElem?_eq_some_iff.mp hi).1
      have e : i = r.length - 1 := by omega
      obtain ⟨x, hx, ex⟩ := h.up
      rw [e, hx] at hi
      cases hi
      exact cl _ _ hw ex (key n (List.mem_of_getElem? h.hd))
    | succ k ih =>
      intro i b hk hi hw
      have hl : i + 1 < r.length := by omega
      have hq := List.getElem?_eq_getElem hl
      exact ih (i + 1) r[i + 1] (by omega) hq (cl _ _ hw (h.way.st i b _ hi hq) (key _ (List.mem_of_getElem? hq)))
  exact this _ i b rfl hi hw
/-- the ring that is told at n -/
def IsRing (prs : Pr) (n : Str) (r : List Str) : Prop := Cyc prs n r ∧ 1 < r.length ∧ ∀ m ∈ r, ¬ sl m n
open Classical in
noncomputable def ringAt (prs : Pr) (n : Str) : Option (List Str) := if h : ∃ r, IsRing prs n r then some h.choose else none
theorem ringAt_some {prs : Pr} {n : Str} {r : List Str} (h : IsRing prs n r) : ringAt prs n = some r := by
  unfold ringAt
  rw [dif_pos ⟨r, h⟩]
  exact congrArg some ((Exists.choose_spec (p := fun r => IsRing prs n r) ⟨r, h⟩).1.uniq h.1)
theorem ringAt_none {prs : Pr} {n : Str} (h : ∀ r, ¬ IsRing prs n r) : ringAt prs n = none := by
  unfold ringAt
  rw [dif_neg fun ⟨r, q⟩ => h r q]
theorem ringAt_is {prs : Pr} {n : Str} {r : List Str} (h : ringAt prs n = some r) : IsRing prs n r := by
  unfold ringAt at h
  split at h
  · rename_i q; cases h; exact q.choose_spec
  · cases h
noncomputable def rings (prs : Pr) : List (List Str) := (srt (keys prs)).filterMap (ringAt prs)
/-! the law's own going: r from n, as far as it goes -/
theorem law_yes {prs : Pr} {n z M : Str} {r : List Str} (w : Way prs r) (h0 : r[0]? = some n) (hz : r[r.length - 1]? = some z) (e : nx prs z = some n) (hl : 1 < r.length) (hM : ∀ m ∈ r, ¬ sl m M) (eM : M = n) : ringAt prs n = some r :=
  ringAt_some ⟨⟨w, h0, z, hz, e⟩, hl, eM ▸ hM⟩
theorem law_no {prs : Pr} {n z : Str} {r : List Str} (w : Way prs r) (h0 : r[0]? = some n) (hz : r[r.length - 1]? = some z) (full : ∀ y, nx prs z = some y → y ∈ r)
    (no : nx prs z ≠ some n ∨ ¬ 1 < r.length ∨ ∃ m ∈ r, sl m n) : ringAt prs n = none := by
  refine ringAt_none fun r2 hr => ?_
  obtain ⟨hl, he⟩ := hr.1.pre w h0
  have hp : 0 < r.length := (List.getElem?_eq_some_iff.mp h0).1
  by_cases z1 : r.length = r2.length
  · have : r = r2 := by rw [he, z1, List.take_length]
    subst this
    obtain ⟨z2, hz2, ez⟩ := hr.1.up
    rw [hz] at hz2; cases hz2
    rcases no with q | q | ⟨m, hm, q⟩
    · exact q ez
    · exact q hr.2.1
    · exact hr.2.2 m hm q
  · have l2 : r.length < r2.length := by omega
    have hz2 : r2[r.length - 1]? = some z := by
      have hz' := hz
      rw [he, List.length_take, Nat.min_eq_left hl, List.getElem?_take_of_lt (by omega)] at hz'
      exact hz'
    have hq := List.getElem?_eq_getElem l2
    have hn := hr.1.way.st (r.length - 1) z _ hz2 (by rw [show r.length - 1 + 1 = r.length by omega]; exact hq)
    have hm := full _ hn
    obtain ⟨j, hj, ej⟩ := List.mem_take_iff_getElem.mp ((congrArg (fun l => r2[r.length] ∈ l) he).mp hm)
    have := nd_ix hr.1.way.nd (List.getElem?_eq_some_iff.mpr ⟨_, ej⟩) hq
    omega
/-! the program's: seen so far W, the names gone through in order -/
structure Seen (prs : Pr) (i : Nat) (W : List Str) : Prop where
  nd : W.Nodup
  sub : ∀ x ∈ W, x ∈ keys prs
  cl : ∀ x y, x ∈ W → nx prs x = some y → y ∈ keys prs → y ∈ W
  all : ∀ j m, j < i → (srt (keys prs))[j]? = some m → m ∈ W
  frm : ∀ x ∈ W, ∃ j m q, j < i ∧ (srt (keys prs))[j]? = some m ∧ Way prs q ∧ q[0]? = some m ∧ x ∈ q
theorem Seen.zero (prs : Pr) : Seen prs 0 [] := ⟨by simp, by simp, by simp, fun j m h => by omega, by simp⟩
/-- at the end of a going from n, that was not seen: r is gone, here is behind it -/
theorem Seen.next {prs : Pr} {i : Nat} {W r : List Str} {n z : Str} (s : Seen prs i W) (hn : (srt (keys prs))[i]? = some n) (w : Way prs r) (h0 : r[0]? = some n) (rk : ∀ x ∈ r, x ∈ keys prs) (dj : ∀ x ∈ r, x ∉ W)
    (hz : r[r.length - 1]? = some z) (stop : ∀ y, nx prs z = some y → y ∈ keys prs → y ∈ W ++ r) : Seen prs (i + 1) (W ++ r) := by
  refine ⟨List.nodup_append.mpr ⟨s.nd, w.nd, fun a ha b hb e => dj b hb (e ▸ ha)⟩, fun x hx => (List.mem_append.mp hx).elim (s.sub x) (rk x), fun x y hx e hy => ?_, fun j m hj hm => ?_, fun x hx => ?_⟩
  · rcases List.mem_append.mp hx with q | q
    · exact List.mem_append_left _ (s.cl x y q e hy)
    · obtain ⟨k, hk⟩ := List.mem_iff_getElem?.mp q
      by_cases l : k + 1 < r.length
      · have := w.st k x r[k + 1] hk (List.getElem?_eq_getElem _)
        rw [e] at this
        cases this
        exact List.mem_append_right _ (List.getElem_mem _)
      · have : k = r.length - 1 := by have := (List.getElem?_eq_some_iff.mp hk).1; omega
        rw [this, hz] at hk
        cases hk
        exact stop y e hy
  · by_cases e : j = i
    · subst e
      rw [hn] at hm; cases hm
      exact List.mem_append_right _ (List.mem_of_getElem? h0)
    · exact List.mem_append_left _ (s.all j m (by omega) hm)
  · rcases List.mem_append.mp hx with q | q
    · obtain ⟨j, m, q, h1, h2⟩ := s.frm x q
      exact ⟨j, m, q, by omega, h2⟩
    · exact ⟨i, n, r, by omega, hn, w, h0, q⟩
theorem Seen.skip {prs : Pr} {i : Nat} {W : List Str} {n : Str} (s : Seen prs i W) (hn : (srt (keys prs))[i]? = some n) (h : n ∈ W) : Seen prs (i + 1) W := by
  refine ⟨s.nd, s.sub, s.cl, fun j m hj hm => ?_, fun x hx => ?_⟩
  · by_cases e : j = i
    · subst e
      rw [hn] at hm; cases hm
      exact h
    · exact s.all j m (by omega) hm
  · obtain ⟨j, m, q, h1, h2⟩ := s.frm x hx
    exact ⟨j, m, q, by omega, h2⟩
theorem srt_lt {l : List Str} (nd : l.Nodup) {i j : Nat} {a b : Str} (h : i < j) (ha : (srt l)[i]? = some a) (hb : (srt l)[j]? = some b) : sl a b := by
  obtain ⟨_, rfl⟩ := List.getElem?_eq_some_iff.mp ha
  obtain ⟨_, rfl⟩ := List.getElem?_eq_some_iff.mp hb
  exact List.pairwise_iff_getElem.mp (srt_strict nd) i j _ _ h
/-- a name seen before begins no ring -/
theorem Seen.old {prs : Pr} {i : Nat} {W : List Str} {n : Str} (s : Seen prs i W) (hk : (keys prs).Nodup) (hw : (news prs).Nodup) (hn : (srt (keys prs))[i]? = some n) (h : n ∈ W) : ringAt prs n = none := by
  refine ringAt_none fun r hr => ?_
  obtain ⟨j, m, q, hj, hm, wq, q0, hx⟩ := s.frm n h
  obtain ⟨k, hk'⟩ := List.mem_iff_getElem?.mp hx
  have := hr.1.backs hw wq k m n hk' (List.mem_of_getElem? hr.1.hd) q0
  exact hr.2.2 m this (srt_lt hk hj hm hn)
/-- round -/
theorem Seen.ring {prs : Pr} {i : Nat} {W r : List Str} {n z : Str} (s : Seen prs i W) (hk : (keys prs).Nodup) (hn : (srt (keys prs))[i]? = some n) (w : Way prs r) (h0 : r[0]? = some n) (rk : ∀ x ∈ r, x ∈ keys prs) (dj : ∀ x ∈ r, x ∉ W)
    (hz : r[r.length - 1]? = some z) (e : nx prs z = some n) (hl : 1 < r.length) : ringAt prs n = some r := by
  refine ringAt_some ⟨⟨w, h0, z, hz, e⟩, hl, fun m hm q => ?_⟩
  obtain ⟨j, hj⟩ := List.mem_iff_getElem?.mp (mem_srt.mpr (rk m hm))
  by_cases e1 : j < i
  · exact dj m hm (s.all j m e1 hj)
  · by_cases e2 : j = i
    · subst e2
      rw [hn] at hj; cases hj
      exact sl_irr _ q
    · exact sl_irr _ (sl_trans q (srt_lt hk (by omega) hn hj))
/-- not round -/
theorem Seen.noring {prs : Pr} {i : Nat} {W r : List Str} {n z : Str} (s : Seen prs i W) (hn : (srt (keys prs))[i]? = some n) (w : Way prs r) (h0 : r[0]? = some n) (dj : ∀ x ∈ r, x ∉ W)
    (hz : r[r.length - 1]? = some z) (stop : ∀ y, nx prs z = some y → y ∈ keys prs → y ∈ W ++ r) (no : nx prs z ≠ some n ∨ ¬ 1 < r.length) : ringAt prs n = none := by
  refine ringAt_none fun r2 hr => ?_
  obtain ⟨hl, he⟩ := hr.1.pre w h0
  have hp : 0 < r.length := (List.getElem?_eq_some_iff.mp h0).1
  by_cases z1 : r.length = r2.length
  · have : r = r2 := by rw [he, z1, List.take_length]
    subst this
    obtain ⟨z2, hz2, ez⟩ := hr.1.up
    rw [hz] at hz2; cases hz2
    rcases no with q | q
    · exact q ez
    · exact q hr.2.1
  · have l2 : r.length < r2.length := by omega
    have hz2 : r2[r.length - 1]? = some z := by
      have hz' := hz
      rw [he, List.length_take, Nat.min_eq_left hl, List.getElem?_take_of_lt (by omega)] at hz'
      exact hz'
    have hq := List.getElem?_eq_getElem l2
    have hnx := hr.1.way.st (r.length - 1) z _ hz2 (by rw [show r.length - 1 + 1 = r.length by omega]; exact hq)
    have hkey : r2[r.length] ∈ keys prs := by
      by_cases l3 : r.length + 1 < r2.length
      · exact nx_key (hr.1.way.st r.length _ _ hq (List.getElem?_eq_getElem l3))
      · obtain ⟨x, hx, ex⟩ := hr.1.up
        rw [show r2.length - 1 = r.length by omega, hq] at hx
        cases hx
        exact nx_key ex
    rcases List.mem_append.mp (stop _ hnx hkey) with q | q
    · exact dj n (List.mem_of_getElem? h0) (hr.1.fwd (W := fun x => x ∈ W) s.cl (List.mem_of_getElem? hq) q)
    · obtain ⟨j, hj, ej⟩ := List.mem_take_iff_getElem.mp ((congrArg (fun l => r2[r.length] ∈ l) he).mp q)
      have := nd_ix hr.1.way.nd (List.getElem?_eq_some_iff.mpr ⟨_, ej⟩) hq
      omega
/-! ### min of a list of texts -/
def rMinS (K : PySem.W.Frag) : List V → Hp → VK → Prop := fun vs H Q => ∃ (a : Addr) (xs : List Str), vs = [.ref a] ∧ SqL K H a (xs.map V.str) ∧ 0 < xs.length ∧ ∀ M, M ∈ xs → (∀ y ∈ xs, ¬ sl y M) → Q (.str M) H
theorem minOf_is (x : Str) : ∀ xs : List Str, minOf x xs ∈ x :: xs ∧ ∀ y ∈ x :: xs, ¬ sl y (minOf x xs)
  | [] => ⟨List.mem_cons_self .., fun y hy => by rw [List.mem_singleton.mp hy]; exact sl_irr _⟩
  | y :: r => by
    have e : minOf x (y :: r) = minOf (if DatumOrd.lt y x = true then y else x) r := rfl
    have hlt : DatumOrd.lt y x = true ↔ sl y x := by
      show decide (y.cps.toList < x.cps.toList) = true ↔ _
      rw [← PyProof.Rows.ltCps_eq]; exact Iff.rfl
    by_cases c : sl y x
    · rw [e, if_pos (hlt.mpr c)]
      obtain ⟨h1, h2⟩ := minOf_is y r
      refine ⟨List.mem_cons_of_mem _ h1, fun z hz => ?_⟩
      rcases List.mem_cons.mp hz with q | q
      · intro q2
        rw [q] at q2
        exact h2 y (List.mem_cons_self ..) (sl_trans c q2)
      · exact h2 z q
    · rw [e, if_neg fun z => c (hlt.mp z)]
      obtain ⟨h1, h2⟩ := minOf_is x r
      refine ⟨?_, fun z hz => ?_⟩
      · rcases List.mem_cons.mp h1 with q | q
        · rw [q]; exact List.mem_cons_self ..
        · exact List.mem_cons_of_mem _ (List.mem_cons_of_mem _ q)
      · rcases List.mem_cons.mp hz with q | q
        · rw [q]; exact h2 x (List.mem_cons_self ..)
        · rcases List.mem_cons.mp q with q | q
          · intro q2
            rw [q] at q2
            have := h2 x (List.mem_cons_self ..)
            exact sle_not (sle_trans (sle_of_not this) (sle_of_not c)) q2
          · exact h2 z (List.mem_cons_of_mem _ q)
section
variable {X : Cx} {K : PySem.W.Frag}
theorem strs_vals : ∀ {xs : List Str} {its : List Value}, Vals (xs.map V.str) its → PyProof.Rows.StrsAre its xs
  | [], _, h => by cases h; exact .nil
  | x :: r, _, h => by
    cases h with
    | cons a b => obtain ⟨t, rfl⟩ := a; exact .cons _ t (strs_vals b)
theorem call_minK (h : X.K = K) (hc : X.calm = true) (hu : X.A.units + 64 < cLine) : CallR X (.builtin "min") (rMinS K) := by
  subst h
  intro pins s σ H vs us Q I r h
  obtain ⟨a, xs, rfl, hs, hne, q⟩ := h
  obtain ⟨its, rv, hl, _⟩ := I.list hs
  rw [Vals.ref1 r]
  cases xs with
  | nil => simp at hne
  | cons x xs =>
    refine min_list_datum (x := x) (xs := xs) (I.ok.hd hc) hl.isList (HoldAll.of_strs (strs_vals rv)) (by show X.A.units + 1 + 0 < _; omega) fun i v h' tk hv hh hk => ?_
    obtain ⟨t, e⟩ := str_of_holds hh
    subst e
    exact ⟨.str _, H, I.kept hk, ⟨_, rfl⟩, q _ (minOf_is x xs).1 (minOf_is x xs).2⟩
theorem g_minS {H : Hp} {Q : VK} {a : Addr} {xs : List Str} (h : H a = some (.lst (xs.map V.str))) (hl : 0 < xs.length) (q : ∀ M, M ∈ xs → (∀ y ∈ xs, ¬ sl y M) → Q (.str M) H) : rMinS K [.ref a] H Q := ⟨a, xs, rfl, SqL.of h, hl, q⟩
end
end NN
namespace NN
open PySem L2
def strsD (r : List Str) : List D := r.map fun n => D.v (.str n)
def ringsD (rs : List (List Str)) : List D := rs.map fun r => .t (strsD r)
def spPlanRings (C : Addr) : Sp := fun vs H Q _ => ∃ (p : Addr) (prs : Pr), vs = [.ref p] ∧ PlanAt [] C H p prs ∧ PlOk prs ∧
  ∀ q ws H' , H q = none → Kp [] H H' → H' q = some (.lst ws) → (∀ S, Live S H → AtL (q :: S) H' ws (ringsD (rings prs))) → Q (.ref q) H'
def seenD (W : List Str) : List (Str × V) := W.map fun n => (n, V.bl true)
theorem keys_seenD (W : List Str) : keys (seenD W) = W := by unfold keys seenD; rw [List.map_map]; exact List.map_id _
theorem put_seenD {W : List Str} {n : Str} (h : n ∉ W) : put (seenD W) n (.bl true) = seenD (W ++ [n]) := by rw [put_new _ (by rw [keys_seenD]; exact h)]; simp [seenD]
theorem AtL.strsD {S : List Addr} {H : Hp} : ∀ (ns : List Str), AtL S H (ns.map V.str) (NN.strsD ns)
  | [] => .nil
  | n :: r => .cons (.v _) (AtL.strsD r)
end NN
namespace NN
open PySem L2
theorem at_last {α : Type} {xs : List α} {v : α} (h : xs[xs.length - 1]? = some v) : atI xs (-1) = some v := by
  have hl : 0 < xs.length := by have := (List.getElem?_eq_some_iff.mp h).1; omega
  unfold atI ixN
  rw [if_neg (by omega), if_pos (by omega)]
  show xs[((-1 : Int) + xs.length).toNat]? = some v
  rw [show ((-1 : Int) + xs.length).toNat = xs.length - 1 by omega]
  exact h
theorem get_nx (prs : Pr) (z : Str) : ((lk prs z).map oV).getD .non = oV (nx prs z) := by
  unfold nx
  cases lk prs z <;> rfl
theorem lk_nx {prs : Pr} {z y : Str} (h : nx prs z = some y) : lk prs z = some (some y) := by
  unfold nx at h
  cases e : lk prs z with
  | none => rw [e] at h; cases h
  | some v => rw [e] at h; exact congrArg some h
end NN
namespace NN
open PySem L2
/-- a statement and what is behind it, kept apart -/
theorem g_thenO {t u : TS} {D : Ends} {σ : St} {H : Hp} (P : St → Hp → Prop) (h2 : ∀ σ H, P σ H → u D σ H) (h1 : ∀ nx : St → Hp → Prop, (∀ σ H, P σ H → nx σ H) → t { D with nx := nx } σ H) : tSeq t u D σ H := h1 _ h2
end NN
namespace NN
open PySem L2
/-- a comprehension within a comprehension that reads nothing from outside -/
theorem blkOk_own {N : List Str} {sc scope : Scope} {own : List (Str × Nat)} (h : blkC N scope scope own = true) (hf : (scope.names.all fun y => match y.2 with | .free => false | _ => true) = true) : BlkOk N sc scope own := by
  obtain ⟨a, b, c, d, e⟩ := blkOk_by h
  refine ⟨a, b, c, fun y hy z => ?_, e⟩
  have := List.all_eq_true.mp hf y hy
  rw [z] at this
  cases this
end NN
namespace NN
open PySem L2
theorem inV_append (x : V) (a b : List V) : inV x (a ++ b) = (inV x a || inV x b) := by unfold inV; rw [List.any_append]
theorem inV_news (k : Str) (prs : Pr) : inV (.str k) (prs.map fun p => oV p.2) = decide (k ∈ news prs) := by
  induction prs with
  | nil => rfl
  | cons p r ih =>
    have e : inV (.str k) ((p :: r).map fun p => oV p.2) = (inV (.str k) [oV p.2] || inV (.str k) (r.map fun p => oV p.2)) := by
      rw [List.map_cons, ← List.singleton_append, inV_append]
    rw [e, ih]
    obtain ⟨o, n⟩ := p
    cases n with
    | none => show (false || _) = _; rw [Bool.false_or]; rfl
    | some n =>
      have := inV_strs k [n]
      rw [show [oV (some n)] = [n].map V.str from rfl, this]
      show (decide (k ∈ [n]) || decide (k ∈ news r)) = decide (k ∈ n :: news r)
      by_cases h : k = n <;> simp [h]
theorem flat_oVs (prs : Pr) : (prs.map fun p => oV p.2).all flatV = true := by
  rw [List.all_map]
  exact List.all_eq_true.mpr fun p _ => by show flatV (oV p.2) = true; cases p.2 <;> rfl
/-- pairs that stay -/
def stays (l : List Str) : Pr := l.map fun n => (n, some n)
theorem keys_append (a b : Pr) : keys (a ++ b) = keys a ++ keys b := by simp [keys]
theorem news_append (a b : Pr) : news (a ++ b) = news a ++ news b := by simp [news]
theorem keys_stays (l : List Str) : keys (stays l) = l := by unfold keys stays; rw [List.map_map]; exact List.map_id _
theorem news_stays (l : List Str) : news (stays l) = l := by
  induction l with
  | nil => rfl
  | cons n r ih => show n :: news (stays r) = _; rw [ih]
theorem pl_stays {prs : Pr} {l : List Str} (h : PlOk prs) (nd : l.Nodup) (hn : ∀ n ∈ l, isName n = true) (d : ∀ n ∈ l, n ∉ news prs ∧ n ∉ keys prs) (hl : prs.length + l.length ≤ 40) : PlOk (prs ++ stays l) := by
  refine ⟨?_, ?_, ?_, ?_, by simpa [stays] using hl⟩
  · rw [keys_append, keys_stays]
    exact List.nodup_append.mpr ⟨h.ndo, nd, fun a ha b hb e => (d b hb).2 (e ▸ ha)⟩
  · rw [news_append, news_stays]
    exact List.nodup_append.mpr ⟨h.ndn, nd, fun a ha b hb e => (d b hb).1 (e ▸ ha)⟩
  · intro o ho
    rw [keys_append, keys_stays] at ho
    exact (List.mem_append.mp ho).elim (h.olds o) (hn o)
  · intro o ho
    rw [news_append, news_stays] at ho
    exact (List.mem_append.mp ho).elim (h.news o) (hn o)
end NN
namespace NN
open PySem L2
theorem live_one {H : Hp} {p : Addr} (h : H p ≠ none) : Live [p] H := fun s hs => by rw [List.mem_singleton.mp hs]; exact h
theorem rings_mem {prs : Pr} {r : List Str} (h : r ∈ rings prs) : ∃ n, IsRing prs n r := by
  obtain ⟨n, _, e⟩ := List.mem_filterMap.mp h
  exact ⟨n, ringAt_is e⟩
theorem Cyc.keys {prs : Pr} {n : Str} {r : List Str} (h : Cyc prs n r) : ∀ m ∈ r, m ∈ NN.keys prs := fun m hm => by
  obtain ⟨i, hi⟩ := List.mem_iff_getElem?.mp hm
  by_cases z : i + 1 < r.length
  · exact nx_key (h.way.st i m r[i + 1] hi (List.getElem?_eq_getElem _))
  · obtain ⟨x, hx, ex⟩ := h.up
    have : i = r.length - 1 := by have := (List.getElem?_eq_some_iff.mp hi).1; omega
    rw [this, hx] at hi
    cases hi
    exact nx_key ex
theorem rings_len {prs : Pr} (h : PlOk prs) : (rings prs).length ≤ 40 := by
  have h1 : (rings prs).length ≤ (srt (NN.keys prs)).length := List.length_filterMap_le ..
  rw [len_srt] at h1
  have := h.len
  have h2 : (NN.keys prs).length = prs.length := by simp [NN.keys]
  omega
theorem ring_len {prs : Pr} (h : PlOk prs) {r : List Str} (hr : r ∈ rings prs) : r.length ≤ 40 := by
  obtain ⟨n, q⟩ := rings_mem hr
  have h1 := nd_le q.1.way.nd q.1.keys
  have := h.len
  have h2 : (NN.keys prs).length = prs.length := by simp [NN.keys]
  omega
theorem ok_strsD {n : Nat} {l : List Str} (hl : l.length ≤ 1000) (h : ∀ z ∈ l, isName z = true) : okD (n + 1) (.l (strsD l)) ∧ okD (n + 1) (.t (strsD l)) := by
  have : ∀ d ∈ strsD l, okD n d := fun d hd => by
    obtain ⟨z, hz, rfl⟩ := List.mem_map.mp hd
    exact .v (.inr (.inr (.inr ⟨z, rfl, name_fine (h z hz)⟩)))
  exact ⟨.l (by simpa [strsD] using hl) this, .t (by simpa [strsD] using hl) this⟩
theorem okD_rings {n : Nat} {prs : Pr} (h : PlOk prs) : okD (n + 2) (.l (ringsD (rings prs))) := by
  refine .l (by have := rings_len h; simp [ringsD]; omega) fun d hd => ?_
  obtain ⟨r, hr, rfl⟩ := List.mem_map.mp hd
  obtain ⟨m, q⟩ := rings_mem hr
  exact (ok_strsD (by have := ring_len h hr; omega) fun z hz => h.olds z (q.1.keys z hz)).2
end NN
/-! errors: made, raised, caught and kept, asked for their class, read -/
namespace NN
open PySem PySem.Spec PyProof.Rows L2
/-! ### an error that stands -/
/-- at a: an error of the class cls, d its dict -/
def exk (a : Addr) (cls : Value) (d : Option Addr) : HO := .ext fun h => ∃ o vs, h.get? a = some o ∧ Zc cls d o ∧ o.data = .fields vs
theorem exk_ok {P : Program} {w : World} {H : Hp} {h : Heap} {a : Addr} {cls : Value} {d : Option Addr} {o : Obj} {vs : Array Value} (e : h.get? a = some o) (z : Zc cls d o) (q : o.data = .fields vs) : ObjOk P w H h a (exk a cls d) :=
  ⟨⟨o, vs, e, z, q⟩, ⟨o, e⟩, fun _ _ ⟨o', v', e', r⟩ k => ⟨o', v', k o' e', r⟩⟩
def IsE (H : Hp) (a : Addr) (cls : Value) (d : Option Addr) : Prop := H a = some (exk a cls d) ∨ ∃ C, cls = .ref C ∧ H a = some (exo a C d)
def HasF (H : Hp) (d : Option Addr) (fs : List (Str × V)) : Prop := match d with
  | none => fs = []
  | some x => H x = some (.xd fs) ∨ H x = some (exd x fs)
theorem IsE.kp {S : List Addr} {H H' : Hp} {a : Addr} {cls : Value} {d : Option Addr} (e : IsE H a cls d) (k : Kp S H H') (n : a ∉ S) : IsE H' a cls d := by
  rcases e with e | ⟨C, e1, e2⟩
  · exact .inl (k.at e n)
  · exact .inr ⟨C, e1, k.at e2 n⟩
theorem HasF.kp {S : List Addr} {H H' : Hp} {d : Option Addr} {fs : List (Str × V)} (e : HasF H d fs) (k : Kp S H H') (n : ∀ x, d = some x → x ∉ S) : HasF H' d fs := by
  cases d with
  | none => exact e
  | some x =>
    rcases e with e | e
    · exact .inl (k.at e (n x rfl))
    · exact .inr (k.at e (n x rfl))
theorem IsE.obj {P : Program} {w : World} {H : Hp} {h : Heap} {a : Addr} {cls : Value} {d : Option Addr} (e : IsE H a cls d) (k : HOk P w H h) : ∃ o vs, h.get? a = some o ∧ Zc cls d o ∧ o.data = .fields vs := by
  rcases e with e | ⟨C, rfl, e⟩
  · have x : ObjOk P w H h a (.ext fun h => ∃ o vs, h.get? a = some o ∧ Zc cls d o ∧ o.data = .fields vs) := k a _ e
    exact x.1
  · obtain ⟨t, q⟩ := exo_at k e
    exact ⟨_, _, q, ⟨rfl, rfl⟩, rfl⟩
theorem HasF.ns {P : Program} {w : World} {H : Hp} {h : Heap} {x : Addr} {fs : List (Str × V)} (e : HasF H (some x) fs) (k : HOk P w H h) : ∃ mA, h.Ns1 x mA ∧ ∀ f, RelO (fs.lookup f) (mA f) := by
  rcases e with e | e
  · have q : ObjOk P w H h x (.xd fs) := k x _ e
    exact q
  · exact exd_at k e
/-- as the library speaks of instances -/
theorem IsE.inst {P : Program} {w : World} {H : Hp} {h : Heap} {a C : Addr} {d : Option Addr} {fs : List (Str × V)} (e : IsE H a (.ref C) d) (f : HasF H d fs) (k : HOk P w H h) :
    ∃ ox od, PySem.W.InstAt h a ox C od ∧ ∀ n v, fs.lookup n = some v → ∃ ob u, od = some ob ∧ PySem.W.lookIn n ob = some (some u) ∧ RelV v u := by
  obtain ⟨o, vs, ho, ⟨z1, z2⟩, hd⟩ := e.obj k
  have nc : PySem.W.notCls o = true := by unfold PySem.W.notCls; rw [hd] <;> rfl
  cases d with
  | none =>
    refine ⟨o, none, ⟨ho, z1, nc, ?_⟩, fun n v q => ?_⟩
    · rw [z2]; trivial
    · have e0 : fs = [] := f
      rw [e0] at q; cases q
  | some x =>
    obtain ⟨mA, hns, hr⟩ := f.ns k
    obtain ⟨ob, hob, hl⟩ := lookIn_ns hns
    refine ⟨o, some ob, ⟨ho, z1, nc, ?_⟩, fun n v q => ?_⟩
    · rw [z2]; exact hob
    · obtain ⟨u, hu, ru⟩ := RelO.some_of (v := v) (o := mA n) (by rw [← q]; exact hr n)
      exact ⟨ob, u, rfl, by rw [hl, hu], ru⟩
/-! ### isinstance, fields -/
theorem kit_own {K : PySem.W.Frag} {D C : Addr} {b : Bool} (hc : PySem.W.isClsIn K C = true) (ht : PySem.W.typeIn K (.ref C) = some (.type "type")) (hd : PySem.W.subIn K (.ref D) (.ref D) = some true) (h : PySem.W.subIn K (.ref D) (.ref C) = some b) :
    PySem.W.kitOne K (.ref D) (.ref C) = some b := by
  unfold PySem.W.kitOne
  by_cases e : (Value.ref D == Value.ref C) = true
  · rw [if_pos e]
    have e' : D = C := Value.ref.inj (beq_iff_eq.mp e)
    rw [← e', hd] at h
    exact h
  · rw [if_neg e]
    unfold PySem.W.kitCls
    have q : ((PySem.W.clsIn K C).isSome && PySem.W.typeIn K (.ref C) == some (.type "type")) = true := by rw [ht, show (PySem.W.clsIn K C).isSome = true from hc]; rfl
    simp only [q, if_true]
    exact h
theorem kit_ve {K : PySem.W.Frag} {D : Addr} (h : PySem.W.subIn K (.ref D) (.type "ValueError") = some true) : PySem.W.kitOne K (.ref D) (.type "ValueError") = some true := by
  unfold PySem.W.kitOne
  rw [if_neg (by intro z; cases beq_iff_eq.mp z)]
  unfold PySem.W.kitCls
  have q : PySem.W.kitMeta "ValueError" = true := by decide +kernel
  simp only [q, if_true]
  exact h
def rIsX (K : PySem.W.Frag) : List V → Hp → VK → Prop := fun xs H Q => ∃ (a D : Addr) (d : Option Addr) (fs : List (Str × V)) (c : V) (cv : Value) (b : Bool), xs = [.ref a, c] ∧ IsE H a (.ref D) d ∧ HasF H d fs ∧ ExcC K D ∧ (∀ u, RelV c u → u = cv) ∧ PySem.W.kitOne K (.ref D) cv = some b ∧ Q (.bl b) H
theorem call_isX {X : Cx} {K : PySem.W.Frag} (hK : X.K = K) : CallR X (.builtin "isinstance") (rIsX K) := by
  subst hK
  intro pins s σ H xs us Q I r h
  obtain ⟨a, D, d, fs, c, cv, b, rfl, he, hf, T, hcv, e, q⟩ := h
  cases r with
  | cons rx rr =>
    cases rr with
    | cons rt rr =>
      cases rr
      cases rx
      cases hcv _ rt
      obtain ⟨ox, od, J, _⟩ := he.inst hf I.hok
      exact PySem.W.kia_one (PySem.W.kitx_exc (by obtain ⟨cd, hc, _⟩ := PySem.W.any_some T.hd; rw [hc]; rfl) T.hg T.hk T.hs T.ha T.hn T.ht T.hm) I.kIn J e (fun z => nomatch z) fun tk => ⟨.bl b, H, I.kept (t' := tk) fun _ _ z => z, rfl, q⟩
/-- err.f -/
def tXfd (K : PySem.W.Frag) (te : TE) (f : Str) : TE := fun σ H Q => te σ H fun x H1 => ∃ (a C : Addr) (d : Option Addr) (fs : List (Str × V)) (v : V), x = .ref a ∧ IsE H1 a (.ref C) d ∧ HasF H1 d fs ∧ XfC K C ∧ PySem.W.findIn K (.ref C) f = some none ∧ fs.lookup f = some v ∧ Q v H1
theorem pe_xfd {X : Cx} {K : PySem.W.Frag} (hK : X.K = K) {e : Expr} {te : TE} {pos : Pos} {n : Str} (he : PE X e te) (hb : attributeBase e n X.env (eval e X.env) = eval e X.env := by rfl) : PE X (.Attribute e n pos) (tXfd K te n) := by
  subst hK
  refine ⟨fun pins s σ H Q I h => attr_of hb (thn (he.run pins s σ H _ I h) fun u s1 hh => ?_)⟩
  obtain ⟨x, H1, I1, rx, a, C, d, fs, v, rfl, ee, ef, T, hno, l, q⟩ := hh
  cases rx
  obtain ⟨ox, od, J, hl⟩ := ee.inst ef I1.hok
  obtain ⟨ob, u, rfl, hu, ru⟩ := hl n v l
  exact HandSPX.exc_get I1.kIn J T.ga T.gg T.exC (PySem.W.findObj_own T.hdC hno rfl hu) (handed_of ru) ⟨v, H1, I1.tok _, ru, q⟩
/-! ### C.__init__(self, ..), C over ValueError -/
structure InC (K : PySem.W.Frag) (C : Addr) : Prop where
  ga : PySem.W.specialIn K (.ref C) "__getattribute__" = some (some (.builtin "type.__getattribute__"))
  rd : PySem.W.readsIn K C (.type "type") = true
  at_ : PySem.W.findCls K (.ref C) (.type "type") "__init__" = some (.val (.builtin "ValueError.__init__"))
theorem pe_base {X : Cx} {x : Str} {C : Addr} {e : Expr} {es : List Expr} {ta : TA} {p1 p2 pos : Pos} {pl : Sem Bool} (hm : X.mg x = some (.ref C)) (T : InC X.K C) (ha : PA X (e :: es) ta) (hg : Gl X x := by rfl)
    (hdb : (x == ("__debug__" : Str)) = false := by decide)
    (hc : eval (.Call (.Attribute (.Name x p1) "__init__" p2) (e :: es) [] pos) X.env = (do
      let ov ← eval (.Name x p1) X.env
      standAt p2.atName
      let (f, first) ← holding [ov] (getMethod ov "__init__" pl)
      callWith pos f first (backTo pos (starEach (e :: es) X.env)) (backToKw pos (keywordEach [] X.env))) := by rfl)
    (he : starEach (e :: es) X.env = (false, eval e X.env) :: starEach es X.env := by rfl) (hpl : (backTo pos (starEach es X.env)).any (·.1) = false := by rfl) :
    PE X (.Call (.Attribute (.Name x p1) "__init__" p2) (e :: es) [] pos) (tVeI X.K ta) := by
  refine ⟨fun pins s σ H Q I h => PySem.W.methodCall_KW (ld_glob I hg hm ?_ hdb) hc⟩
  refine PySem.W.method_cls I.kIn T.ga (PySem.W.cls_value I.kIn T.rd T.at_ (by decide +kernel) ?_)
  show wpAny _ _ (callWith pos (Value.builtin "ValueError.__init__") [] (backTo pos (starEach (e :: es) X.env)) []) _ _ _
  refine PyProof.Rows.callWith_method1 (thn (ha.run pos pins _ σ H _ (I.tok _) h) fun us s1 hh => ?_) he hpl
  obtain ⟨vs, H1, I1, r1, a, D, ws, rfl, hl, TD, ea, q⟩ := hh
  cases r1 with
  | cons ra rw' =>
    cases ra
    have hlen := Paired.length rw'
    exact oinit_ok TD I1 ea (by rw [← hlen, sizeLine_eq]; omega) fun s' J => ⟨.non, H1, J, rfl, q⟩
end NN
namespace NN
open PySem PySem.Spec PyProof.Rows L2
section
variable {X : Cx} {pins : List (Addr × Obj)} {σ : L2.St} {H : Hp}
/-- back on the ground, the error tracked -/
theorem land_kept {a : Addr} {B : Heap} {u v : Shared} {cls : Value} {d : Option Addr} {o : Obj} {rec : Array Value} (J : Inv X pins σ H u) (ground : ∀ c q, u.heap.get? c = some q → c ∉ frs X.stack → B.get? c = some q) (stays : B.StaysIn v.heap) (slots : u.heap.UpToSlots v.heap)
    (hos : v.os = u.os) (hbare : AllBare v.gens) (na : H a = none) (nB : B.get? a = none) (hv : v.heap.get? a = some o) (z : Zc cls d o) (dt : o.data = .fields rec) (nf : a ∉ frs X.stack) : Inv X pins σ (upd H a (exk a cls d)) v := by
  have nu : u.heap.get? a = none := by
    cases q : u.heap.get? a with
    | none => rfl
    | some ob =>
      have y := ground a ob q nf
      rw [nB] at y; cases y
  have other : ∀ {c : Addr} {q : Obj}, u.heap.get? c = some q → c ≠ a := fun {c q} e x => by rw [x, nu] at e; cases e
  have there : ∀ c q, u.heap.get? c = some q → ∃ sl, v.heap.get? c = some { q with slots := sl } := fun c q e => by
    by_cases hc : c ∈ frs X.stack
    · obtain ⟨_, q', e', hq⟩ := J.stack.mem hc
      rw [e] at e'; cases e'
      exact slots c q e hq
    · exact ⟨q.slots, stays c q (ground c q e hc)⟩
  have tr : ∀ {c : Addr} {q : HO}, H c = some q → upd H a (exk a cls d) c = some q := fun {c q} e => by rw [upd_ne (ne_of_none e na)]; exact e
  have U : Un (frs X.stack) [] H (upd H a (exk a cls d)) u.heap v.heap := {
    keep := fun c q e _ hc _ => stays c q (ground c q e hc)
    slot := fun c q e _ _ _ => there c q e
    free := fun c q e n _ => by rw [upd_ne (other e)]; exact n
    there := fun c q e _ => (there c q e).elim fun sl y => ⟨_, y⟩
    tups := fun _ _ e => tr e
    frzs := fun _ _ _ e => tr e
    tbls := fun _ ps e => ⟨#[], by rw [tr e]; simp⟩ }
  have K1 : HOk X.prog X.w H v.heap := HOk.kept (J.inGround ground) stays
  refine J.call' hos U (fun c q e => ?_) hbare fun _ y => nomatch y
  by_cases hc : c = a
  · subst hc
    rw [upd_same] at e; cases e
    exact exk_ok hv z dt
  · rw [upd_ne hc] at e
    exact (K1 c q e).stay (fun _ _ _ y => y) (fun _ y => tr y) fun _ _ y => tr y
theorem into_suite {s : Shared} (I : Inv X pins σ H s) (a : Addr) : Inv (X.suite a (X.pn ++ pins)) [] σ H s :=
  ⟨I.ok.suite a _, I.os, I.bare, I.base, I.loc, I.cell, I.free, I.freeC, fun p hp => I.pin p (by simpa using hp), I.hok, I.len⟩
theorem out_suite {s : Shared} {a : Addr} {more : List (Addr × Obj)} (ok : X.Ok) (I : Inv (X.suite a (X.pn ++ pins)) more σ H s) : Inv X pins σ H s :=
  ⟨ok, I.os, I.bare, I.base, I.loc, I.cell, I.free, I.freeC, fun p hp => I.pin p (List.mem_append_left more hp), I.hok, I.len⟩
end
/-- what a clause «except c as n» wishes of an error of the body; n in slot i; the error is tracked from there on -/
def wKeep (K : PySem.W.Frag) (c : Value) (i : Nat) (ts : TS) (Wout : WX) (D : Ends) : WX := fun cls d σ H =>
  ∃ b, PySem.W.exmOne K cls c = some b ∧
    (b = true → ∀ a, H a = none → ts ⟨fun σ1 H1 => D.nx (σ1.set i none) H1, D.rt, fun σ1 H1 => D.bk (σ1.set i none) H1, fun σ1 H1 => D.ct (σ1.set i none) H1⟩ (σ.set i (some (.ref a))) (upd H a (exk a cls d))) ∧
    (b = false → Wout cls d σ H)
section
variable {X : Cx} {x n : Str} {c : Value} {i : Nat} {body suite : List Stmt} {st0 : Stmt} {np pos cpos : Pos} {tb : WX → TS} {ts : TS} {Wout : WX}
theorem ps_keep (hc : Names X x c) (tk : Takes X Wout) (hN : X.N.Nodup) (hi : X.N[i]? = some n)
    (hb : ∀ (W : WX) (pn : List (Addr × Obj)) (xe : Value → Shared → Prop), Takes (X.tr pn xe) W → PassesOwn (model X.prog X.w) X.A X.env xe → PSs (X.tr pn xe) body (tb W))
    (hsu : ∀ (a : Addr) (pn : List (Addr × Obj)), PSs (X.suite a pn) (st0 :: suite) ts) (hln : X.env.kindOf n = some .local := by rfl) (hs : X.stack = X.env :: X.outer := by rfl) (hf : X.env.frame = some X.env.locals := by rfl) :
    PS X (.Try body [.ExceptHandler (some (.Name x np)) (some n) (st0 :: suite) cpos] [] [] pos) (fun D σ H => tb (wKeep X.K c i ts Wout D) D σ H) := by
  refine ⟨fun pins s σ H D I h => ?_⟩
  have ok := I.ok
  have frames : X.A.frames = some (X.env :: X.outer) := ok.frames.trans (congrArg some hs)
  refine wpAny_Try_except ?_
  let later := fun e s1 => wpAny (model X.prog X.w) X.A (noteFrame e X.env) (fun _ s2 => wpAny (model X.prog X.w) X.A (setFlight e none) (fun _ s3 =>
    wpAny (model X.prog X.w) X.A (handleBy e X.env [.ExceptHandler (some (.Name x np)) (some n) (st0 :: suite) cpos]) (SP X pins D) X.xe s3) X.xe s2) X.xe s1
  have taken : Takes (X.tr (X.pn ++ pins) later) (wKeep X.K c i ts Wout D) := fun u s1 air => by
    obtain ⟨a, B, sI, pins1, σ1, H1, cls, d, rfl, J1, nb, up, sky, na, os, ag, b, e1, yes, no⟩ := air
    have J : Inv X pins σ1 H1 sI := J1.ofTry ok
    show wpAny (model X.prog X.w) X.A (noteFrame (.ref a) X.env) _ _ _
    refine Sky.land Zc.steady frames hf (by rw [← hs]; exact sky) fun h3 f3 up3 => ?_
    have notF : a ∉ frs X.stack := fun hm => by
      obtain ⟨o3, r3, g3, _, d3⟩ := f3.there
      rw [hs] at hm
      obtain ⟨_, o', e', nfl⟩ := f3.2.2.1.mem hm
      rw [g3] at e'; cases e'
      exact nfl _ d3
    have kept : ∀ {h}, HandSPX.FlyingZ B (X.env :: X.outer) a (Zc cls d) h → s1.heap.UpToSlots h → Inv X pins σ1 (upd H1 a (exk a cls d)) { s1 with heap := h } := fun {h} f up' => by
      obtain ⟨o, r, g, z, dd⟩ := f.there
      exact land_kept J nb f.1 (up.trans up') os ag na f.2.1 g z dd notF
    have T3 := into_suite (kept f3 up3) a
    refine wpAny_handleBy_cons (codeAny_handlers_test ?_) (by intro q; cases q)
    obtain ⟨o3, r3, g3, z3, _⟩ := f3.there
    have ty : PySem.W.Looks (model X.prog X.w) h3 (typeOf (.ref a)) cls := fun A Q E s k q => wpAny_typeOf_ref (k _ _ g3) (by rw [z3.1]; exact q)
    have named : ∀ {Q E : Value → Shared → Prop}, Q c { s1 with heap := h3 } → wpAny (model X.prog X.w) (X.A.mark (some (.ref a))) (eval (.Name x np) X.env) Q E { s1 with heap := h3 } := fun {Q E} q => by
      obtain ⟨hg, hdb, hm | ⟨hm, hv, hnn⟩⟩ := hc
      · exact ld_glob (X := X.suite a (X.pn ++ pins)) T3 hg hm q hdb
      · exact ld_blt (X := X.suite a (X.pn ++ pins)) T3 hg hm hv q hnn hdb
    refine named (PySem.W.exm_one (M := model X.prog X.w) T3.kIn ty e1 |>.here ?_)
    cases b with
    | true =>
      refine codeAny_handlers_suite_as (HandSPX.lands_againZ f3 fun h4 f4 up4 => ?_)
      refine store_ok (X := X.suite a (X.pn ++ pins)) (v := .ref a) (into_suite (kept f4 (up3.trans up4)) a) hN hi (.inl hln) rfl (fun s5 S5 => ?_) (.inr hln)
      refine wpAny_mono ((hsu a (X.pn ++ pins)).run [] s5 _ _ _ S5 (yes rfl a na)) (fun f s6 out => ?_) fun _ _ z => False.elim z
      have away : ∀ {σ6 : L2.St} {H6 : Hp} {Q : Shared → Prop}, Inv (X.suite a (X.pn ++ pins)) [] σ6 H6 s6 → (∀ s7, Inv X pins (σ6.set i none) H6 s7 → Q s7) →
          wpAny (model X.prog X.w) X.A (do bindName X.env n .none; unbindBehindTheSuite X.env n cpos) (fun _ s7 => Q s7) X.xe s6 := fun {_ _ _} S hq => gone_ok (out_suite ok S) hN hi hln hq
      cases f with
      | ret w => exact let ⟨v, _, _, S, r, q⟩ := out; away S fun _ J7 => ⟨v, _, _, J7, r, q⟩
      | next => exact let ⟨_, _, S, q⟩ := out; away S fun _ J7 => ⟨_, _, J7, q⟩
      | brk => exact let ⟨_, _, S, q⟩ := out; away S fun _ J7 => ⟨_, _, J7, q⟩
      | cont => exact let ⟨_, _, S, q⟩ := out; away S fun _ J7 => ⟨_, _, J7, q⟩
    | false =>
      refine wpAny_handleBy_nil ?_
      obtain ⟨_, _, _, oe, rec, tb1, _, _, he, _, hd, hr1, _⟩ := id f3
      unfold PySem.passOn
      refine wpAny_bind (wpAny_field he hd hr1 ?_)
      rw [if_neg (by simp)]
      have onward : wpAny (model X.prog X.w) X.A (setFlight (.ref a) X.env.frame) (fun _ s4 => wpAny (model X.prog X.w) X.A (throw (.ref a) : Sem Flow) (SP X pins D) X.xe s4) X.xe { s1 with heap := h3 } := by
        rw [hf]
        refine HandSPX.setFlight_upZ f3 fun h4 hh up4 => wpAny_throw (tk _ _ ⟨a, B, sI, pins, σ1, H1, cls, d, rfl, J, nb, (up.trans up3).trans up4, .inr (.inr (by rw [hs]; exact hh)), na, os, ag, no rfl⟩)
      first
        | exact wpAny_bind onward
        | exact wpAny_bind (wpAny_pure (wpAny_bind onward))
  refine wpAny_mono ((hb _ (X.pn ++ pins) later taken PassesOwn.looking).run [] s σ H D (I.toTry _) h) (fun f s1 out => ?_) fun _ _ z => z
  cases f with
  | ret w => exact let ⟨v, _, _, J, r, q⟩ := out; ⟨v, _, _, J.ofTry ok, r, q⟩
  | next => exact let ⟨_, _, J, q⟩ := out; wpAny_execs_nil ⟨_, _, J.ofTry ok, q⟩
  | brk => exact let ⟨_, _, J, q⟩ := out; ⟨_, _, J.ofTry ok, q⟩
  | cont => exact let ⟨_, _, J, q⟩ := out; ⟨_, _, J.ofTry ok, q⟩
end
end NN
namespace NN
open PySem PySem.Spec PyProof.Rows L2
/-! ### calls that may raise -/
section
variable {P : Program} {w : World} {K : PySem.W.Frag} {mg : Str → Option Value} {base : Heap} {k : Nat} {f C : Addr} {fd : FuncData} {ps : List Str} {sp : Sp} {x m : Str}
/-- a promise whose raising way can't be -/
def qt (sp : Sp) : Sp := fun vs H Q _ => sp vs H Q E0
theorem quietF (F : FnOk P w K mg base (L2.CX P w) k f fd ps sp) : FnOk P w K mg base CX0 k f fd ps (qt sp) :=
  ⟨fun vs H Q _ q => F.len vs H Q E0 q, fun A outer s H args us vs Q _ hr he hb hv hs => codeAny_mono (F.run A outer s H args us vs Q E0 hr he hb hv hs) fun r s' q => by
    cases r with
    | error e => exact let ⟨_, _, _, _, _, _, _, _, _, _, _, _, z⟩ := q; z.elim
    | ok fl => cases fl <;> exact q⟩
theorem FnAt.quiet (F : FnAt P w K mg base (L2.CX P w) k x ps sp) : FnAt P w K mg base CX0 k x ps (qt sp) := let ⟨f, fd, a, b, c, d⟩ := F; ⟨f, fd, a, b, c, quietF d⟩
theorem MtAt.quiet (F : MtAt P w K mg base (L2.CX P w) k C m ps sp) : MtAt P w K mg base CX0 k C m ps (qt sp) := let ⟨f, fd, a, b, c, d⟩ := F; ⟨f, fd, a, b, c, quietF d⟩
theorem MkAt.quiet (F : MkAt P w K mg base (L2.CX P w) k x C ps sp) : MkAt P w K mg base CX0 k x C ps (qt sp) := let ⟨f, fd, a, b, c, d⟩ := F; ⟨f, fd, a, b, c, quietF d⟩
theorem FnAt.imp {sp' : Sp} {CX : CXT} (F : FnAt P w K mg base CX k x ps sp) (h : ∀ vs H Q E, sp' vs H Q E → sp vs H Q E) : FnAt P w K mg base CX k x ps sp' := let ⟨f, fd, a, b, c, d⟩ := F; ⟨f, fd, a, b, c, d.imp h⟩
theorem MtAt.imp {sp' : Sp} {CX : CXT} (F : MtAt P w K mg base CX k C m ps sp) (h : ∀ vs H Q E, sp' vs H Q E → sp vs H Q E) : MtAt P w K mg base CX k C m ps sp' := let ⟨f, fd, a, b, c, d⟩ := F; ⟨f, fd, a, b, c, d.imp h⟩
theorem MkAt.imp {sp' : Sp} {CX : CXT} (F : MkAt P w K mg base CX k x C ps sp) (h : ∀ vs H Q E, sp' vs H Q E → sp vs H Q E) : MkAt P w K mg base CX k x C ps sp' := let ⟨f, fd, a, b, c, d⟩ := F; ⟨f, fd, a, b, c, d.imp h⟩
end
section
variable {X : Cx} {k : Nat} {x m : Str} {C f : Addr} {fd : FuncData} {ps : List Str} {sp : Sp} {e o : Expr} {es : List Expr} {t : TA} {ta : TE} {p pos apos : Pos} {E : XK} {W : WX}
/-! #### in a def that lets it out -/
theorem pe_fnX (F : FnAt X.prog X.w X.K X.mg X.base (L2.CX X.prog X.w) k x ps sp) (hr : Room k X.A) (tk : Takes X fun c d _ H => E c d H) (ha : PA X (e :: es) t) (hg : Gl X x := by rfl) (hdb : (x == ("__debug__" : Str)) = false := by decide)
    (he : starEach (e :: es) X.env = (false, eval e X.env) :: starEach es X.env := by rfl) (hpl : (backTo pos (starEach es X.env)).any (·.1) = false := by rfl) : PE X (.Call (.Name x p) (e :: es) [] pos) (tCall sp [] E t) :=
  let ⟨_, _, h1, h2, h3, h4⟩ := F
  pe_call h4 hr hg h1 h2 h3 .nil (passes_call tk fun _ _ _ _ h => h) ha hdb he hpl
theorem pe_mkX (F : MkAt X.prog X.w X.K X.mg X.base (L2.CX X.prog X.w) k x C ps sp) (hr : Room (k + 1) X.A) (tk : Takes X fun c d _ H => E c d H) (ha : PA X (e :: es) t) (hg : Gl X x := by rfl) (hdb : (x == ("__debug__" : Str)) = false := by decide)
    (he : starEach (e :: es) X.env = (false, eval e X.env) :: starEach es X.env := by rfl) (hpl : (backTo pos (starEach es X.env)).any (·.1) = false := by rfl) : PE X (.Call (.Name x p) (e :: es) [] pos) (tMake C sp [] E t) :=
  let ⟨_, _, h1, h2, h3, h4⟩ := F
  pe_make h2 h4 hr hg h1 h3 .nil (passes_call tk fun _ _ _ _ h => h) ha hdb he hpl
theorem pe_mtX {pl : Sem Bool} (F : MtAt X.prog X.w X.K X.mg X.base (L2.CX X.prog X.w) k C m ps sp) (ho : PE X o ta) (hr : Room k X.A) (tk : Takes X fun c d _ H => E c d H) (ha : PA X (e :: es) t)
    (hst : starEach (e :: es) X.env = (false, eval e X.env) :: starEach es X.env := by rfl) (hpl : (backTo pos (starEach es X.env)).any (·.1) = false := by rfl)
    (ht : eval (.Call (.Attribute o m apos) (e :: es) [] pos) X.env = (do
      let ov ← eval o X.env
      standAt apos.atName
      let (f, first) ← holding [ov] (getMethod ov m pl)
      callWith pos f first (backTo pos (starEach (e :: es) X.env)) (backToKw pos (keywordEach [] X.env))) := by rfl) : PE X (.Call (.Attribute o m apos) (e :: es) [] pos) (tMeth C m sp [] E ta t) :=
  let ⟨_, _, h1, h2, h3, h4⟩ := F
  pe_meth (pl := pl) ho h1 h2 h4 hr h3 .nil (passes_call tk fun _ _ _ _ h => h) ha hst hpl ht
theorem pe_mtX0 {pl : Sem Bool} (F : MtAt X.prog X.w X.K X.mg X.base (L2.CX X.prog X.w) k C m ps sp) (ho : PE X o ta) (hr : Room k X.A) (tk : Takes X fun c d _ H => E c d H)
    (ht : eval (.Call (.Attribute o m apos) [] [] pos) X.env = (do
      let ov ← eval o X.env
      standAt apos.atName
      let (f, first) ← holding [ov] (getMethod ov m pl)
      callWith pos f first (backTo pos (starEach [] X.env)) (backToKw pos (keywordEach [] X.env))) := by rfl) : PE X (.Call (.Attribute o m apos) [] [] pos) (tMeth C m sp [] E ta tNil) :=
  let ⟨_, _, h1, h2, h3, h4⟩ := F
  pe_meth0 (pl := pl) ho h1 h2 h4 hr h3 .nil (passes_call tk fun _ _ _ _ h => h) ht
/-! #### in a try's body -/
theorem pe_fnS (F : FnAt X.prog X.w X.K X.mg X.base (L2.CX X.prog X.w) k x ps sp) (hr : Room k X.A) (tk : Takes X W) (ha : PA X (e :: es) t) (hg : Gl X x := by rfl) (hdb : (x == ("__debug__" : Str)) = false := by decide)
    (he : starEach (e :: es) X.env = (false, eval e X.env) :: starEach es X.env := by rfl) (hpl : (backTo pos (starEach es X.env)).any (·.1) = false := by rfl) : PE X (.Call (.Name x p) (e :: es) [] pos) (tCallS sp (WE W) t) :=
  let ⟨_, _, h1, h2, h3, h4⟩ := F
  pe_callS h4 hr hg h1 h2 h3 (fun σ => passAt tk σ) ha hdb he hpl
def tMakeS (C : Addr) (sp : Sp) (W : WX) (t : TA) : TE := fun σ H Q => t σ H fun vs H1 => ∀ x dx, H1 x = none → H1 dx = none → dx ≠ x → sp (.ref x :: vs) (upd (upd H1 dx (.own x)) x (.ins C dx [])) (fun v H2 => v = .non ∧ Q (.ref x) H2) (WE W σ)
def tMethS (C : Addr) (m : Str) (sp : Sp) (W : WX) (ta : TE) (t : TA) : TE := fun σ H Q => ta σ H fun x H1 => ∃ a dx fs, x = .ref a ∧ H1 a = some (.ins C dx fs) ∧ fs.lookup m = none ∧ t σ H1 fun vs H2 => sp (x :: vs) H2 Q (WE W σ)
theorem mk_run {pins : List (Addr × Obj)} {σ : L2.St} {H : Hp} {s : Shared} {Q : VK} {us : List Value} {vs : List V} (M : Mk X.K C f) (F : FnOk X.prog X.w X.K X.mg X.base (L2.CX X.prog X.w) k f fd ps sp) (hr : Room (k + 1) X.A) (bd : Binds X.K fd ps [])
    (tk : Takes X W) (I : Inv X pins σ H s) (rv : Vals vs us)
    (h : ∀ x dx, H x = none → H dx = none → dx ≠ x → sp (.ref x :: vs) (upd (upd H dx (.own x)) x (.ins C dx [])) (fun v H2 => v = .non ∧ Q (.ref x) H2) (WE W σ)) : wpAny (model X.prog X.w) X.A (call (.ref C) us) (EP X pins σ Q) X.xe s := by
  let n := s.heap.objs.size
  have todo := h (n + 1) n (I.hok.fresh (Nat.le_succ n)) (I.hok.fresh (Nat.le_refl n)) (Nat.ne_of_lt (Nat.lt_succ_self n))
  have J := Inv.made (C := C) I
  have rv' : Vals (V.ref (n + 1) :: vs) (Value.ref (n + 1) :: us) := .cons rfl rv
  have many : (Value.ref (n + 1) :: us).length = ps.length := by rw [← rv'.length]; exact F.len _ _ _ _ todo
  have bound := bd _ (Value.ref (n + 1) :: us) J.kIn (by rw [List.append_nil]; exact many)
  rw [List.append_nil] at bound
  refine wpAny_call (make_map (f := f) I.kIn M.makes M.init (beq_iff_eq.mp M.fn) (codeAny_mono (F.run _ X.stack _ _ ⟨Value.ref (n + 1) :: us, []⟩ _ _ _ (WE W σ) (hr.make C us []) (J.env0.make C us []) bound rv' todo) fun r s1 out => ?_))
  match r, out with
  | .error e, out => exact passAt tk σ pins _ _ e s1 J out
  | .ok (.ret u), out =>
    obtain ⟨_, H1, J1, r1, rfl, q⟩ := J.after out
    exact ⟨r1, ⟨V.ref (n + 1), H1, J1, rfl, q⟩⟩
theorem pe_mkS (F : MkAt X.prog X.w X.K X.mg X.base (L2.CX X.prog X.w) k x C ps sp) (hr : Room (k + 1) X.A) (tk : Takes X W) (ha : PA X (e :: es) t) (hg : Gl X x := by rfl) (hdb : (x == ("__debug__" : Str)) = false := by decide)
    (he : starEach (e :: es) X.env = (false, eval e X.env) :: starEach es X.env := by rfl) (hpl : (backTo pos (starEach es X.env)).any (·.1) = false := by rfl) : PE X (.Call (.Name x p) (e :: es) [] pos) (tMakeS C sp W t) := by
  obtain ⟨_, _, h1, h2, h3, h4⟩ := F
  refine ⟨fun pins s σ H Q I h => wpAny_Call_Name_kw (ld_glob I hg h1 ?_ hdb)⟩
  exact PySem.W.callWith_K (h₀ := X.base) I.ok.mod.kin h2.kp (thn (ha.run pos pins s σ H _ I h) fun us s1 ⟨vs, H1, I1, r, q⟩ => ⟨I1.kIn, mk_run h2 h4 hr h3 tk I1 r q⟩) he hpl
theorem pe_mtS {pl : Sem Bool} (F : MtAt X.prog X.w X.K X.mg X.base (L2.CX X.prog X.w) k C m ps sp) (ho : PE X o ta) (hr : Room k X.A) (tk : Takes X W) (ha : PA X (e :: es) t)
    (hst : starEach (e :: es) X.env = (false, eval e X.env) :: starEach es X.env := by rfl) (hpl : (backTo pos (starEach es X.env)).any (·.1) = false := by rfl)
    (ht : eval (.Call (.Attribute o m apos) (e :: es) [] pos) X.env = (do
      let ov ← eval o X.env
      standAt apos.atName
      let (f, first) ← holding [ov] (getMethod ov m pl)
      callWith pos f first (backTo pos (starEach (e :: es) X.env)) (backToKw pos (keywordEach [] X.env))) := by rfl) : PE X (.Call (.Attribute o m apos) (e :: es) [] pos) (tMethS C m sp W ta t) := by
  obtain ⟨_, _, h1, h2, h3, h4⟩ := F
  refine ⟨fun pins s σ H Q I h => PySem.W.methodCall_KW (pl := pl) (thn (ho.run pins s σ H _ I h) fun u s1 y => ?_) ht⟩
  obtain ⟨_, H1, I1, rx, a, dx, fs, rfl, ea, l, q⟩ := y
  cases rx
  refine getmeth_ok I1 ea h1 h2 l (PySem.W.callWith_K (first := [.ref a]) (h₀ := X.base) I.ok.mod.kin h2.kp (thn (ha.run pos pins s1 σ H1 _ I1 q) fun us s2 ⟨vs, H2, I2, r, q2⟩ => ⟨I2.kIn, ?_⟩) hst hpl)
  exact run_fnS (us := .ref a :: us) (vs := .ref a :: vs) (E := WE W) h4 hr h3 (passAt tk σ) I2 (.cons rfl r) q2
theorem pe_mtS0 {pl : Sem Bool} (F : MtAt X.prog X.w X.K X.mg X.base (L2.CX X.prog X.w) k C m ps sp) (ho : PE X o ta) (hr : Room k X.A) (tk : Takes X W)
    (ht : eval (.Call (.Attribute o m apos) [] [] pos) X.env = (do
      let ov ← eval o X.env
      standAt apos.atName
      let (f, first) ← holding [ov] (getMethod ov m pl)
      callWith pos f first (backTo pos (starEach [] X.env)) (backToKw pos (keywordEach [] X.env))) := by rfl) : PE X (.Call (.Attribute o m apos) [] [] pos) (tMethS C m sp W ta tNil) := by
  obtain ⟨_, _, h1, h2, h3, h4⟩ := F
  refine ⟨fun pins s σ H Q I h => PySem.W.methodCall_KW (pl := pl) (thn (ho.run pins s σ H _ I h) fun u s1 y => ?_) ht⟩
  obtain ⟨_, H1, I1, rx, a, dx, fs, rfl, ea, l, q⟩ := y
  cases rx
  exact getmeth_ok I1 ea h1 h2 l (PySem.W.callWith_K0 (first := [.ref a]) I1.kIn h2.kp (run_fnS (us := [.ref a]) (vs := [.ref a]) (E := WE W) h4 hr h3 (passAt tk σ) I1 (.cons rfl .nil) q))
end
/-! ### raise C(e), C's own __init__ storing one field -/
section
variable (P : Program) (w : World) (K : PySem.W.Frag) (mg : Str → Option Value) (base : Heap) (k : Nat)
def XmAt (x : Str) (C : Addr) (ps : List Str) (sp : Sp) : Prop := ∃ f fd, mg x = some (.ref C) ∧ OexC K C ∧ PySem.W.findIn K (.ref C) "__init__" = some (some (.ref f)) ∧ PySem.W.typeIn K (.ref f) = some (.type "function") ∧ Binds K fd ps [] ∧ FnOk P w K mg base CX0 k f fd ps sp
end
/-- C.__init__: it takes y, of which ok holds, and stores it under f -/
def spXm (C : Addr) (f : Str) (ok : V → Hp → Prop) : Sp := fun vs H Q _ => ∃ a y, vs = [.ref a, y] ∧ H a = some (exo a C none) ∧ ok y H ∧ ∀ dx, H dx = none → dx ≠ a → Q .non (upd (upd H dx (exd dx [(f, y)])) a (exo a C (some dx)))
section
variable {X : Cx} {k : Nat} {x : Str} {C : Addr} {ps : List Str} {sp : Sp} {e : Expr} {es : List Expr} {t : TA} {p pos : Pos}
theorem pmk_x (F : XmAt X.prog X.w X.K X.mg X.base k x C ps sp) (hr : Room (k + 1) X.A) (ha : PA X (e :: es) t) (hg : Gl X x := by rfl) (hdb : (x == ("__debug__" : Str)) = false := by decide)
    (he : starEach (e :: es) X.env = (false, eval e X.env) :: starEach es X.env := by rfl) (hpl : (backTo pos (starEach es X.env)).any (·.1) = false := by rfl) : PMk X (.Call (.Name x p) (e :: es) [] pos) (tMkO C sp [] t) :=
  let ⟨_, _, h1, h2, h3, h4, h5, h6⟩ := F
  pmk_oex h2 h3 h4 h6 hr h5 .nil (fun _ _ _ _ _ _ _ h => h.elim) hg h1 ha hdb he hpl
def cl (t : TA) : TA := fun σ H R => ∃ Q, t σ H Q ∧ ∀ vs H1, Q vs H1 → R vs H1
theorem pa_cl (ha : PA X es t) : PA X es (cl t) := ⟨fun pos pins s σ H R I h => thn (ha.run pos pins s σ H h.choose I h.choose_spec.1) fun us s1 y => let ⟨vs, H1, I1, r, q⟩ := y; ⟨vs, H1, I1, r, h.choose_spec.2 vs H1 q⟩⟩
/-- the reading of C(e) behind «raise»: dx is the error's own dict, new -/
def tXm (C : Addr) (f : Str) (ok : V → Hp → Prop) (t : TA) : L2.St → Hp → XK → Prop := fun σ H Q => t σ H fun vs H1 => ∃ y, vs = [y] ∧ (∀ a, H1 a = none → ok y (upd H1 a (exo a C none))) ∧ ∀ dx, H1 dx = none → Q (.ref C) (some dx) (upd H1 dx (.xd [(f, y)]))
theorem pmk_xm {f : Str} {ok : V → Hp → Prop} (F : XmAt X.prog X.w X.K X.mg X.base k x C ps (spXm C f ok)) (hr : Room (k + 1) X.A) (ha : PA X (e :: es) t) (hg : Gl X x := by rfl) (hdb : (x == ("__debug__" : Str)) = false := by decide)
    (he : starEach (e :: es) X.env = (false, eval e X.env) :: starEach es X.env := by rfl) (hpl : (backTo pos (starEach es X.env)).any (·.1) = false := by rfl) : PMk X (.Call (.Name x p) (e :: es) [] pos) (tXm C f ok t) := by
  intro pins s σ H Q I h
  refine pmk_x F hr (pa_cl ha) hg hdb he hpl pins s σ H Q I ⟨_, h, fun vs H1 h => ?_⟩
  obtain ⟨y, rfl, ho, h⟩ := h
  refine ⟨by simp, fun a na => ⟨a, y, rfl, upd_same, ho a na, fun dx ndx ne => ⟨rfl, dx, [(f, y)], upd_same, ?_, ?_, ?_⟩⟩⟩
  · rw [upd_ne ne]; exact upd_same
  · rw [upd_ne ne] at ndx; exact ndx
  · rw [upd_ne ne] at ndx
    have z := h dx ndx
    have e : upd (del (upd (upd (upd H1 a (exo a C none)) dx (exd dx [(f, y)])) a (exo a C (some dx))) a) dx (.xd [(f, y)]) = upd H1 dx (.xd [(f, y)]) := by
      funext b
      by_cases hb : b = dx
      · rw [hb, upd_same, upd_same]
      · rw [upd_ne hb, upd_ne hb]
        by_cases hba : b = a
        · rw [hba, del_same, na]
        · rw [del_ne hba, upd_ne hba, upd_ne hb, upd_ne hba]
    rw [e]; exact z
end
end NN
namespace NN
open PySem PySem.Spec PyProof.Rows L2
/-! ### list.count of plain values -/
def rCntF (K : PySem.W.Frag) : V → List V → Hp → VK → Prop := fun x xs H Q => ∃ (a : Addr) (ys : List V) (y : V), x = .ref a ∧ xs = [y] ∧ SqL K H a ys ∧ flatV y = true ∧ ys.all flatV = true ∧ Q (.int (ys.countP fun z => eqV z y : Nat)) H
theorem count_vals {y : V} : ∀ {ys : List V} {us : List Value}, Vals ys us → ys.all flatV = true → us.countP (eqU y) = ys.countP (fun z => eqV z y)
  | _, _, .nil, _ => rfl
  | _ :: _, _ :: _, .cons r rs, f => by
    rw [List.all_cons, Bool.and_eq_true] at f
    rw [List.countP_cons, List.countP_cons, count_vals rs f.2, eqU_of r f.1]
theorem mt_countF {X : Cx} : MtR X "list.count" (rCntF X.K) := by
  intro pins s σ H x xs v us Q I rx rxs h
  obtain ⟨a, ys, y, rfl, rfl, hs, fy, fys, q⟩ := h
  cases rx
  cases rxs with
  | cons ry rt =>
    rename_i uy ut
    cases rt
    obtain ⟨its, rv, ⟨⟨cls, dd, data, sl⟩, n, ho, hc, hdn, hd⟩, hlen⟩ := I.list hs
    simp only at hc hd
    subst hc hd
    refine call_meets PySem.F.slot_list_count ⟨_, ho, rfl⟩ PySem.F.entry_list_count (PySem.F.args_list_count_2 _ _)
      (SeqAt.list_countAt a its.toArray n dd sl uy (eqU y)) ⟨ho, fun u' hu' => mem_eqAt ry fy rv fys u' (by simpa using hu'), ?_⟩
    have ec : its.toArray.toList.countP (eqU y) = ys.countP fun z => eqV z y := by
      rw [List.toList_toArray]
      exact count_vals rv fys
    refine ⟨.int (ys.countP fun z => eqV z y : Nat), H, I.tok _, ⟨s.toks, ?_⟩, q⟩
    show Value.int ((its.toArray.toList.countP (eqU y) : Nat) : Int) s.toks = _
    rw [ec]
theorem mt_countK {X : Cx} {K : PySem.W.Frag} (h : X.K = K) : MtR X "list.count" (rCntF K) := by subst h; exact mt_countF
end NN
namespace NN
open PySem PySem.Spec PyProof.Rows L2
section
variable {K : PySem.W.Frag} {σ : L2.St} {H : Hp} {Q : VK} {D : Ends} {ta te : TE} {t : TA} {sp : Sp} {W : WX} {C : Addr} {m f : Str}
theorem e_callS {E : L2.St → XK} : tCallS sp E t σ H Q = t σ H (fun vs H1 => sp vs H1 Q (E σ)) := rfl
theorem e_makeS : tMakeS C sp W t σ H Q = t σ H (fun vs H1 => ∀ x dx, H1 x = none → H1 dx = none → dx ≠ x → sp (.ref x :: vs) (upd (upd H1 dx (.own x)) x (.ins C dx [])) (fun v H2 => v = .non ∧ Q (.ref x) H2) (WE W σ)) := rfl
theorem e_methS : tMethS C m sp W ta t σ H Q = ta σ H (fun x H1 => ∃ a dx fs, x = .ref a ∧ H1 a = some (.ins C dx fs) ∧ fs.lookup m = none ∧ t σ H1 fun vs H2 => sp (x :: vs) H2 Q (WE W σ)) := rfl
theorem e_xm {ok : V → Hp → Prop} {QX : XK} : tXm C f ok t σ H QX = t σ H (fun vs H1 => ∃ y, vs = [y] ∧ (∀ a, H1 a = none → ok y (upd H1 a (exo a C none))) ∧ ∀ dx, H1 dx = none → QX (.ref C) (some dx) (upd H1 dx (.xd [(f, y)]))) := rfl
theorem e_veI : tVeI K t σ H Q = t σ H (fun vs H1 => ∃ (a C : Addr) (ws : List V), vs = .ref a :: ws ∧ ws.length ≤ 1000 ∧ OexC K C ∧ H1 a = some (exo a C none) ∧ Q .non H1) := rfl
theorem e_xfd : tXfd K te f σ H Q = te σ H (fun x H1 => ∃ (a C : Addr) (d : Option Addr) (fs : List (Str × V)) (v : V), x = .ref a ∧ IsE H1 a (.ref C) d ∧ HasF H1 d fs ∧ XfC K C ∧ PySem.W.findIn K (.ref C) f = some none ∧ fs.lookup f = some v ∧ Q v H1) := rfl
theorem g_callS {E : L2.St → XK} (q : t σ H fun vs H1 => sp vs H1 Q (E σ)) : tCallS sp E t σ H Q := q
end
/-! ### the seven classes -/
structure Er (K : PySem.W.Frag) (mg : Str → Option Value) (CN : Addr) (n fl : Str) (C : Addr) : Prop where
  mg : mg n = some (.ref C)
  ex : ExcC K C
  cls : PySem.W.isClsIn K C = true
  ty : PySem.W.typeIn K (.ref C) = some (.type "type")
  ve : PySem.W.subIn K (.ref C) (.type "ValueError") = some true
  no : PySem.W.findIn K (.ref C) fl = some none
  me : PySem.W.subIn K (.ref C) (.ref C) = some true
  sn : PySem.W.subIn K (.ref C) (.ref CN) = some true
theorem Er.xf {K : PySem.W.Frag} {mg : Str → Option Value} {CN C : Addr} {n fl : Str} (e : Er K mg CN n fl C) : XfC K C := ⟨e.ex.hg, e.ex.hk, e.ex.hs, e.ex.hd⟩
structure Ne (K : PySem.W.Frag) (mg : Str → Option Value) (CN : Addr) : Prop where
  mg : mg "NewError" = some (.ref CN)
  sb : PySem.W.subIn K (.ref CN) (.type "BaseException") = some true
  hd : PySem.W.hasDictIn K CN = true
  ty : PySem.W.typeIn K (.ref CN) = some (.type "type")
  ini : InC K CN
theorem Er.exm {K : PySem.W.Frag} {mg : Str → Option Value} {CN C : Addr} {n fl : Str} (e : Er K mg CN n fl C) (N : Ne K mg CN) : PySem.W.exmOne K (.ref C) (.ref CN) = some true := PySem.W.exm_ref N.sb N.hd N.ty e.sn
def Kits (K : PySem.W.Frag) (D : Addr) : List Addr → List Bool → Prop
  | C :: Cs, b :: bs => PySem.W.kitOne K (.ref D) (.ref C) = some b ∧ Kits K D Cs bs
  | _, _ => True
/-- word, field's name -/
def wrds : List Str := ["name", "twice", "missing", "held", "letgo", "spare", "row"]
def fldn : List Str := ["name", "name", "name", "name", "name", "ring", "row"]
def marks (i : Nat) : List Bool := (List.range 7).map (· == i)
structure ErrX (K : PySem.W.Frag) (mg : Str → Option Value) (CN : Addr) (L : List Addr) : Prop where
  n : Ne K mg CN
  at_ : ∀ i C, L[i]? = some C → ∃ nm fl, fldn[i]? = some fl ∧ Er K mg CN nm fl C ∧ Kits K C L (marks i)
/-- _law_word_of: the error of the i-th class at a, v the value of its field -/
def spWordOf (L : List Addr) : Sp := fun vs H Q _ => ∃ (a : Addr) (i : Nat) (C : Addr) (d : Option Addr) (fs : List (Str × V)) (v : V), vs = [.ref a] ∧ L[i]? = some C ∧ i < 7 ∧ IsE H a (.ref C) d ∧ HasF H d fs ∧
  (∀ f, fldn[i]? = some f → (i = 0 ∧ v = .non) ∨ (i ≠ 0 ∧ fs.lookup f = some v)) ∧ ∀ p H' w, wrds[i]? = some w → H p = none → Kp [] H H' → H' p = some (.tup [.str w, v]) → Q (.ref p) H'
end NN
namespace NN
open PySem PySem.Spec PyProof.Rows L2
theorem mk7 {K : PySem.W.Frag} {mg : Str → Option Value} {CN C0 C1 C2 C3 C4 C5 C6 : Addr} (n : Ne K mg CN)
    (e0 : Er K mg CN "NoName" "name" C0) (e1 : Er K mg CN "Twice" "name" C1) (e2 : Er K mg CN "Missing" "name" C2) (e3 : Er K mg CN "Held" "name" C3) (e4 : Er K mg CN "LetGo" "name" C4) (e5 : Er K mg CN "NoSpare" "ring" C5) (e6 : Er K mg CN "NoRow" "row" C6)
    (k0 : Kits K C0 [C0, C1, C2, C3, C4, C5, C6] (marks 0)) (k1 : Kits K C1 [C0, C1, C2, C3, C4, C5, C6] (marks 1)) (k2 : Kits K C2 [C0, C1, C2, C3, C4, C5, C6] (marks 2)) (k3 : Kits K C3 [C0, C1, C2, C3, C4, C5, C6] (marks 3))
    (k4 : Kits K C4 [C0, C1, C2, C3, C4, C5, C6] (marks 4)) (k5 : Kits K C5 [C0, C1, C2, C3, C4, C5, C6] (marks 5)) (k6 : Kits K C6 [C0, C1, C2, C3, C4, C5, C6] (marks 6)) : ErrX K mg CN [C0, C1, C2, C3, C4, C5, C6] :=
  ⟨n, fun i C h => match i, h with
    | 0, h => by cases h; exact ⟨_, _, rfl, e0, k0⟩
    | 1, h => by cases h; exact ⟨_, _, rfl, e1, k1⟩
    | 2, h => by cases h; exact ⟨_, _, rfl, e2, k2⟩
    | 3, h => by cases h; exact ⟨_, _, rfl, e3, k3⟩
    | 4, h => by cases h; exact ⟨_, _, rfl, e4, k4⟩
    | 5, h => by cases h; exact ⟨_, _, rfl, e5, k5⟩
    | 6, h => by cases h; exact ⟨_, _, rfl, e6, k6⟩
    | i + 7, h => by simp at h⟩
/-- an own class without own __init__ -/
structure OwnX (K : PySem.W.Frag) (C : Addr) : Prop where
  x : PySem.W.excIn K C [.type "ValueError", .type "Exception", .type "BaseException", .type "object"] "ValueError.__new__" = true
  k : PySem.W.keepIn K (.ref C) = true
  b : PySem.W.subIn K (.ref C) (.type "BaseException") = some true
  t : PySem.W.typeIn K (.ref C) = some (.type "type")
theorem pmk_o {X : Cx} {C : Addr} {x m : Str} {j : Nat} {p p2 pos : Pos} (T : OwnX X.K C) (g : X.mg x = some (.ref C)) (hg : Gl X x := by rfl) (hdb : (x == ("__debug__" : Str)) = false := by decide) :
    PMk X (.Call (.Name x p) [.Constant (.str m) j p2] [] pos) (fun _ H Q => Q (.ref C) none H) := pmk_own PySem.F.excBase_ValueError T.x g T.k (raises_own T.b T.t) hg hdb
/-- an error: which class, what its field has -/
abbrev Err := Nat × D
/-- all ways to leave by the error e, all but S being as in H -/
def Leave (L : List Addr) (e : Err) (S : List Addr) (E : XK) (H : Hp) : Prop := ∀ C d fs H', L[e.1]? = some C → Kp S H H' → HasF H' d fs →
  (∀ f, fldn[e.1]? = some f → (e.1 = 0 ∧ e.2 = .v .non) ∨ (e.1 ≠ 0 ∧ ∃ v, fs.lookup f = some v ∧ ∀ S', Live S' H → At S' H' v e.2)) → E (.ref C) d H'
theorem Leave.no {L : List Addr} {d : D} {S : List Addr} {E : XK} {H H' : Hp} {C : Addr} (h : Leave L (0, d) S E H) (hd : d = .v .non) (hC : L[0]? = some C) (k : Kp S H H') : E (.ref C) none H' :=
  h C none [] H' hC k rfl fun f _ => .inl ⟨rfl, hd⟩
theorem Leave.one {L : List Addr} {e : Err} {S : List Addr} {E : XK} {H H' : Hp} {C dx : Addr} {f : Str} {y : V} (h : Leave L e S E H) (h0 : e.1 ≠ 0) (hf : fldn[e.1]? = some f) (hC : L[e.1]? = some C) (k : Kp S H H') (hd : H' dx = none) (at_ : ∀ S', Live S' H → At S' H' y e.2) : E (.ref C) (some dx) (upd H' dx (.xd [(f, y)])) :=
  h C (some dx) [(f, y)] _ hC (fun a o q n => (Kp.new (S := S) hd) a o (k a o q n) n) (.inl upd_same) fun g hg => .inr (by
    rw [hf] at hg; cases hg
    exact ⟨h0, y, by simp [List.lookup], fun S' l => (at_ S' l).kp (Kp.new (S := []) hd) (by simp)⟩)
end NN
namespace NN
open PySem L2
def okName : V → Hp → Prop := fun _ _ => True
def okRing : V → Hp → Prop := fun y H => ∃ t x xs, y = .ref t ∧ H t = some (.tup (x :: xs))
def okRow : V → Hp → Prop := fun y _ => ∃ i : Int, y = .int i ∧ i.natAbs.log2 < 1920
end NN
namespace NN
open PySem L2
theorem g_isX {K : PySem.W.Frag} {H : Hp} {Q : VK} {a D C : Addr} {d : Option Addr} {fs : List (Str × V)} {b : Bool} (he : IsE H a (.ref D) d) (hf : HasF H d fs) (ex : ExcC K D) (k : PySem.W.kitOne K (.ref D) (.ref C) = some b) (q : Q (.bl b) H) : rIsX K [.ref a, .ref C] H Q :=
  ⟨a, D, d, fs, .ref C, .ref C, b, rfl, he, hf, ex, fun _ h => h, k, q⟩
theorem g_isVE {K : PySem.W.Frag} {H : Hp} {Q : VK} {a D : Addr} {d : Option Addr} {fs : List (Str × V)} (he : IsE H a (.ref D) d) (hf : HasF H d fs) (ex : ExcC K D) (k : PySem.W.subIn K (.ref D) (.type "ValueError") = some true) (q : Q (.bl true) H) : rIsX K [.ref a, .ty "ValueError"] H Q :=
  ⟨a, D, d, fs, .ty "ValueError", .type "ValueError", true, rfl, he, hf, ex, fun _ h => h, kit_ve k, q⟩
end NN
namespace NN
open PySem L2
theorem g_addLk {H : Hp} {Q : VK} {a b : Addr} {xs ys : List V} (ha : H a = some (.lst xs)) (hb : H b = some (.lst ys)) (hs : xs.length + ys.length ≤ sizeLine) (q : ∀ p H', H p = none → Kp [] H H' → H' p = some (.lst (xs ++ ys)) → Q (.ref p) H') : rAddU (.ref a) (.ref b) H Q :=
  g_addL ha hb hs fun p hp => q p _ hp (Kp.new hp) upd_same
theorem g_count {K : PySem.W.Frag} {H : Hp} {Q : VK} {a : Addr} {ys : List V} {y : V} (h : H a = some (.lst ys)) (fy : flatV y = true) (f : ys.all flatV = true) (n : Nat) (hn : (ys.countP fun z => eqV z y) = n) (q : Q (.int n) H) : rCntF K (.ref a) [y] H Q :=
  ⟨a, ys, y, rfl, rfl, SqL.of h, fy, f, by rw [hn]; exact q⟩
theorem g_index {K : PySem.W.Frag} {H : Hp} {Q : VK} {a : Addr} {ys : List V} {y z : V} (h : H a = some (.lst ys)) (fy : flatV y = true) (f : ys.all flatV = true) (j : Nat) (hj : ys[j]? = some z) (he : eqV z y = true) (hno : ∀ (m : Nat) (z' : V), m < j → ys[m]? = some z' → eqV z' y = false) (q : Q (.int j) H) : rIndex K (.ref a) [y] H Q :=
  ⟨a, ys, y, j, z, rfl, rfl, SqL.of h, fy, f, hj, he, hno, q⟩
end NN
namespace NN
open PySem L2
theorem g_mark {K : PySem.W.Frag} {H : Hp} {Q : VK} {a : Addr} {i : Nat} (hi : i < 7) (h : H a = some (.lst ((marks i).map V.bl))) (q : Q (.int i) H) : rIndex K (.ref a) [.bl true] H Q := by
  have : i = 0 ∨ i = 1 ∨ i = 2 ∨ i = 3 ∨ i = 4 ∨ i = 5 ∨ i = 6 := by omega
  have f : ∀ m z' j, j < 7 → m < j → ((marks j).map V.bl)[m]? = some z' → eqV z' (.bl true) = false := fun m z' j hj hm e => by
    have hm7 : m < 7 := by omega
    rw [List.getElem?_map, marks, List.getElem?_map, List.getElem?_range hm7] at e
    cases e
    have : (m == j) = false := by simp; omega
    simp [this, eqV]
  rcases this with rfl | rfl | rfl | rfl | rfl | rfl | rfl
  all_goals exact g_index h rfl rfl _ (z := .bl true) rfl rfl (fun m z' hm e => f m z' _ (by decide) hm e) q
end NN
namespace NN
open PySem L2
/-- an error that is caught and kept -/
theorem leave_kept {K : PySem.W.Frag} {mg : Str → Option Value} {CN : Addr} {L : List Addr} {e : Err} {S : List Addr} {H : Hp} {σ : L2.St} {i : Nat} {ts : TS} {Wout : WX} {D : Ends} (T : ErrX K mg CN L) (hL : L.length = 7)
    (h : ∀ (a C : Addr) (d : Option Addr) (fs : List (Str × V)) (v : V) (H2 : Hp), L[e.1]? = some C → e.1 < 7 → Kp S H H2 → IsE H2 a (.ref C) d → HasF H2 d fs → (∀ f, fldn[e.1]? = some f → (e.1 = 0 ∧ v = .non) ∨ (e.1 ≠ 0 ∧ fs.lookup f = some v)) → (∀ S', Live S' H → At S' H2 v e.2) →
      ts ⟨fun σ1 H1 => D.nx (σ1.set i none) H1, D.rt, fun σ1 H1 => D.bk (σ1.set i none) H1, fun σ1 H1 => D.ct (σ1.set i none) H1⟩ (σ.set i (some (.ref a))) H2) : Leave L e S (WE (wKeep K (.ref CN) i ts Wout D) σ) H := fun C d fs H' hC k hf hv => by
  obtain ⟨nm, fl, hfl, er, _⟩ := T.at_ e.1 C hC
  refine ⟨true, er.exm T.n, fun _ a ha => ?_, fun z => nomatch z⟩
  have h7 : e.1 < 7 := by have := (List.getElem?_eq_some_iff.mp hC).1; omega
  have ka : Kp [] H' (upd H' a (exk a (.ref C) d)) := Kp.new ha
  rcases hv fl hfl with ⟨h0, he⟩ | ⟨h0, v, hl, hat⟩
  · exact h a C d fs .non _ hC h7 (k.upn ha) (.inl upd_same) (hf.kp ka (by simp)) (fun f _ => .inl ⟨h0, rfl⟩) (fun S' _ => by rw [he]; exact .v _)
  · exact h a C d fs v _ hC h7 (k.upn ha) (.inl upd_same) (hf.kp ka (by simp)) (fun f hf' => by rw [hfl] at hf'; cases hf'; exact .inr ⟨h0, hl⟩) (fun S' l => (hat S' l).kp ka (by simp))
def wrdOf (i : Nat) : Str := wrds.getD i ""
theorem wrd_at {i : Nat} {w : Str} (h : wrds[i]? = some w) : w = wrdOf i := by unfold wrdOf; rw [List.getD_eq_getElem?_getD, h]; rfl
end NN
/-! the first fault of some pairs -/
namespace NN
open PySem L2
def badN (p : Str × Option Str) : Bool := !isName p.1 || (match p.2 with | none => false | some n => !isName n)
def fault (seen : Pr) (p : Str × Option Str) : Option Err :=
  if badN p = true then some (0, .v .non) else if p.1 ∈ keys seen then some (1, .v (.str p.1)) else match p.2 with
    | none => none
    | some n => if n ∈ NN.news seen then some (1, .v (.str n)) else none
def firstF (prs : Pr) : Option Err := (List.range prs.length).findSome? fun i => (prs[i]?).bind (fault (prs.take i))
def NoF (prs : Pr) (i : Nat) : Prop := ∀ j p, j < i → prs[j]? = some p → fault (prs.take j) p = none
theorem NoF.zero (prs : Pr) : NoF prs 0 := fun _ _ h => absurd h (Nat.not_lt_zero _)
theorem NoF.next {prs : Pr} {i : Nat} {p : Str × Option Str} (h : NoF prs i) (hp : prs[i]? = some p) (e : fault (prs.take i) p = none) : NoF prs (i + 1) := fun j q hj hq => by
  by_cases z : j = i
  · subst z; rw [hp] at hq; cases hq; exact e
  · exact h j q (by omega) hq
theorem firstF_at {prs : Pr} {i : Nat} {p : Str × Option Str} {e : Err} (h : NoF prs i) (hp : prs[i]? = some p) (he : fault (prs.take i) p = some e) : firstF prs = some e := by
  have hi := (List.getElem?_eq_some_iff.mp hp).1
  unfold firstF
  have : List.range prs.length = List.range i ++ (i :: (List.range (prs.length - i - 1)).map (· + (i + 1))) := by
    have e1 : prs.length = i + (1 + (prs.length - i - 1)) := by omega
    conv => lhs; rw [e1, List.range_add, List.range_add, List.map_append, List.map_map]
    simp [Function.comp_def, Nat.add_comm, Nat.add_left_comm]
  rw [this, List.findSome?_append, List.findSome?_eq_none_iff.mpr, List.findSome?_cons, hp]
  · simp [he]
  · intro j hj
    have hj := List.mem_range.mp hj
    rw [List.getElem?_eq_getElem (by omega)]
    exact h j _ hj (List.getElem?_eq_getElem (by omega))
theorem firstF_none {prs : Pr} (h : NoF prs prs.length) : firstF prs = none := by
  unfold firstF
  rw [List.findSome?_eq_none_iff]
  intro j hj
  have hj := List.mem_range.mp hj
  rw [List.getElem?_eq_getElem hj]
  exact h j _ hj (List.getElem?_eq_getElem hj)
theorem noF_of {prs : Pr} (h : firstF prs = none) : NoF prs prs.length := fun j p hj hp => by
  unfold firstF at h
  rw [List.findSome?_eq_none_iff] at h
  have := h j (List.mem_range.mpr hj)
  rw [hp] at this
  exact this
theorem fault_none {seen : Pr} {p : Str × Option Str} (h : fault seen p = none) : isName p.1 = true ∧ (∀ n, p.2 = some n → isName n = true) ∧ p.1 ∉ keys seen ∧ ∀ n, p.2 = some n → n ∉ NN.news seen := by
  unfold fault at h
  obtain ⟨o, n⟩ := p
  by_cases b : badN (o, n) = true
  · rw [if_pos b] at h; cases h
  · rw [if_neg b] at h
    unfold badN at b
    simp only [Bool.or_eq_true, not_or, Bool.not_eq_true'] at b
    have b1 : isName o = true := by simpa using b.1
    by_cases k : o ∈ keys seen
    · rw [if_pos k] at h; cases h
    · rw [if_neg k] at h
      cases n with
      | none => exact ⟨b1, (fun _ z => nomatch z), k, (fun _ z => nomatch z)⟩
      | some m =>
        have b2 : isName m = true := by simpa using b.2
        by_cases q : m ∈ NN.news seen
        · simp [q] at h
        · exact ⟨b1, fun _ z => by cases z; exact b2, k, fun _ z => by cases z; exact q⟩
theorem plOk_of {prs : Pr} (h : NoF prs prs.length) (hl : prs.length ≤ 40) : PlOk prs := by
  have each : ∀ i p, prs[i]? = some p → isName p.1 = true ∧ (∀ n, p.2 = some n → isName n = true) ∧ p.1 ∉ keys (prs.take i) ∧ ∀ n, p.2 = some n → n ∉ NN.news (prs.take i) :=
    fun i p hp => fault_none (h i p (List.getElem?_eq_some_iff.mp hp).1 hp)
  have nd : ∀ i, i ≤ prs.length → (keys (prs.take i)).Nodup ∧ (NN.news (prs.take i)).Nodup := by
    intro i
    induction i with
    | zero => intro _; simp [keys, NN.news]
    | succ i ih =>
      intro hi
      obtain ⟨a, b⟩ := ih (by omega)
      have hp : prs[i]? = some prs[i] := List.getElem?_eq_getElem (by omega)
      obtain ⟨_, _, c, d⟩ := each i _ hp
      rw [List.take_add_one, hp]
      constructor
      · unfold keys at a c ⊢
        rw [List.map_append]
        exact List.nodup_append.mpr ⟨a, by simp, fun x hx y hy e => c (by simp at hy; rw [← hy, ← e]; exact hx)⟩
      · unfold NN.news at b d ⊢
        rw [List.filterMap_append]
        refine List.nodup_append.mpr ⟨b, ?_, fun x hx y hy e => ?_⟩
        · rw [Option.toList, List.filterMap_cons]
          cases prs[i].2 <;> simp
        · have hy' : prs[i].2 = some y := by
            simpa using hy
          exact d y hy' (e ▸ hx)
  have := nd prs.length (Nat.le_refl _)
  rw [List.take_length] at this
  refine ⟨this.1, this.2, fun o ho => ?_, fun n hn => ?_, hl⟩
  · obtain ⟨p, hp, rfl⟩ := List.mem_map.mp ho
    obtain ⟨i, hi⟩ := List.mem_iff_getElem?.mp hp
    exact (each i p hi).1
  · obtain ⟨p, hp, e⟩ := List.mem_filterMap.mp hn
    obtain ⟨i, hi⟩ := List.mem_iff_getElem?.mp hp
    exact (each i p hi).2.1 n e
/-- pairs of texts that are not long -/
def Shrt (prs : Pr) : Prop := ∀ p ∈ prs, p.1.length ≤ 100 ∧ ∀ n, p.2 = some n → n.length ≤ 100
def spPlanInitX (C : Addr) (L : List Addr) : Sp := fun vs H Q E => ∃ (x dx : Addr) (y : V) (prs : Pr), vs = [.ref x, y] ∧ H x = some (.ins C dx []) ∧ At [x] H y (encPs prs) ∧ Shrt prs ∧ prs.length ≤ 40 ∧
  (firstF prs = none → ∀ a b H', Kp [x] H H' → H a = none → H b = none → H' x = some (.ins C dx (flds a b)) → H' a = some (.dK (dS (oldsD prs))) → H' b = some (.dK (dS (newsD prs))) → Q .non H') ∧
  (∀ e, firstF prs = some e → Leave L e [x] E H)
end NN
namespace NN
open PySem L2
/-! ### data that == can be asked of, by depth -/
def FineN (n : Nat) (d : D) : Prop := ∃ p, d.py = some p ∧ p.canLay0 = true ∧ p.depth ≤ n
theorem FineN.fine {n : Nat} {d : D} (h : FineN n d) (hn : n ≤ 30) : fineD d := let ⟨p, a, b, c⟩ := h; ⟨p, a, b, Nat.le_trans c hn⟩
theorem FineN.str {n : Nat} {z : Str} (h : fineS z) : FineN n (.v (.str z)) := ⟨_, rfl, h, Nat.zero_le _⟩
theorem FineN.non {n : Nat} : FineN n (.v .non) := ⟨_, rfl, rfl, Nat.zero_le _⟩
theorem FineN.int {n : Nat} {i : Int} : FineN n (.v (.int i)) := ⟨_, rfl, rfl, Nat.zero_le _⟩
theorem FineN.bl {n : Nat} {b : Bool} : FineN n (.v (.bl b)) := ⟨_, rfl, rfl, Nat.zero_le _⟩
theorem FineN.oV {n : Nat} {o : Option Str} (h : ∀ z, o = some z → fineS z) : FineN n (.v (NN.oV o)) := by
  cases o with
  | none => exact .non
  | some z => exact .str (h z rfl)
theorem fineN_pys {n : Nat} : ∀ {ds : List D}, (∀ d ∈ ds, FineN n d) → ∃ ps, D.pys ds = some ps ∧ PyData.canLayAll0 ps = true ∧ PyData.depthAll ps ≤ n
  | [], _ => ⟨[], rfl, rfl, Nat.zero_le _⟩
  | d :: r, h => by
    obtain ⟨ps, e1, e2, e3⟩ := fineN_pys fun q hq => h q (List.mem_cons_of_mem _ hq)
    obtain ⟨q, f1, f2, f3⟩ := h d (List.mem_cons_self ..)
    refine ⟨q :: ps, ?_, ?_, ?_⟩
    · show (d.py).bind (fun p' => (D.pys r).map (p' :: ·)) = _
      rw [f1, e1]; rfl
    · show (q.canLay0 && PyData.canLayAll0 ps) = true
      rw [f2, e2]; rfl
    · show max q.depth (PyData.depthAll ps) ≤ n
      omega
theorem FineN.l {n : Nat} {ds : List D} (h : ∀ d ∈ ds, FineN n d) : FineN (n + 1) (.l ds) := by
  obtain ⟨ps, e1, e2, e3⟩ := fineN_pys h
  refine ⟨.list ps, ?_, e2, ?_⟩
  · show (D.pys ds).map PyData.list = _
    rw [e1]; rfl
  · show PyData.depthAll ps + 1 ≤ n + 1
    omega
theorem FineN.t {n : Nat} {ds : List D} (h : ∀ d ∈ ds, FineN n d) : FineN (n + 1) (.t ds) := by
  obtain ⟨ps, e1, e2, e3⟩ := fineN_pys h
  refine ⟨.tuple ps, ?_, e2, ?_⟩
  · show (D.pys ds).map PyData.tuple = _
    rw [e1]; rfl
  · show PyData.depthAll ps + 1 ≤ n + 1
    omega
/-- a pair of texts (or None), not long -/
def ShP (p : Str × Option Str) : Prop := (p.1.length ≤ 100 ∧ fineS p.1) ∧ ∀ n, p.2 = some n → n.length ≤ 100 ∧ fineS n
theorem fine_P {p : Str × Option Str} (h : ShP p) : FineN 1 (encP p) := FineN.t (n := 0) fun d hd => by
  rcases List.mem_cons.mp hd with rfl | hd
  · exact .str h.1.2
  · rw [List.mem_singleton.mp hd]; exact .oV fun z hz => (h.2 z hz).2
theorem fine_Ps {prs : Pr} (h : ∀ p ∈ prs, ShP p) : FineN 2 (encPs prs) := FineN.l fun d hd => by
  obtain ⟨p, hp, rfl⟩ := List.mem_map.mp hd
  exact fine_P (h p hp)
theorem shrt_of {prs : Pr} (h : ∀ p ∈ prs, ShP p) : Shrt prs := fun p hp => ⟨(h p hp).1.1, fun n hn => ((h p hp).2 n hn).1⟩
def spBad : Sp := fun vs H Q _ => ∃ (st pl ax : Addr) (nn : List Str) (prs : Pr), vs = [.ref st, .ref pl, .ref ax] ∧ St1 H st ∧ H pl = some (.lst (nn.map V.str)) ∧ PoolOk nn ∧ At [st] H (.ref ax) (encPs prs) ∧ prs.length ≤ 40 ∧ (∀ p ∈ prs, ShP p) ∧
  ∀ r p H', Kp [st] H H' → St1 H' st → At [st] H' (.ref r) (encP p) → ShP p → Q (.ref r) H'
def spIsNm : Sp := fun vs H Q _ => ∃ z, vs = [.str z] ∧ z.length ≤ 100000 ∧ fineS z ∧ ∀ H', Kp [] H H' → Q (.bl (isName z)) H'
def dueD (prs : Pr) : D := match firstF prs with
  | none => .t [.v (.str "good"), .l ((byOlds prs).map encP)]
  | some e => .t [.v (.str (wrdOf e.1)), e.2]
def spDue : Sp := fun vs H Q _ => ∃ (ax : Addr) (prs : Pr), vs = [.ref ax] ∧ At [] H (.ref ax) (encPs prs) ∧ prs.length ≤ 40 ∧ (∀ p ∈ prs, ShP p) ∧
  ∀ r H', Kp [] H H' → (∀ S, Live S H → At S H' (.ref r) (dueD prs)) → Q (.ref r) H'
theorem ShP.name {o : Str} {n : Option Str} (h1 : isName o = true) (h2 : ∀ z, n = some z → isName z = true) : ShP (o, n) :=
  ⟨⟨by have := name_len h1; show o.length ≤ 100; omega, name_fine h1⟩, fun z hz => ⟨by have := name_len (h2 z hz); omega, name_fine (h2 z hz)⟩⟩
def odds : List Str := ["", "A", "abcdefghi", "a b", "a1", "-", "a-", "\n"]
theorem odd_ok : ∀ z ∈ odds, z.length ≤ 100 ∧ fineS z := by
  intro z hz
  have : odds.all (fun z => decide (z.length ≤ 100) && PyData.strOk z) = true := by decide +kernel
  have := List.all_eq_true.mp this z hz
  rw [Bool.and_eq_true] at this
  exact ⟨of_decide_eq_true this.1, this.2⟩
theorem ne_st {H : Hp} {st a : Addr} {xs : List V} (h : St1 H st) (ha : H a = some (.lst xs)) (hl : 2 ≤ xs.length) : a ≠ st := fun z => by
  obtain ⟨w, e⟩ := h
  rw [z, e] at ha
  have e2 : HO.lst [V.int w] = HO.lst xs := Option.some.inj ha
  cases e2
  simp at hl
end NN
namespace NN
open PySem L2
theorem letters_iff (c : Nat) : c ∈ letters.cps.toList ↔ 97 ≤ c ∧ c ≤ 122 := by
  have e : letters.cps.toList = List.range' 97 26 := by decide +kernel
  rw [e, List.mem_range'_1]
  omega
theorem one_lt (a b : Nat) : ([a] : List Nat) < [b] ↔ a < b := by
  rw [List.cons_lt_cons_iff]
  simp
/-- no letter -/
def noLet (c : Nat) : Bool := !decide (c ∈ letters.cps.toList)
theorem noLet_all (l : List Nat) : (l.filter noLet).isEmpty = l.all fun c => decide (c ∈ letters.cps.toList) := by
  induction l with
  | nil => rfl
  | cons c r ih =>
    rw [List.filter_cons, List.all_cons, ← ih]
    by_cases h : c ∈ letters.cps.toList <;> simp [noLet, h]
end NN
namespace NN
open PySem L2
theorem fine_lt {z : Str} (h : fineS z) : ∀ c ∈ z.cps.toList, c < 1114112 := fun c hc => by
  have h : (z.cps.all fun x => decide (x < 0x110000)) = true := h
  rw [Array.all_eq_true'] at h
  exact of_decide_eq_true (h c (by simpa using hc))
theorem g_eqSigns {K : PySem.W.Frag} {H : Hp} {Q : VK} {a b : Addr} {cs : List Nat} (ha : H a = some (.lst (cs.map fun c => V.str ⟨#[c]⟩))) (hb : H b = some (.lst [])) (hf : ∀ c ∈ cs, c < 1114112) (q : Q (.bl cs.isEmpty) H) : rEqU K (.ref a) (.ref b) H Q := by
  have e : (cs.map fun c => V.str ⟨#[c]⟩) = (cs.map fun c => (⟨#[c]⟩ : Str)).map V.str := by rw [List.map_map]; rfl
  rw [e] at ha
  refine g_eqStrs (ys := []) ha hb (fun y hy => ?_) (fun y hy => nomatch hy) ?_
  · obtain ⟨c, hc, rfl⟩ := List.mem_map.mp hy
    exact fine_of fun x hx => by simp at hx; rw [hx]; exact hf c hc
  · cases cs <;> exact q
end NN
namespace NN
open PySem L2
theorem fault_fine {seen : Pr} {p : Str × Option Str} {e : Err} (h : ShP p) (he : fault seen p = some e) (n : Nat) : FineN n e.2 := by
  unfold fault at he
  obtain ⟨o, m⟩ := p
  split at he
  · cases he; exact .non
  · split at he
    · cases he; exact .str h.1.2
    · cases m with
      | none => cases he
      | some m =>
        dsimp only at he
        split at he
        · cases he; exact .str (h.2 m rfl).2
        · cases he
theorem firstF_fine {prs : Pr} {e : Err} (h : ∀ p ∈ prs, ShP p) (he : firstF prs = some e) (n : Nat) : FineN n e.2 := by
  unfold firstF at he
  obtain ⟨i, _, hi⟩ := List.exists_of_findSome?_eq_some he
  obtain ⟨p, hp, hf⟩ := Option.bind_eq_some_iff.mp hi
  exact fault_fine (h p (List.mem_of_getElem? hp)) hf n
theorem fine_due {prs : Pr} (h : ∀ p ∈ prs, ShP p) (hl : prs.length ≤ 40) : fineD (dueD prs) := by
  unfold dueD
  cases e : firstF prs with
  | none =>
    have pl := plOk_of (noF_of e) hl
    refine FineN.fine (n := 3) (FineN.t fun d hd => ?_) (by decide)
    rcases List.mem_cons.mp hd with rfl | hd
    · exact .str (show PyData.strOk "good" = true by decide +kernel)
    · rw [List.mem_singleton.mp hd]
      exact fine_Ps fun p hp => ShP.name (o := p.1) (n := p.2) (byOlds_names pl p hp).1 (byOlds_names pl p hp).2
  | some e' =>
    have h7 : wrdOf e'.1 ∈ wrds ∨ wrdOf e'.1 = "" := by
      unfold wrdOf
      rw [List.getD_eq_getElem?_getD]
      cases q : wrds[e'.1]? with
      | none => exact .inr rfl
      | some w => exact .inl (List.mem_of_getElem? q)
    have hw : fineS (wrdOf e'.1) := by
      rcases h7 with h7 | h7
      · have : wrds.all PyData.strOk = true := by decide +kernel
        exact List.all_eq_true.mp this _ h7
      · rw [h7]; exact (show PyData.strOk "" = true by decide +kernel)
    refine FineN.fine (n := 3) (FineN.t fun d hd => ?_) (by decide)
    rcases List.mem_cons.mp hd with rfl | hd
    · exact .str hw
    · rw [List.mem_singleton.mp hd]
      exact firstF_fine h e 2
theorem PlOk.sh {prs : Pr} (h : PlOk prs) : ∀ p ∈ prs, ShP p := fun p hp => ShP.name (o := p.1) (n := p.2) (h.names p hp).1 (h.names p hp).2
end NN
/-! whether a plan fits some names, and what is held behind it -/
namespace NN
open PySem L2
abbrev E7 (a b c d e f g : Addr) : List Addr := [a, b, c, d, e, f, g]
def toO (prs : Pr) (n : Str) : Option Str := (lk prs n).getD (some n)
theorem toV_O (prs : Pr) (n : Str) : toV prs n = oV (toO prs n) := by
  unfold toV toO
  cases lk prs n <;> rfl
def behL (prs : Pr) (nm : List Str) : List Str := srt (nm.filterMap (toO prs))
def lostOf (prs : Pr) (nm : List Str) : Option Str := (srt (keys prs)).find? fun o => decide (o ∉ nm)
def takenOf (prs : Pr) (nm : List Str) : Option Str := (srt (news prs)).find? fun n => decide (n ∈ nm) && decide (n ∉ keys prs)
def fitE (prs : Pr) (nm : List Str) : Option Err := match lostOf prs nm with
  | some o => some (2, .v (.str o))
  | none => match takenOf prs nm with
    | some n => some (3, .v (.str n))
    | none => none
/-- the first of a list that is wanted, place by place -/
theorem find_at {α : Type} {p : α → Bool} {l : List α} {i : Nat} {x : α} (h : ∀ j y, j < i → l[j]? = some y → p y = false) (hx : l[i]? = some x) (hp : p x = true) : l.find? p = some x := by
  induction l generalizing i with
  | nil => cases hx
  | cons a r ih =>
    cases i with
    | zero => cases hx; rw [List.find?_cons, hp]
    | succ i =>
      rw [List.find?_cons, h 0 a (by omega) rfl]
      exact ih (fun j y hj hy => h (j + 1) y (Nat.succ_lt_succ hj) (by simpa using hy)) (by simpa using hx)
theorem find_no {α : Type} {p : α → Bool} {l : List α} (h : ∀ j y, j < l.length → l[j]? = some y → p y = false) : l.find? p = none := by
  rw [List.find?_eq_none]
  intro x hx
  obtain ⟨j, hj⟩ := List.mem_iff_getElem?.mp hx
  rw [h j x (List.getElem?_eq_some_iff.mp hj).1 hj]
  exact Bool.false_ne_true
theorem srt_filter (p : Str → Bool) (l : List Str) : srt (l.filter p) = (srt l).filter p :=
  (perm_sorted (((srt_perm l).filter p).trans (srt_perm _).symm) ((srt_pw l).filter p) (srt_pw _)).symm
theorem find_filter {α : Type} (p : α → Bool) (l : List α) : l.find? p = (l.filter p)[0]? := by
  rw [← List.head?_filter, List.head?_eq_getElem?]
theorem lost_srt (prs : Pr) (nm : List Str) : lostOf prs nm = (srt ((keys prs).filter fun o => decide (o ∉ nm)))[0]? := by
  unfold lostOf; rw [srt_filter, find_filter]
theorem taken_srt (prs : Pr) (nm : List Str) : takenOf prs nm = (srt ((news prs).filter fun n => decide (n ∈ nm) && decide (n ∉ keys prs)))[0]? := by
  unfold takenOf; rw [srt_filter, find_filter]
theorem lost_mem {prs : Pr} {nm : List Str} {o : Str} (h : lostOf prs nm = some o) : o ∈ keys prs ∧ o ∉ nm := by
  unfold lostOf at h
  have h1 := List.mem_of_find?_eq_some h
  have h2 := List.find?_some h
  exact ⟨mem_srt.mp h1, by simpa using h2⟩
theorem taken_mem {prs : Pr} {nm : List Str} {n : Str} (h : takenOf prs nm = some n) : n ∈ news prs ∧ n ∈ nm ∧ n ∉ keys prs := by
  unfold takenOf at h
  have h1 := List.mem_of_find?_eq_some h
  have h2 := List.find?_some h
  simp only [Bool.and_eq_true, decide_eq_true_eq] at h2
  exact ⟨mem_srt.mp h1, h2.1, h2.2⟩
theorem fit_none {prs : Pr} {nm : List Str} (h : fitE prs nm = none) : (∀ o ∈ keys prs, o ∈ nm) ∧ ∀ n ∈ news prs, n ∈ nm → n ∈ keys prs := by
  unfold fitE at h
  cases e : lostOf prs nm with
  | some o => rw [e] at h; cases h
  | none =>
    rw [e] at h
    cases e2 : takenOf prs nm with
    | some n => simp [e2] at h
    | none =>
      constructor
      · intro o ho
        unfold lostOf at e
        rw [List.find?_eq_none] at e
        have := e o (mem_srt.mpr ho)
        simpa using this
      · intro n hn hm
        unfold takenOf at e2
        rw [List.find?_eq_none] at e2
        have := e2 n (mem_srt.mpr hn)
        simp only [Bool.and_eq_true, decide_eq_true_eq, not_and, Classical.not_not] at this
        exact this hm
theorem fit_fine {prs : Pr} {nm : List Str} {e : Err} (pl : PlOk prs) (h : fitE prs nm = some e) (n : Nat) : FineN n e.2 := by
  unfold fitE at h
  cases e1 : lostOf prs nm with
  | some o => rw [e1] at h; cases h; exact .str (name_fine (pl.olds o (lost_mem e1).1))
  | none =>
    rw [e1] at h
    cases e2 : takenOf prs nm with
    | some m => simp only [e2] at h; cases h; exact .str (name_fine (pl.news m (taken_mem e2).1))
    | none => simp [e2] at h
/-- where a plan fits, no two names are led to one -/
theorem to_nd {prs : Pr} {nm : List Str} (pl : PlOk prs) (hn : nm.Nodup) (h : fitE prs nm = none) : (nm.filterMap (toO prs)).Nodup := by
  obtain ⟨h1, h2⟩ := fit_none h
  have inj : ∀ a ∈ nm, ∀ b ∈ nm, ∀ x, toO prs a = some x → toO prs b = some x → a = b := by
    have one : ∀ a ∈ nm, ∀ b ∈ nm, ∀ x, a ∈ keys prs → b ∉ keys prs → toO prs a = some x → toO prs b = some x → False := by
      intro a ha b hb x ka kb e1 e2
      obtain ⟨v, hv⟩ := lk_of_key ka
      have hv' : v = some x := by unfold toO at e1; rw [hv] at e1; exact e1
      have hbx : b = x := by unfold toO at e2; rw [lk_none.mpr kb] at e2; exact Option.some.inj e2
      have : x ∈ news prs := List.mem_filterMap.mpr ⟨(a, v), lk_mem hv, hv'⟩
      exact kb (hbx ▸ h2 x this (hbx ▸ hb))
    intro a ha b hb x e1 e2
    by_cases ka : a ∈ keys prs <;> by_cases kb : b ∈ keys prs
    · obtain ⟨v, hv⟩ := lk_of_key ka
      obtain ⟨w, hw⟩ := lk_of_key kb
      have hv' : v = some x := by unfold toO at e1; rw [hv] at e1; exact e1
      have hw' : w = some x := by unfold toO at e2; rw [hw] at e2; exact e2
      subst hv'; subst hw'
      obtain ⟨i, hi⟩ := List.mem_iff_getElem?.mp (lk_mem hv)
      obtain ⟨j, hj⟩ := List.mem_iff_getElem?.mp (lk_mem hw)
      have key : ∀ {l : Pr} {i j : Nat} {a b : Str}, (news l).Nodup → l[i]? = some (a, some x) → l[j]? = some (b, some x) → a = b := by
        intro l
        induction l with
        | nil => intro i j a b _ h; cases h
        | cons p r ih =>
          intro i j a b nd hi hj
          have tail : ∀ {k c}, r[k]? = some (c, some x) → x ∈ news r := fun hk => List.mem_filterMap.mpr ⟨_, List.mem_of_getElem? hk, rfl⟩
          have ndr : (news r).Nodup := by
            unfold news at nd ⊢
            rw [List.filterMap_cons] at nd
            cases h : p.2 with
            | none => rw [h] at nd; exact nd
            | some z => rw [h] at nd; exact (List.nodup_cons.mp nd).2
          have hd : ∀ {c}, p = (c, some x) → x ∉ news r := fun hp => by
            unfold news at nd ⊢
            rw [List.filterMap_cons, hp] at nd
            exact (List.nodup_cons.mp nd).1
          cases i with
          | zero =>
            cases j with
            | zero => cases hi; cases hj; rfl
            | succ j => cases hi; exact absurd (tail (by simpa using hj)) (hd rfl)
          | succ i =>
            cases j with
            | zero => cases hj; exact absurd (tail (by simpa using hi)) (hd rfl)
            | succ j => exact ih ndr (by simpa using hi) (by simpa using hj)
      exact key pl.ndn hi hj
    · exact (one a ha b hb x ka kb e1 e2).elim
    · exact (one b hb a ha x kb ka e2 e1).elim
    · unfold toO at e1 e2
      rw [lk_none.mpr ka] at e1
      rw [lk_none.mpr kb] at e2
      exact (Option.some.inj e1).trans (Option.some.inj e2).symm
  clear h h1 h2
  induction nm with
  | nil => exact List.nodup_nil
  | cons a r ih =>
    rw [List.filterMap_cons]
    have ihr := ih (List.nodup_cons.mp hn).2 fun a' ha b hb x => inj a' (List.mem_cons_of_mem _ ha) b (List.mem_cons_of_mem _ hb) x
    cases e : toO prs a with
    | none => exact ihr
    | some x =>
      refine List.nodup_cons.mpr ⟨fun hx => ?_, ihr⟩
      obtain ⟨b, hb, e2⟩ := List.mem_filterMap.mp hx
      have := inj a (List.mem_cons_self ..) b (List.mem_cons_of_mem _ hb) x e e2
      exact (List.nodup_cons.mp hn).1 (this ▸ hb)
/-- things behind a plan -/
def behD (th : List (Str × V)) (prs : Pr) : List (Str × V) := th.foldl (fun (acc : List (Str × V)) (kv : Str × V) => match toO prs kv.1 with
  | none => acc
  | some n => put acc n kv.2) []
theorem behD_snoc (th : List (Str × V)) (kv : Str × V) (prs : Pr) : behD (th ++ [kv]) prs = match toO prs kv.1 with
  | none => behD th prs
  | some n => put (behD th prs) n kv.2 := by
  unfold behD
  rw [List.foldl_append]
  rfl
theorem put_len {α : Type} (th : List (Str × α)) (k : Str) (v : α) : (put th k v).length ≤ th.length + 1 := by
  unfold put
  split <;> simp
theorem behD_len (th : List (Str × V)) (prs : Pr) : (behD th prs).length ≤ th.length := by
  unfold behD
  have : ∀ (l : List (Str × V)) acc, (l.foldl (fun (acc : List (Str × V)) (kv : Str × V) => match toO prs kv.1 with
  | none => acc
  | some n => put acc n kv.2) acc).length ≤ acc.length + l.length := by
    intro l
    induction l with
    | nil => intro acc; simp
    | cons kv r ih =>
      intro acc
      rw [List.foldl_cons]
      refine Nat.le_trans (ih _) ?_
      cases toO prs kv.1 with
      | none => simp
      | some n => have := put_len acc n kv.2; simp; omega
  have := this th []
  simpa using this
/-- where no two names are led to one, in order -/
theorem behD_eq {th : List (Str × V)} {prs : Pr} (h : ((keys th).filterMap (toO prs)).Nodup) : behD th prs = th.filterMap fun kv => (toO prs kv.1).map fun n => (n, kv.2) := by
  unfold behD
  have : ∀ (l acc : List (Str × V)), (keys acc ++ (keys l).filterMap (toO prs)).Nodup → l.foldl (fun (acc : List (Str × V)) (kv : Str × V) => match toO prs kv.1 with
  | none => acc
  | some n => put acc n kv.2) acc = acc ++ l.filterMap fun kv => (toO prs kv.1).map fun n => (n, kv.2) := by
    intro l
    induction l with
    | nil => intro acc _; simp
    | cons kv r ih =>
      intro acc nd
      rw [List.foldl_cons, List.filterMap_cons]
      have ek : keys (kv :: r) = kv.1 :: keys r := rfl
      rw [ek, List.filterMap_cons] at nd
      cases e : toO prs kv.1 with
      | none => rw [e] at nd; exact ih acc nd
      | some n =>
        rw [e] at nd
        have hn : n ∉ keys acc := fun hm => (List.nodup_append.mp nd).2.2 n hm n (List.mem_cons_self ..) rfl
        dsimp only
        rw [put_new _ hn, ih]
        · simp
        · simp only [keys, List.map_append, List.map_cons, List.map_nil, List.append_assoc, List.singleton_append] at nd ⊢
          exact nd
  have := this th [] (by simpa [keys] using h)
  simpa using this
theorem keys_behD {th : List (Str × V)} {prs : Pr} (h : ((keys th).filterMap (toO prs)).Nodup) : keys (behD th prs) = (keys th).filterMap (toO prs) := by
  rw [behD_eq h]
  unfold keys
  rw [List.map_filterMap, List.filterMap_map]
  congr 1
  funext kv
  simp only [Function.comp]
  cases toO prs kv.1 <;> rfl
/-! ### promises -/
def spFits (C : Addr) (L : List Addr) : Sp := fun vs H Q E => ∃ (p a : Addr) (prs : Pr) (nm : List Str), vs = [.ref p, .ref a] ∧ PlanAt [] C H p prs ∧ PlOk prs ∧ H a = some (.lst (nm.map V.str)) ∧
  (fitE prs nm = none → ∀ H', Kp [] H H' → Q .non H') ∧ ∀ e, fitE prs nm = some e → Leave L e [] E H
def spBehind (C : Addr) (L : List Addr) : Sp := fun vs H Q E => ∃ (p a : Addr) (prs : Pr) (nm : List Str), vs = [.ref p, .ref a] ∧ PlanAt [] C H p prs ∧ PlOk prs ∧ H a = some (.lst (nm.map V.str)) ∧ nm.length ≤ 40 ∧
  (fitE prs nm = none → ∀ r H', H r = none → Kp [] H H' → H' r = some (.lst ((behL prs nm).map V.str)) → Q (.ref r) H') ∧ ∀ e, fitE prs nm = some e → Leave L e [] E H
def spLBehind : Sp := fun vs H Q _ => ∃ (d ax : Addr) (th : List (Str × V)) (prs : Pr), vs = [.ref d, .ref ax] ∧ H d = some (.dK (dS th)) ∧ (keys th).Nodup ∧ th.length ≤ 40 ∧ At [] H (.ref ax) (encPs prs) ∧ (keys prs).Nodup ∧ prs.length ≤ 40 ∧
  ∀ r H', H r = none → Kp [] H H' → H' r = some (.dK (dS (behD th prs))) → Q (.ref r) H'
end NN
namespace NN
open PySem L2
/-! ### k05: what is due -/
theorem fit_str {prs : Pr} {nm : List Str} {e : Err} (h : fitE prs nm = some e) : ∃ n, e.2 = .v (.str n) ∧ (e.1 = 2 ∨ e.1 = 3) := by
  unfold fitE at h
  cases e1 : lostOf prs nm with
  | some o => rw [e1] at h; cases h; exact ⟨o, rfl, .inl rfl⟩
  | none =>
    rw [e1] at h
    cases e2 : takenOf prs nm with
    | some m => simp only [e2] at h; cases h; exact ⟨m, rfl, .inr rfl⟩
    | none => simp [e2] at h
def dueF (prs : Pr) (nm : List Str) : D := match fitE prs nm with
  | none => .t [.v (.str "good"), .l ((behL prs nm).map fun n => .v (.str n))]
  | some e => .t [.v (.str (wrdOf e.1)), e.2]
def Nms (nm : List Str) : Prop := nm.Nodup ∧ nm.length ≤ 40 ∧ ∀ n ∈ nm, isName n = true
def spDueF : Sp := fun vs H Q _ => ∃ (ax b : Addr) (prs : Pr) (nm : List Str), vs = [.ref ax, .ref b] ∧ At [] H (.ref ax) (encPs prs) ∧ PlOk prs ∧ H b = some (.lst (nm.map V.str)) ∧ Nms nm ∧
  ∀ r H', Kp [] H H' → (∀ S, Live S H → At S H' (.ref r) (dueF prs nm)) → Q (.ref r) H'
/-- what is told at one asking: 0 fits, else behind -/
def ToldF (H H' : Hp) (r : Addr) (w : Int) (prs : Pr) (nm : List Str) : Prop := match fitE prs nm with
  | some e => ∃ n, e.2 = .v (.str n) ∧ H' r = some (.tup [.str (wrdOf e.1), .str n])
  | none => if w = 0 then H' r = some (.tup [.str "good", .non]) else ∃ l, H l = none ∧ H' l = some (.lst ((behL prs nm).map V.str)) ∧ H' r = some (.tup [.str "good", .ref l])
def spToldF (C : Addr) : Sp := fun vs H Q _ => ∃ (w : Int) (p b : Addr) (prs : Pr) (nm : List Str), vs = [.int w, .ref p, .ref b] ∧ PlanAt [] C H p prs ∧ PlOk prs ∧ H b = some (.lst (nm.map V.str)) ∧ nm.length ≤ 40 ∧
  ∀ r H', H r = none → Kp [] H H' → ToldF H H' r w prs nm → Q (.ref r) H'
def spRightF (C : Addr) : Sp := fun vs H Q _ => ∃ (p ax b : Addr) (f : Int) (prs : Pr) (nm : List Str), vs = [.ref p, .ref ax, .ref b, .int f] ∧ PlanAt [] C H p prs ∧ PlOk prs ∧ At [] H (.ref ax) (encPs prs) ∧ H b = some (.lst (nm.map V.str)) ∧ Nms nm ∧ 0 ≤ f ∧ f < 100 ∧
  ∀ H', Kp [] H H' → Q (.bl true) H'
theorem behL_dict {prs : Pr} {nm : List Str} (pl : PlOk prs) (hn : nm.Nodup) (h : fitE prs nm = none) (u : V) : srt (keys (behD (nm.map fun n => (n, u)) prs)) = behL prs nm := by
  have e : keys (nm.map fun n => (n, u)) = nm := by unfold keys; rw [List.map_map]; exact List.map_id _
  rw [keys_behD (by rw [e]; exact to_nd pl hn h), e]; rfl
theorem behL_name {prs : Pr} {nm : List Str} (pl : PlOk prs) (hn : ∀ n ∈ nm, isName n = true) : ∀ n ∈ behL prs nm, isName n = true := fun n h => by
  obtain ⟨m, hm, e⟩ := List.mem_filterMap.mp (mem_srt.mp h)
  unfold toO at e
  cases q : lk prs m with
  | none => rw [q] at e; cases e; exact hn _ hm
  | some v => rw [q] at e; exact pl.news n (List.mem_filterMap.mpr ⟨_, lk_mem q, e⟩)
theorem wrd_fine (i : Nat) : fineS (wrdOf i) := by
  have h7 : wrdOf i ∈ wrds ∨ wrdOf i = "" := by
    unfold wrdOf
    rw [List.getD_eq_getElem?_getD]
    cases q : wrds[i]? with
    | none => exact .inr rfl
    | some w => exact .inl (List.mem_of_getElem? q)
  rcases h7 with h7 | h7
  · have : wrds.all PyData.strOk = true := by decide +kernel
    exact List.all_eq_true.mp this _ h7
  · rw [h7]; exact (show PyData.strOk "" = true by decide +kernel)
theorem fine_strs {l : List Str} (h : ∀ n ∈ l, isName n = true) : FineN 1 (.l (l.map fun n => .v (.str n))) := FineN.l (n := 0) fun d hd => by
  obtain ⟨n, hn, rfl⟩ := List.mem_map.mp hd
  exact .str (name_fine (h n hn))
theorem fine_dueF {prs : Pr} {nm : List Str} (pl : PlOk prs) (hn : ∀ n ∈ nm, isName n = true) : fineD (dueF prs nm) := by
  unfold dueF
  cases e : fitE prs nm with
  | none =>
    refine FineN.fine (n := 2) (FineN.t fun d hd => ?_) (by decide)
    rcases List.mem_cons.mp hd with rfl | hd
    · exact .str (show PyData.strOk "good" = true by decide +kernel)
    · rw [List.mem_singleton.mp hd]; exact fine_strs (behL_name pl hn)
  | some e' =>
    refine FineN.fine (n := 2) (FineN.t fun d hd => ?_) (by decide)
    rcases List.mem_cons.mp hd with rfl | hd
    · exact .str (wrd_fine _)
    · rw [List.mem_singleton.mp hd]; exact fit_fine pl e 1
end NN
namespace NN
open PySem L2
theorem item_P {S S' : List Addr} {H H' : Hp} {vx : List V} {prs : Pr} {i : Nat} {z : V} (hvx : AtL S H vx (prs.map encP)) (hz : vx[i]? = some z) (k : Kp S' H H') (hs : ∀ a ∈ S', a ∈ S) : ∃ t o n, z = .ref t ∧ prs[i]? = some (o, n) ∧ H' t = some (.tup [.str o, oV n]) := by
  obtain ⟨d, hd, hzd⟩ := (hvx.kp k hs).get' hz
  rw [List.getElem?_map] at hd
  obtain ⟨⟨o, n⟩, hpp, rfl⟩ := Option.map_eq_some_iff.mp hd
  obtain ⟨t, ws, rfl, _, ht, hws⟩ := hzd.isT
  have e : ws = [.str o, oV n] := AtL.vals_eq (ws := [.str o, oV n]) hws
  subst e
  exact ⟨t, o, n, rfl, hpp, ht⟩
end NN
namespace NN
open PySem L2
theorem dS_keyV (th : List (Str × V)) : (dS th).map (fun kv => kV kv.1) = (keys th).map V.str := by
  unfold dS keys
  rw [List.map_map, List.map_map]
  rfl
theorem cut_sub (nm : List Str) (lo hi : Option Int) : ∃ ms : List Str, cutV (nm.map V.str) lo hi = ms.map V.str ∧ ms.Sublist nm := by
  unfold cutV
  exact ⟨(nm.drop _).take _, by rw [List.map_take, List.map_drop], (List.take_sublist ..).trans (List.drop_sublist ..)⟩
theorem thN {nn : List Str} {th : List (Str × V)} (hp : PoolOk nn) (ht : ThOk nn th) : ∀ n ∈ keys th, isName n = true := fun n hn => hp.2.2 n (List.mem_of_mem_take (ht.sub n hn))
theorem Nms.perm {a b : List Str} (h : Nms a) (p : b.Perm a) : Nms b := ⟨p.nodup_iff.mpr h.1, by rw [p.length_eq]; exact h.2.1, fun n hn => h.2.2 n (p.mem_iff.mp hn)⟩
theorem Nms.of_th {nn : List Str} {th : List (Str × V)} (hp : PoolOk nn) (ht : ThOk nn th) : Nms (keys th) := ⟨ht.nd, by have := ht.len; simp [keys]; omega, thN hp ht⟩
theorem Nms.fine {a : List Str} (h : Nms a) {S : List Addr} {H : Hp} : ∀ x ∈ a.map V.str, FineV S H x := fun x hx => by
  obtain ⟨n, hn, rfl⟩ := List.mem_map.mp hx
  exact FineV.str (name_fine (h.2.2 n hn))
end NN
/-! plans drawn of any names -/
namespace NN
open PySem L2
structure PoolG (ns : List Str) : Prop where
  two : 2 ≤ ns.length
  len : ns.length ≤ 40
  nd : ns.Nodup
  names : ∀ n ∈ ns, isName n = true
structure ThG (th : List (Str × V)) : Prop where
  nd : (keys th).Nodup
  names : ∀ k ∈ keys th, isName k = true
  len : th.length ≤ 20
structure PrG (ns : List Str) (th : List (Str × V)) (prs : Pr) : Prop where
  ndo : (keys prs).Nodup
  ndn : (news prs).Nodup
  len : prs.length ≤ th.length
  olds : ∀ o ∈ keys prs, o ∈ keys th
  news : ∀ n ∈ news prs, isName n = true ∧ (n ∈ keys th ∨ n ∈ ns.take 12) ∧ (n ∈ keys th → n ∈ keys prs)
theorem PoolOk.g {ns : List Str} (h : PoolOk ns) : PoolG ns := ⟨by rw [h.1]; decide, by rw [h.1]; decide, h.2.1, h.2.2⟩
theorem ThOk.g {ns : List Str} {th : List (Str × V)} (hp : PoolOk ns) (h : ThOk ns th) : ThG th := ⟨h.nd, thN hp h, by have := h.len; omega⟩
theorem PrG.pl {ns : List Str} {th : List (Str × V)} {prs : Pr} (h : PrG ns th prs) (ht : ThG th) : PlOk prs :=
  ⟨h.ndo, h.ndn, fun o ho => ht.names o (h.olds o ho), fun n hn => (h.news n hn).1, by have := h.len; have := ht.len; omega⟩
/-- such a plan fits the things -/
theorem PrG.fit {ns : List Str} {th : List (Str × V)} {prs : Pr} (h : PrG ns th prs) {nm : List Str} (hp : nm.Perm (keys th)) : fitE prs nm = none := by
  have e1 : lostOf prs nm = none := by
    unfold lostOf
    rw [List.find?_eq_none]
    intro o ho
    simpa using hp.mem_iff.mpr (h.olds o (mem_srt.mp ho))
  have e2 : takenOf prs nm = none := by
    unfold takenOf
    rw [List.find?_eq_none]
    intro n hn
    simp only [Bool.and_eq_true, decide_eq_true_eq, not_and, Classical.not_not]
    exact fun hm => (h.news n (mem_srt.mp hn)).2.2 (hp.mem_iff.mp hm)
  unfold fitE
  rw [e1]; dsimp only; rw [e2]
def spPairsG : Sp := fun vs H Q _ => ∃ (st a b : Addr) (ns : List Str) (th : List (Str × V)) (S : List Addr), vs = [.ref st, .ref a, .ref b] ∧ St1 H st ∧ H a = some (.lst (ns.map V.str)) ∧ H b = some (.dK (dS th)) ∧ PoolG ns ∧ ThG th ∧ Live S H ∧ st ∈ S ∧
  ∀ x prs H', Kp [st] H H' → St1 H' st → At S H' x (encPs prs) → PrG ns th prs → Q x H'
theorem pairs_okG {ns ms mv so so2 : List Str} {th : List (Str × V)} {prs : Pr} (hprs : mv.zip (so2.reverse.map some) = prs) (h1 : mv.Perm ms) (h2 : so2.Perm so) (hms : ms.Sublist (keys th)) (ht : ThG th) (hso1 : so.Nodup)
    (hso2 : ∀ n ∈ so, isName n = true ∧ (n ∈ keys th ∨ n ∈ ns.take 12) ∧ (n ∈ keys th → n ∈ ms)) (hso3 : ms.length ≤ so.length) : PrG ns th prs := by
  have l1 := h1.length_eq
  have l2 := h2.length_eq
  have hk : keys prs = mv := by
    rw [← hprs]; unfold keys
    exact List.map_fst_zip (by rw [List.length_map, List.length_reverse]; omega)
  have hn : news prs = so2.reverse.take mv.length := by
    rw [← hprs]; unfold news
    have e : ∀ (a : List Str) (b : List Str), (a.zip (b.map some)).filterMap (·.2) = b.take a.length := by
      intro a
      induction a with
      | nil => intro b; simp
      | cons x r ih =>
        intro b
        cases b with
        | nil => rfl
        | cons y t => show (y :: ((r.zip (t.map some)).filterMap (·.2))) = y :: t.take r.length; rw [ih]
    exact e mv so2.reverse
  refine ⟨?_, ?_, ?_, ?_, ?_⟩
  · rw [hk]; exact h1.nodup_iff.mpr (ht.nd.sublist hms)
  · rw [hn]; exact (((List.reverse_perm so2).nodup_iff.mpr (h2.nodup_iff.mpr hso1))).sublist (List.take_sublist ..)
  · have e1 : prs.length = (keys prs).length := by simp [keys]
    have e2 : th.length = (keys th).length := by simp [keys]
    have := hms.length_le
    rw [e1, hk, e2]; omega
  · intro o ho; rw [hk] at ho; exact hms.subset (h1.subset ho)
  · intro n hnn
    rw [hn] at hnn
    have := hso2 n (h2.subset (List.mem_reverse.mp (List.mem_of_mem_take hnn)))
    exact ⟨this.1, this.2.1, fun z => by rw [hk]; exact h1.symm.subset (this.2.2 z)⟩
theorem cutN_okG {ns : List Str} {th : List (Str × V)} {prs : Pr} {bs : List Bool} (h : prs.length = bs.length) (k : PrG ns th prs) : PrG ns th (cutN prs bs) := by
  refine ⟨by rw [cutN_keys h]; exact k.ndo, k.ndn.sublist cutN_news, ?_, by rw [cutN_keys h]; exact k.olds, fun n hn => by rw [cutN_keys h]; exact k.news n (cutN_news.subset hn)⟩
  have e1 : (cutN prs bs).length = (keys (cutN prs bs)).length := by simp [keys]
  have e2 : prs.length = (keys prs).length := by simp [keys]
  rw [e1, cutN_keys h, ← e2]; exact k.len
theorem pairs_of_g {vs : List V} {H : Hp} {Q : VK} {E : XK} (h : spPairs vs H Q E) : spPairsG vs H Q E := by
  obtain ⟨st, a, b, ns, th, S, rfl, hst, ha, hb, hp, ht, hl, hS, q⟩ := h
  refine ⟨st, a, b, ns, th, S, rfl, hst, ha, hb, hp.g, ht.g hp, hl, hS, fun x prs H' k hst' hx hpr => q x prs H' k hst' hx ⟨hpr.ndo, hpr.ndn, by have := hpr.len; have := ht.len; omega, hpr.olds, fun n hn => ⟨?_, (hpr.news n hn).2.2⟩⟩⟩
  rcases (hpr.news n hn).2.1 with h | h
  · have h2 := ht.sub n h
    have h3 : ns.take 10 = (ns.take 12).take 10 := by rw [List.take_take]; rfl
    rw [h3] at h2
    exact List.mem_of_mem_take h2
  · exact h
end NN
/-! texts cut at a sign -/
namespace NN
open PySem L2
def cutL (c : Nat) : List Nat → List (List Nat)
  | [] => [[]]
  | y :: r => if y = c then [] :: cutL c r else match cutL c r with
    | [] => [[y]]
    | p :: q => (y :: p) :: q
theorem cutL_ne (c : Nat) (l : List Nat) : cutL c l ≠ [] := by
  cases l with
  | nil => exact List.cons_ne_nil _ _
  | cons y r =>
    unfold cutL
    split
    · exact List.cons_ne_nil _ _
    · split <;> exact List.cons_ne_nil _ _
theorem cutL_hit (c : Nat) (r : List Nat) : cutL c (c :: r) = [] :: cutL c r := by rw [cutL, if_pos rfl]
theorem cutL_miss {c y : Nat} {r p : List Nat} {q : List (List Nat)} (h : y ≠ c) (e : cutL c r = p :: q) : cutL c (y :: r) = (y :: p) :: q := by rw [cutL, if_neg h, e]
theorem occ_one (x : Str) (c limit : Nat) : ∀ (l : List Nat) (st : Array Nat × Nat), (∀ i ∈ l, st.2 ≤ i) → l.Pairwise (· < ·) → st.1.size + l.length ≤ limit →
    (forIn l st (StrLaws.occBody x ⟨#[c]⟩ x.length limit)).run.fst.toList = st.1.toList ++ l.filter fun i => decide (x.cps.toList[i]? = some c)
  | [], st, _, _, _ => by simp
  | a :: l, st, h1, h2, h3 => by
    rw [List.forIn_cons]
    unfold StrLaws.occBody
    have ha := h1 a (List.mem_cons_self ..)
    rw [List.length_cons] at h3
    have tl := (List.pairwise_cons.mp h2)
    by_cases e : x.cps.toList[a]? = some c
    · have q := (StrLaws.subAt_one x c a).mpr e
      rw [if_pos ⟨⟨⟨by omega, ha⟩, q.1⟩, q.2⟩]
      refine (occ_one x c limit l (st.1.push a, a + 1) (fun i hi => ?_) tl.2 (by simp; omega)).trans ?_
      · have := tl.1 i hi
        show a + 1 ≤ i
        omega
      · rw [Array.toList_push, List.filter_cons, if_pos (by simp [e])]; simp
    · rw [if_neg fun z => e ((StrLaws.subAt_one x c a).mp ⟨z.1.2, z.2⟩)]
      refine (occ_one x c limit l (st.1, st.2) (fun i hi => h1 i (List.mem_cons_of_mem _ hi)) tl.2 (by show st.1.size + l.length ≤ limit; omega)).trans ?_
      rw [List.filter_cons, if_neg (by rw [decide_eq_true_eq]; exact e)]
/-- the places of c in x, from a on -/
def plc (x : Str) (c a : Nat) : List Nat := (List.range' a (x.length + 1 - a)).filter fun i => decide (x.cps.toList[i]? = some c)
theorem len_cps (x : Str) : x.cps.toList.length = x.length := by show _ = x.cps.size; simp
theorem occ_plc (x : Str) (c : Nat) : Builtin.Str.occurrences x ⟨#[c]⟩ 0 x.length (x.length + 1) = plc x c 0 := by
  rw [StrLaws.occ_eq, occ_one x c (x.length + 1) _ _ (fun i _ => Nat.zero_le _) List.pairwise_lt_range' (by simp)]
  simp [plc]
theorem sub_tx (x : Str) (a b : Nat) : Builtin.Str.strSub x a b = tx ((x.cps.toList.drop a).take (b - a)) := by
  apply Str.ext'
  apply Array.toList_inj.mp
  rw [StrLaws.strSub_toList]
  rfl
theorem plc_ge (x : Str) (c a : Nat) : ∀ i ∈ plc x c a, a ≤ i := fun i hi => by
  have := (List.mem_filter.mp hi).1
  rw [List.mem_range'_1] at this
  exact this.1
theorem parts_plc (x : Str) (c : Nat) : ∀ (k a : Nat), x.length - a = k → a ≤ x.length → StrLaws.partsFrom x 1 a (plc x c a) = (cutL c (x.cps.toList.drop a)).map tx := by
  intro k
  induction k with
  | zero =>
    intro a hk ha
    have ea : a = x.length := by omega
    have hn : x.cps.toList[a]? = none := by rw [List.getElem?_eq_none_iff, len_cps]; omega
    have ep : plc x c a = [] := by
      unfold plc
      rw [show x.length + 1 - a = 1 by omega]
      show (List.filter _ [a]) = []
      rw [List.filter_cons, if_neg (by rw [decide_eq_true_eq, hn]; exact fun z => nomatch z)]
      rfl
    rw [ep, List.drop_of_length_le (by rw [len_cps]; omega)]
    show [Builtin.Str.strSub x a x.length] = [tx []]
    rw [sub_tx, List.drop_of_length_le (by rw [len_cps]; omega), List.take_nil]
  | succ k ih =>
    intro a hk ha
    have hal : a < x.cps.toList.length := by rw [len_cps]; omega
    obtain ⟨y, hy⟩ : ∃ y, x.cps.toList[a]? = some y := ⟨_, List.getElem?_eq_getElem hal⟩
    have hd : x.cps.toList.drop a = y :: x.cps.toList.drop (a + 1) := by
      rw [List.drop_eq_getElem_cons hal]
      rw [(List.getElem?_eq_some_iff.mp hy).2]
    have er : List.range' a (x.length + 1 - a) = a :: List.range' (a + 1) (x.length + 1 - (a + 1)) := by
      rw [show x.length + 1 - a = (x.length + 1 - (a + 1)) + 1 by omega, List.range'_succ]
    have ih' := ih (a + 1) (by omega) (by omega)
    rw [hd]
    by_cases e : y = c
    · subst e
      have ep : plc x y a = a :: plc x y (a + 1) := by
        unfold plc
        rw [er, List.filter_cons, if_pos (by simp [hy])]
      rw [ep]
      show Builtin.Str.strSub x a a :: StrLaws.partsFrom x 1 (a + 1) (plc x y (a + 1)) = _
      rw [ih', sub_tx, cutL_hit]
      simp
    · have ep : plc x c a = plc x c (a + 1) := by
        unfold plc
        rw [er, List.filter_cons, if_neg (by rw [decide_eq_true_eq, hy]; exact fun z => e (Option.some.inj z))]
      rw [ep]
      have first : ∀ b, a + 1 ≤ b → Builtin.Str.strSub x a b = tx (y :: ((x.cps.toList.drop (a + 1)).take (b - (a + 1)))) := fun b hb => by
        rw [sub_tx, hd, show b - a = (b - (a + 1)) + 1 by omega, List.take_succ_cons]
      have hge := plc_ge x c (a + 1)
      cases hp : plc x c (a + 1) with
      | nil =>
        rw [hp] at ih'
        have ih2 : [Builtin.Str.strSub x (a + 1) x.length] = (cutL c (x.cps.toList.drop (a + 1))).map tx := ih'
        show [Builtin.Str.strSub x a x.length] = _
        rw [first _ (by omega)]
        rw [sub_tx] at ih2
        cases hq : cutL c (x.cps.toList.drop (a + 1)) with
        | nil => exact absurd hq (cutL_ne c _)
        | cons p q =>
          rw [hq] at ih2
          cases q with
          | cons _ _ => simp at ih2
          | nil =>
            have e2 : tx ((x.cps.toList.drop (a + 1)).take (x.length - (a + 1))) = tx p := by simpa using ih2
            have e3 : (x.cps.toList.drop (a + 1)).take (x.length - (a + 1)) = p := by
              have := congrArg (fun s : Str => s.cps.toList) e2
              simpa [tx] using this
            rw [e3, cutL_miss e hq]; rfl
      | cons b r =>
        rw [hp] at ih' hge
        have hb := hge b (List.mem_cons_self ..)
        have ih2 : Builtin.Str.strSub x (a + 1) b :: StrLaws.partsFrom x 1 (b + 1) r = (cutL c (x.cps.toList.drop (a + 1))).map tx := ih'
        show Builtin.Str.strSub x a b :: StrLaws.partsFrom x 1 (b + 1) r = _
        rw [first _ hb]
        rw [sub_tx] at ih2
        cases hq : cutL c (x.cps.toList.drop (a + 1)) with
        | nil => exact absurd hq (cutL_ne c _)
        | cons p q =>
          rw [hq] at ih2
          obtain ⟨e2, e4⟩ := List.cons.inj ih2
          have e3 : (x.cps.toList.drop (a + 1)).take (b - (a + 1)) = p := by
            have := congrArg (fun s : Str => s.cps.toList) e2
            simpa [tx] using this
          rw [e3, e4, cutL_miss e hq]; rfl
/-- cut at one sign -/
theorem split_one (x : Str) (c : Nat) (hc : c < 256) : Txt.split x ⟨#[c]⟩ = (cutL c x.cps.toList).map tx := by
  have key := parts_plc x c x.length 0 (by omega) (Nat.zero_le _)
  rw [List.drop_zero] at key
  have whole : plc x c 0 = [] → [x] = (cutL c x.cps.toList).map tx := fun h => by
    rw [← key, h]
    show _ = [Builtin.Str.strSub x 0 x.length]
    rw [StrLaws.sub_whole]
  have kind : Builtin.Str.strKind ⟨#[c]⟩ = 1 := by
    unfold Builtin.Str.strKind
    rw [if_pos (by simp; exact hc)]
  have kx : ¬ Builtin.Str.strKind x < 1 := by unfold Builtin.Str.strKind; split <;> (try split) <;> decide
  unfold Txt.split
  rw [occ_plc, kind]
  by_cases h0 : x.length < 1
  · rw [if_pos (by show (decide (x.length < 1) || _) = true; simp [h0])]
    refine whole ?_
    unfold plc
    have : x.cps.toList = [] := List.eq_nil_of_length_eq_zero (by rw [len_cps]; omega)
    rw [this]; simp
  · rw [if_neg (by show ¬ ((decide (x.length < 1) || decide (Builtin.Str.strKind x < 1)) = true); simp [h0, kx])]
    by_cases h1 : (plc x c 0).isEmpty = true
    · rw [if_pos h1]
      exact whole (List.isEmpty_iff.mp h1)
    · rw [if_neg h1, StrLaws.partsBetween_eq]
      exact key
/-- cut where it was joined -/
theorem cutL_none {c : Nat} : ∀ {l : List Nat}, c ∉ l → cutL c l = [l]
  | [], _ => rfl
  | y :: r, h => cutL_miss (fun e => h (e ▸ List.mem_cons_self ..)) (cutL_none fun hr => h (List.mem_cons_of_mem _ hr))
theorem cutL_app {c : Nat} {r : List Nat} : ∀ {l : List Nat}, c ∉ l → cutL c (l ++ c :: r) = l :: cutL c r
  | [], _ => cutL_hit c r
  | y :: l, h => cutL_miss (r := l ++ c :: r) (fun e => h (e ▸ List.mem_cons_self ..)) (cutL_app fun hr => h (List.mem_cons_of_mem _ hr))
/-- rows, each with the sign behind it -/
theorem cutL_rows {c : Nat} : ∀ {ls : List (List Nat)}, (∀ l ∈ ls, c ∉ l) → cutL c (ls.map fun l => l ++ [c]).flatten = ls ++ [[]]
  | [], _ => rfl
  | l :: ls, h => by
    show cutL c ((l ++ [c]) ++ (ls.map fun l => l ++ [c]).flatten) = _
    rw [List.append_assoc, List.singleton_append, cutL_app (h l (List.mem_cons_self ..)), cutL_rows fun m hm => h m (List.mem_cons_of_mem _ hm)]
    rfl
theorem cutL_free {c : Nat} : ∀ (l : List Nat), ∀ p ∈ cutL c l, c ∉ p
  | [] => fun p hp => by
    have : p = [] := by simpa [cutL] using hp
    rw [this]; simp
  | y :: r => fun p hp => by
    by_cases e : y = c
    · subst e
      rw [cutL_hit] at hp
      rcases List.mem_cons.mp hp with rfl | hp
      · simp
      · exact cutL_free r p hp
    · cases hq : cutL c r with
      | nil => exact absurd hq (cutL_ne c _)
      | cons a q =>
        rw [cutL_miss e hq] at hp
        have ih := cutL_free (c := c) r
        rw [hq] at ih
        rcases List.mem_cons.mp hp with rfl | hp
        · simp only [List.mem_cons, not_or]
          exact ⟨fun z => e z.symm, ih a (List.mem_cons_self ..)⟩
        · exact ih p (List.mem_cons_of_mem _ hp)
end NN
/-! plans as rows of text -/
namespace NN
open PySem L2
def spl (c : Nat) (x : Str) : List Str := (cutL c x.cps.toList).map tx
theorem split_sp (x : Str) : Txt.split x " " = spl 32 x := split_one x 32 (by decide)
theorem split_nl (x : Str) : Txt.split x "\n" = spl 10 x := split_one x 10 (by decide)
theorem cutL_len {c : Nat} : ∀ (l : List Nat), (cutL c l).length ≤ l.length + 1 ∧ ∀ p ∈ cutL c l, p.length ≤ l.length
  | [] => by simp [cutL]
  | y :: r => by
    obtain ⟨h1, h2⟩ := cutL_len (c := c) r
    by_cases e : y = c
    · subst e
      rw [cutL_hit]
      refine ⟨by simp; omega, fun p hp => ?_⟩
      rcases List.mem_cons.mp hp with rfl | hp
      · simp
      · have := h2 p hp; simp; omega
    · cases hq : cutL c r with
      | nil => exact absurd hq (cutL_ne c _)
      | cons a q =>
        rw [hq] at h1 h2
        rw [cutL_miss e hq]
        refine ⟨by simp at h1 ⊢; omega, fun p hp => ?_⟩
        rcases List.mem_cons.mp hp with rfl | hp
        · have := h2 a (List.mem_cons_self ..); simp; omega
        · have := h2 p (List.mem_cons_of_mem _ hp); simp; omega
theorem spl_len (c : Nat) (x : Str) : (spl c x).length ≤ x.length + 1 ∧ ∀ p ∈ spl c x, p.length ≤ x.length := by
  obtain ⟨h1, h2⟩ := cutL_len (c := c) x.cps.toList
  rw [len_cps] at h1 h2
  refine ⟨by unfold spl; rw [List.length_map]; exact h1, fun p hp => ?_⟩
  obtain ⟨l, hl, rfl⟩ := List.mem_map.mp hp
  rw [tx_len]; exact h2 l hl
theorem spl_ne (c : Nat) (x : Str) : spl c x ≠ [] := by
  unfold spl
  intro h
  exact cutL_ne c _ (List.map_eq_nil_iff.mp h)
def pairOf (row : Str) : Option (Str × Option Str) := match spl 32 row with
  | [a, b] => if isName a = true then (if b = "-" then some (a, none) else if isName b = true then some (a, some b) else none) else none
  | _ => none
def clash (seen : Pr) (spare : Option Str) (p : Str × Option Str) : Bool :=
  decide (p.1 ∈ keys seen) || (match p.2 with | none => false | some n => decide (n ∈ NN.news seen)) || (match spare with | none => false | some s => decide (s = p.1) || decide (p.2 = some s))
/-- rows read: a plan's pairs, or the number of the first bad one -/
def rdL (spare : Option Str) (seen : Pr) : List Str → Pr ⊕ Nat
  | [] => .inl seen
  | r :: rs => match pairOf r with
    | none => .inr seen.length
    | some p => if clash seen spare p = true then .inr seen.length else rdL spare (seen ++ [p]) rs
theorem pairOf_ok {row : Str} {p : Str × Option Str} (h : pairOf row = some p) : isName p.1 = true ∧ ∀ n, p.2 = some n → isName n = true := by
  unfold pairOf at h
  split at h
  · split at h
    · rename_i ha
      split at h
      · cases h; exact ⟨ha, fun _ z => nomatch z⟩
      · split at h
        · rename_i hb; cases h; exact ⟨ha, fun _ z => by cases z; exact hb⟩
        · cases h
    · cases h
  · cases h
structure SeenOk (spare : Option Str) (seen : Pr) : Prop where
  ndo : (keys seen).Nodup
  ndn : (NN.news seen).Nodup
  names : ∀ p ∈ seen, isName p.1 = true ∧ ∀ n, p.2 = some n → isName n = true
  sp : ∀ s, spare = some s → s ∉ keys seen ∧ s ∉ NN.news seen
theorem SeenOk.nil (spare : Option Str) : SeenOk spare [] := ⟨List.nodup_nil, List.nodup_nil, fun _ h => (nomatch h), fun _ _ => ⟨by simp [keys], by simp [NN.news]⟩⟩
theorem SeenOk.snoc {spare : Option Str} {seen : Pr} {p : Str × Option Str} (h : SeenOk spare seen) (hn : isName p.1 = true ∧ ∀ n, p.2 = some n → isName n = true) (c : clash seen spare p = false) : SeenOk spare (seen ++ [p]) := by
  unfold clash at c
  obtain ⟨o, n⟩ := p
  simp only [Bool.or_eq_false_iff, decide_eq_false_iff_not] at c
  obtain ⟨⟨c1, c2⟩, c3⟩ := c
  have ek : keys (seen ++ [(o, n)]) = keys seen ++ [o] := by simp [keys]
  have en : NN.news (seen ++ [(o, n)]) = NN.news seen ++ n.toList := by
    unfold NN.news; rw [List.filterMap_append]; cases n <;> rfl
  refine ⟨?_, ?_, ?_, ?_⟩
  · rw [ek]; exact List.nodup_append.mpr ⟨h.ndo, by simp, fun a ha b hb e => c1 (by simp at hb; rw [← hb, ← e]; exact ha)⟩
  · rw [en]
    cases n with
    | none => simpa using h.ndn
    | some m =>
      refine List.nodup_append.mpr ⟨h.ndn, by simp, fun a ha b hb e => ?_⟩
      simp at hb c2
      exact c2 (hb ▸ e ▸ ha)
  · intro q hq
    rcases List.mem_append.mp hq with hq | hq
    · exact h.names q hq
    · rw [List.mem_singleton.mp hq]; exact hn
  · intro s hs
    subst hs
    obtain ⟨h1, h2⟩ := h.sp s rfl
    simp only [Bool.or_eq_false_iff, decide_eq_false_iff_not] at c3
    rw [ek, en]
    constructor
    · simp only [List.mem_append, List.mem_singleton, not_or]; exact ⟨h1, c3.1⟩
    · simp only [List.mem_append, not_or]
      refine ⟨h2, ?_⟩
      cases n with
      | none => simp
      | some m => simp; exact fun e => c3.2 (by rw [e])
theorem rdL_ok {spare : Option Str} : ∀ {rows : List Str} {seen prs : Pr}, SeenOk spare seen → rdL spare seen rows = .inl prs → SeenOk spare prs ∧ prs.length = seen.length + rows.length
  | [], seen, prs, h, e => by cases e; exact ⟨h, rfl⟩
  | r :: rs, seen, prs, h, e => by
    unfold rdL at e
    cases hp : pairOf r with
    | none => rw [hp] at e; cases e
    | some p =>
      rw [hp] at e
      dsimp only at e
      by_cases c : clash seen spare p = true
      · rw [if_pos c] at e; cases e
      · rw [if_neg c] at e
        have := rdL_ok (h.snoc (pairOf_ok hp) (by simpa using c)) e
        refine ⟨this.1, ?_⟩
        have h2 := this.2
        simp at h2 ⊢
        omega
theorem SeenOk.pl {spare : Option Str} {prs : Pr} (h : SeenOk spare prs) (hl : prs.length ≤ 40) : PlOk prs :=
  ⟨h.ndo, h.ndn, fun o ho => by obtain ⟨p, hp, rfl⟩ := List.mem_map.mp ho; exact (h.names p hp).1, fun n hn => by obtain ⟨p, hp, e⟩ := List.mem_filterMap.mp hn; exact (h.names p hp).2 n e, hl⟩
/-! ### promises -/
def spPairOf : Sp := fun vs H Q _ => ∃ row : Str, vs = [.str row] ∧ row.length ≤ 50000 ∧ fineS row ∧
  (pairOf row = none → ∀ H', Kp [] H H' → Q .non H') ∧ ∀ o n, pairOf row = some (o, n) → ∀ t H', H t = none → Kp [] H H' → H' t = some (.tup [.str o, oV n]) → Q (.ref t) H'
def spPlanOf (C : Addr) (L : List Addr) : Sp := fun vs H Q E => ∃ (a : Addr) (rows : List Str) (b : Int) (spare : Option Str), vs = [.ref a, .int b, oV spare] ∧ H a = some (.lst (rows.map V.str)) ∧ rows.length ≤ 40 ∧ (∀ r ∈ rows, r.length ≤ 50000 ∧ fineS r) ∧ (∀ s, spare = some s → fineS s) ∧
  0 ≤ b ∧ b ≤ 100000 ∧ (∀ prs, rdL spare [] rows = .inl prs → ∀ r H', H r = none → Kp [] H H' → (∀ S, Live S H → PlanAt S C H' r prs) → Q (.ref r) H') ∧
  ∀ k : Nat, rdL spare [] rows = .inr k → Leave L (6, .v (.int (b + k))) [] E H
def rowS (p : Str × Option Str) : Str := match p.2 with
  | none => p.1 ++ " -"
  | some n => (p.1 ++ " ") ++ n
def spRowOf : Sp := fun vs H Q _ => ∃ (o : Str) (n : Option Str), vs = [.str o, oV n] ∧ o.length ≤ 100 ∧ (∀ m, n = some m → m.length ≤ 100) ∧ Q (.str (rowS (o, n))) H
def txtOf (prs : Pr) : Str := Txt.join "" ((byOlds prs).map fun p => rowS p ++ "\n")
def spWritten (C : Addr) : Sp := fun vs H Q _ => ∃ (p : Addr) (prs : Pr), vs = [.ref p] ∧ PlanAt [] C H p prs ∧ PlOk prs ∧ ∀ H', Kp [] H H' → Q (.str (txtOf prs)) H'
/-- a text read: its plan, or the number of the first bad row -/
def rdT (x : Str) : Pr ⊕ Nat := match rdL none [] (spl 10 x).dropLast with
  | .inr k => .inr k
  | .inl prs => if (spl 10 x).getLast? = some ("" : Str) then .inl prs else .inr ((spl 10 x).length - 1)
def spRead (C : Addr) (L : List Addr) : Sp := fun vs H Q E => ∃ x : Str, vs = [.str x] ∧ x.length ≤ 50000 ∧ fineS x ∧ (spl 10 x).length ≤ 40 ∧
  (∀ prs, rdT x = .inl prs → ∀ r H', H r = none → Kp [] H H' → (∀ S, Live S H → PlanAt S C H' r prs) → Q (.ref r) H') ∧
  ∀ k : Nat, rdT x = .inr k → Leave L (6, .v (.int k)) [] E H
theorem cutV_last {xs : List V} : cutV xs none (some (-1)) = xs.dropLast := by
  rw [List.dropLast_eq_take]
  unfold cutV
  have h1 : HT.sIx xs.length 0 none = 0 := rfl
  have h2 : HT.sIx xs.length xs.length (some (-1)) = xs.length - 1 := by show (if (-1 : Int) < 0 then ((-1 : Int) + (xs.length : Int)).toNat else min ((-1 : Int).toNat) xs.length) = _; rw [if_pos (by decide)]; omega
  rw [h1, h2, List.drop_zero, Nat.sub_zero]
end NN
namespace NN
open PySem L2
theorem sum_le_mul {l : List Str} {n : Nat} (h : ∀ s ∈ l, s.length ≤ n) : (l.map (·.length)).sum ≤ l.length * n := by
  induction l with
  | nil => simp
  | cons a r ih =>
    have h1 := h a (List.mem_cons_self ..)
    have h2 := ih fun s hs => h s (List.mem_cons_of_mem _ hs)
    rw [List.map_cons, List.sum_cons, List.length_cons, Nat.succ_mul]
    omega
end NN
namespace NN
open PySem L2
theorem inV_pair (s o : Str) (n : Option Str) : inV (.str s) [.str o, oV n] = (decide (s = o) || decide (n = some s)) := by
  have h := inV_append (.str s) [.str o] [oV n]
  have h1 := inV_strs s [o]
  have h2 := inV_news s [(o, n)]
  rw [show [V.str o, oV n] = [V.str o] ++ [oV n] from rfl, h]
  rw [show [V.str o] = [o].map V.str from rfl, h1, show [oV n] = [(o, n)].map (fun p => oV p.2) from rfl, h2]
  unfold NN.news
  cases n with
  | none => simp
  | some m => simp [eq_comm]
theorem flat_pair (o : Str) (n : Option Str) : [V.str o, oV n].all flatV = true := by cases n <;> rfl
theorem log_lt {n : Nat} (h : n < 2 ^ 20) : n.log2 < 1920 := by
  by_cases h0 : n = 0
  · subst h0; decide +kernel
  · exact (Nat.log2_lt h0).mpr (Nat.lt_trans h (Nat.pow_lt_pow_right (by decide) (by decide)))
end NN
namespace NN
open PySem L2
theorem cutL_sub {c : Nat} : ∀ (l : List Nat), ∀ p ∈ cutL c l, ∀ x ∈ p, x ∈ l
  | [] => fun p hp x hx => by
    have : p = [] := by simpa [cutL] using hp
    rw [this] at hx; exact hx
  | y :: r => fun p hp x hx => by
    by_cases e : y = c
    · subst e
      rw [cutL_hit] at hp
      rcases List.mem_cons.mp hp with rfl | hp
      · cases hx
      · exact List.mem_cons_of_mem _ (cutL_sub r p hp x hx)
    · cases hq : cutL c r with
      | nil => exact absurd hq (cutL_ne c _)
      | cons a q =>
        rw [cutL_miss e hq] at hp
        have ih := cutL_sub (c := c) r
        rw [hq] at ih
        rcases List.mem_cons.mp hp with rfl | hp
        · rcases List.mem_cons.mp hx with rfl | hx
          · exact List.mem_cons_self ..
          · exact List.mem_cons_of_mem _ (ih a (List.mem_cons_self ..) x hx)
        · exact List.mem_cons_of_mem _ (ih p (List.mem_cons_of_mem _ hp) x hx)
end NN
namespace NN
open PySem L2
theorem clash_old {seen : Pr} {spare : Option Str} {o : Str} {n : Option Str} (h : o ∈ keys seen) : clash seen spare (o, n) = true := by
  unfold clash; simp [h]
theorem clash_new {seen : Pr} {spare : Option Str} {o m : Str} (h : m ∈ NN.news seen) : clash seen spare (o, some m) = true := by
  unfold clash; simp [h]
theorem clash_sp {seen : Pr} {s o : Str} {n : Option Str} (h : (decide (s = o) || decide (n = some s)) = true) : clash seen (some s) (o, n) = true := by
  unfold clash; simp only [h, Bool.or_true]
theorem clash_no {seen : Pr} {spare : Option Str} {o : Str} {n : Option Str} (h1 : o ∉ keys seen) (h2 : ∀ m, n = some m → m ∉ NN.news seen) (h3 : ∀ s, spare = some s → (decide (s = o) || decide (n = some s)) = false) : clash seen spare (o, n) = false := by
  unfold clash
  have a1 : decide ((o, n).1 ∈ keys seen) = false := decide_eq_false h1
  rw [a1]
  cases n with
  | none =>
    cases spare with
    | none => rfl
    | some s => have := h3 s rfl; simpa using this
  | some m =>
    have a2 := h2 m rfl
    cases spare with
    | none => simp [a2]
    | some s => have := h3 s rfl; simp [a2] at this ⊢; exact this
end NN
namespace NN
open PySem L2
theorem Leave.after {L : List Addr} {e : Err} {S : List Addr} {E : XK} {H H2 : Hp} (h : Leave L e S E H) (k : Kp S H H2) (l : ∀ s ∈ S, H2 s ≠ none) : Leave L e S E H2 := fun C d fs H' hC k' hf hv =>
  h C d fs H' hC (k.trans k') hf fun f hff => (hv f hff).imp id fun ⟨h0, v, hl, hat⟩ => ⟨h0, v, hl, fun S' l' => hat S' (l'.kp k l)⟩
end NN
/-! a plan's text read again -/
namespace NN
open PySem L2
theorem keys_perm {α : Type} {a b : List (Str × α)} (p : a.Perm b) : (keys a).Perm (keys b) := p.map _
theorem news_perm {a b : Pr} (p : a.Perm b) : (NN.news a).Perm (NN.news b) := p.filterMap _
theorem lk_perm {α : Type} {a b : List (Str × α)} (p : a.Perm b) (nd : (keys b).Nodup) (k : Str) : lk a k = lk b k := by
  have nda : (keys a).Nodup := (keys_perm p).nodup_iff.mpr nd
  by_cases h : k ∈ keys b
  · obtain ⟨v, hv⟩ := lk_of_key h
    rw [hv]
    exact lk_of_mem nda (p.mem_iff.mpr (lk_mem hv))
  · rw [lk_none.mpr h, lk_none.mpr fun h' => h ((keys_perm p).mem_iff.mp h')]
theorem byOlds_perm {a b : Pr} (p : a.Perm b) (nd : (keys b).Nodup) : byOlds a = byOlds b := by
  unfold byOlds
  have e : srt (keys a) = srt (keys b) := srt_eq (keys_perm p)
  rw [e]
  refine List.map_congr_left fun k _ => ?_
  rw [lk_perm p nd]
theorem map_lk {α : Type} {l : List (Str × α)} (nd : (keys l).Nodup) (d : α) : (keys l).map (fun k => (k, (lk l k).getD d)) = l := by
  have : ∀ p ∈ l, (lk l p.1).getD d = p.2 := fun p hp => by rw [lk_of_mem nd (show (p.1, p.2) ∈ l from hp)]; rfl
  unfold keys
  rw [List.map_map]
  conv => rhs; rw [← List.map_id l]
  refine List.map_congr_left fun p hp => ?_
  show (p.1, (lk l p.1).getD d) = p
  rw [this p hp]
theorem byOlds_self {prs : Pr} (nd : (keys prs).Nodup) : (byOlds prs).Perm prs := by
  have h : byOlds prs = (srt (keys prs)).map fun k => (k, (lk prs k).getD none) := by unfold byOlds; rfl
  rw [h]
  have := (srt_perm (keys prs)).map fun k => (k, (lk prs k).getD (none : Option Str))
  rw [map_lk nd] at this
  exact this
theorem PlOk.perm {a b : Pr} (h : PlOk b) (p : a.Perm b) : PlOk a :=
  ⟨(keys_perm p).nodup_iff.mpr h.ndo, (news_perm p).nodup_iff.mpr h.ndn, fun o ho => h.olds o ((keys_perm p).mem_iff.mp ho), fun n hn => h.news n ((news_perm p).mem_iff.mp hn), by rw [p.length_eq]; exact h.len⟩
theorem perm_unmap {α β : Type} {f : α → β} {ys xs : List β} (p : ys.Perm xs) : ∀ {l : List α}, xs = l.map f → ∃ l' : List α, l'.Perm l ∧ ys = l'.map f := by
  induction p with
  | nil => intro l h; exact ⟨l, List.Perm.refl _, h⟩
  | cons x p ih =>
    intro l h
    cases l with
    | nil => cases h
    | cons a r =>
      obtain ⟨h1, h2⟩ := List.cons.inj h
      obtain ⟨l', p', e⟩ := ih h2
      exact ⟨a :: l', p'.cons a, by rw [e, h1]; rfl⟩
  | swap x y l0 =>
    intro l h
    cases l with
    | nil => cases h
    | cons a r =>
      cases r with
      | nil => cases h
      | cons b r =>
        obtain ⟨h1, h2⟩ := List.cons.inj h
        obtain ⟨h3, h4⟩ := List.cons.inj h2
        exact ⟨b :: a :: r, List.Perm.swap a b r, by rw [h1, h3, h4]; rfl⟩
  | trans p q ihp ihq =>
    intro l h
    obtain ⟨l1, p1, e1⟩ := ihq h
    obtain ⟨l2, p2, e2⟩ := ihp e1
    exact ⟨l2, p2.trans p1, e2⟩
/-! ### a row's words -/
theorem no_sp {z : Str} (h : isName z = true) (c : Nat) (hc : c < 97) : c ∉ z.cps.toList := fun hm => by
  have := (isName_iff.mp h).2.2 c hm
  rw [letters_iff] at this
  omega
theorem app_list (a b : Str) : (a ++ b).cps.toList = a.cps.toList ++ b.cps.toList := by
  show (a.cps ++ b.cps).toList = _
  simp
theorem tx_list (z : Str) : tx z.cps.toList = z := Str.ext' (Array.toList_inj.mp rfl)
theorem pair_row {p : Str × Option Str} (h1 : isName p.1 = true) (h2 : ∀ n, p.2 = some n → isName n = true) : pairOf (rowS p) = some p := by
  obtain ⟨o, n⟩ := p
  have sp : (" " : Str).cps.toList = [32] := by decide +kernel
  have sd : (" -" : Str).cps.toList = [32, 45] := by decide +kernel
  have td : tx [45] = ("-" : Str) := by decide +kernel
  cases n with
  | none =>
    have : spl 32 (rowS (o, none)) = [o, "-"] := by
      show (cutL 32 (o ++ " -").cps.toList).map tx = _
      rw [app_list, sd, cutL_app (no_sp h1 32 (by decide)), cutL_none (by decide), List.map_cons, tx_list, List.map_cons, td]
      rfl
    unfold pairOf
    rw [this]
    simp only [if_true, h1]
  | some m =>
    have hm := h2 m rfl
    have : spl 32 (rowS (o, some m)) = [o, m] := by
      show (cutL 32 ((o ++ " ") ++ m).cps.toList).map tx = _
      rw [app_list, app_list, sp, List.append_assoc, List.singleton_append, cutL_app (no_sp h1 32 (by decide)), cutL_none (no_sp hm 32 (by decide)), List.map_cons, tx_list, List.map_cons, tx_list]
      rfl
    have nd : m ≠ "-" := fun e => by
      have := no_sp hm 45 (by decide)
      rw [e] at this
      exact this (by decide +kernel)
    unfold pairOf
    rw [this]
    simp [h1, hm, nd]
theorem row_nl {p : Str × Option Str} (h1 : isName p.1 = true) (h2 : ∀ n, p.2 = some n → isName n = true) : 10 ∉ (rowS p).cps.toList := by
  obtain ⟨o, n⟩ := p
  have sp : (" " : Str).cps.toList = [32] := by decide +kernel
  have sd : (" -" : Str).cps.toList = [32, 45] := by decide +kernel
  have ho := no_sp h1 10 (by decide)
  cases n with
  | none => show 10 ∉ (o ++ " -").cps.toList; rw [app_list, sd]; simp [ho]
  | some m =>
    have hm := no_sp (h2 m rfl) 10 (by decide)
    show 10 ∉ ((o ++ " ") ++ m).cps.toList
    rw [app_list, app_list, sp]; simp [ho, hm]
theorem rdL_rows {seen : Pr} : ∀ {l : Pr}, PlOk (seen ++ l) → rdL none seen (l.map rowS) = .inl (seen ++ l)
  | [], _ => by rw [List.append_nil]; rfl
  | p :: l, h => by
    have hn := h.names p (by simp)
    show rdL none seen (rowS p :: l.map rowS) = _
    unfold rdL
    rw [pair_row hn.1 hn.2]
    dsimp only
    have hc : clash seen none p = false := by
      obtain ⟨o, n⟩ := p
      refine clash_no ?_ ?_ (fun _ z => nomatch z)
      · have := h.ndo
        simp only [keys, List.map_append, List.map_cons] at this
        intro ho
        exact (List.nodup_append.mp this).2.2 o ho o (List.mem_cons_self ..) rfl
      · intro m hm
        subst hm
        have := h.ndn
        unfold NN.news at this ⊢
        rw [List.filterMap_append, List.filterMap_cons] at this
        intro hmm
        exact (List.nodup_append.mp this).2.2 m hmm m (List.mem_cons_self ..) rfl
    rw [if_neg (by rw [hc]; exact Bool.false_ne_true)]
    have e : seen ++ p :: l = (seen ++ [p]) ++ l := by simp
    rw [e] at h ⊢
    exact rdL_rows h
theorem join_flat : ∀ (l : List Str), (Txt.join "" l).cps.toList = (l.map fun z => z.cps.toList).flatten := by
  intro l
  have e : ("" : Str).cps.toList = [] := rfl
  show (Builtin.Str.glued "" l).cps.toList = _
  rw [StrLaws.glued_eq_join]
  induction l with
  | nil => rfl
  | cons a r ih =>
    cases r with
    | nil => simp [Str.join]
    | cons b r =>
      show (a ++ "" ++ Str.join "" (b :: r)).cps.toList = _
      rw [app_list, app_list, e, ih]; simp
/-- a text of rows -/
def txR (l : Pr) : Str := Txt.join "" (l.map fun p => rowS p ++ "\n")
theorem spl_txR {l : Pr} (h : ∀ p ∈ l, isName p.1 = true ∧ ∀ n, p.2 = some n → isName n = true) : spl 10 (txR l) = l.map rowS ++ [("" : Str)] := by
  have nl : ("\n" : Str).cps.toList = [10] := by decide +kernel
  unfold spl txR
  rw [join_flat, List.map_map]
  have e : ((l.map ((fun z => z.cps.toList) ∘ fun p => rowS p ++ "\n"))) = (l.map fun p => (rowS p).cps.toList).map fun z => z ++ [10] := by
    rw [List.map_map]
    refine List.map_congr_left fun p _ => ?_
    show (rowS p ++ "\n").cps.toList = _
    rw [app_list, nl]; rfl
  rw [e, cutL_rows, List.map_append, List.map_map]
  · rfl
  · intro z hz
    obtain ⟨p, hp, rfl⟩ := List.mem_map.mp hz
    exact row_nl (h p hp).1 (h p hp).2
theorem rdT_txR {l : Pr} (h : PlOk l) : rdT (txR l) = .inl l := by
  unfold rdT
  rw [spl_txR h.names, List.dropLast_concat, rdL_rows (seen := []) (by simpa using h)]
  dsimp only [List.nil_append]
  rw [if_pos (by simp)]
theorem rowS_len {p : Str × Option Str} (h1 : isName p.1 = true) (h2 : ∀ n, p.2 = some n → isName n = true) : (rowS p).length ≤ 17 := by
  have lo := name_len h1
  unfold rowS
  cases e : p.2 with
  | none => rw [Str.length_append, show (" -" : Str).length = 2 by decide +kernel]; omega
  | some m =>
    have := name_len (h2 m e)
    rw [Str.length_append, Str.length_append, show (" " : Str).length = 1 by decide +kernel]; omega
theorem rowS_fine {p : Str × Option Str} (h1 : isName p.1 = true) (h2 : ∀ n, p.2 = some n → isName n = true) : fineS (rowS p ++ "\n") := fine_of fun c hc => by
  have nl : ("\n" : Str).cps.toList = [10] := by decide +kernel
  have sp : (" " : Str).cps.toList = [32] := by decide +kernel
  have sd : (" -" : Str).cps.toList = [32, 45] := by decide +kernel
  rw [app_list, nl] at hc
  have name : ∀ {z : Str}, isName z = true → ∀ c ∈ z.cps.toList, c < 1114112 := fun hz c hc => fine_lt (name_fine hz) c hc
  obtain ⟨o, n⟩ := p
  rcases List.mem_append.mp hc with hc | hc
  · unfold rowS at hc
    cases n with
    | none =>
      rw [app_list, sd] at hc
      rcases List.mem_append.mp hc with hc | hc
      · exact name h1 c hc
      · simp at hc; omega
    | some m =>
      rw [app_list, app_list, sp] at hc
      rcases List.mem_append.mp hc with hc | hc
      · rcases List.mem_append.mp hc with hc | hc
        · exact name h1 c hc
        · simp at hc; omega
      · exact name (h2 m rfl) c hc
  · simp at hc; omega
theorem txR_fine {l : Pr} (h : ∀ p ∈ l, isName p.1 = true ∧ ∀ n, p.2 = some n → isName n = true) : fineS (txR l) := fine_of fun c hc => by
  unfold txR at hc
  rw [join_flat, List.mem_flatten] at hc
  obtain ⟨z, hz, hc⟩ := hc
  rw [List.map_map] at hz
  obtain ⟨p, hp, rfl⟩ := List.mem_map.mp hz
  exact fine_lt (rowS_fine (h p hp).1 (h p hp).2) c hc
theorem txR_len {l : Pr} (h : ∀ p ∈ l, isName p.1 = true ∧ ∀ n, p.2 = some n → isName n = true) : (txR l).length ≤ l.length * 18 := by
  have nl : ("\n" : Str).length = 1 := by decide +kernel
  have e : (txR l).length = ((l.map fun p => rowS p ++ "\n").map (·.length)).sum := by
    show (txR l).cps.size = _
    rw [← Array.length_toList]
    unfold txR
    rw [join_flat, List.length_flatten, List.map_map]
    congr 1
  rw [e]
  have := sum_le_mul (l := l.map fun p => rowS p ++ "\n") (n := 18) fun s hs => by
    obtain ⟨p, hp, rfl⟩ := List.mem_map.mp hs
    rw [Str.length_append, nl]
    have := rowS_len (h p hp).1 (h p hp).2
    omega
  rw [List.length_map] at this
  exact this
theorem txtOf_R (prs : Pr) : txtOf prs = txR (byOlds prs) := rfl
theorem PlOk.by {prs : Pr} (h : PlOk prs) : PlOk (byOlds prs) := h.perm (byOlds_self h.ndo)
theorem byOlds_by {prs : Pr} (h : PlOk prs) : byOlds (byOlds prs) = byOlds prs := byOlds_perm (byOlds_self h.ndo) h.ndo
end NN
namespace NN
open PySem L2
theorem perm_at {S : List Addr} {H : Hp} {ys ws : List V} (p : ys.Perm ws) : ∀ {ds : List D}, AtL S H ws ds → ∃ ds' : List D, ds'.Perm ds ∧ AtL S H ys ds' := by
  induction p with
  | nil => intro ds h; exact ⟨ds, List.Perm.refl _, h⟩
  | cons x p ih =>
    intro ds h
    cases h with
    | cons h1 h2 =>
      obtain ⟨ds', p', h'⟩ := ih h2
      exact ⟨_ :: ds', p'.cons _, .cons h1 h'⟩
  | swap x y l0 =>
    intro ds h
    cases h with
    | cons h1 h2 => cases h2 with
      | cons h3 h4 => exact ⟨_, List.Perm.swap _ _ _, .cons h3 (.cons h1 h4)⟩
  | trans p q ihp ihq =>
    intro ds h
    obtain ⟨d1, p1, h1⟩ := ihq h
    obtain ⟨d2, p2, h2⟩ := ihp h1
    exact ⟨d2, p2.trans p1, h2⟩
theorem c_read {C : Addr} {L : List Addr} {l : Pr} {H : Hp} {Q : VK} {E : XK} (h : PlOk l) (hl : l.length ≤ 30) (q : ∀ r H', H r = none → Kp [] H H' → (∀ S, Live S H → PlanAt S C H' r l) → Q (.ref r) H') : qt (spRead C L) [.str (txR l)] H Q E := by
  refine ⟨txR l, rfl, by have := txR_len h.names; omega, txR_fine h.names, by rw [spl_txR h.names]; simp; omega, fun prs hp => ?_, fun k hk => ?_⟩
  · rw [rdT_txR h] at hp; cases hp; exact q
  · rw [rdT_txR h] at hk; cases hk
theorem row_or (o : Str) (n : Option Str) : ((o ++ " ") ++ (match n with | none => ("-" : Str) | some m => m)) = rowS (o, n) := by
  cases n with
  | some m => rfl
  | none =>
    apply Str.ext'
    apply Array.toList_inj.mp
    show ((o ++ " ") ++ ("-" : Str)).cps.toList = (o ++ " -").cps.toList
    rw [app_list, app_list, app_list, show (" " : Str).cps.toList = [32] by decide +kernel, show ("-" : Str).cps.toList = [45] by decide +kernel, show (" -" : Str).cps.toList = [32, 45] by decide +kernel, List.append_assoc]
    rfl
def GoodT (t : Str) : Prop := ∃ l : Pr, PlOk l ∧ byOlds l = l ∧ l.length ≤ 30 ∧ t = txR l
theorem GoodT.fine {t : Str} (h : GoodT t) : fineS t := by
  obtain ⟨l, h1, _, _, rfl⟩ := h
  exact txR_fine h1.names
theorem ok_encPs {n : Nat} {prs : Pr} (hl : prs.length ≤ 1000) (h : ∀ p ∈ prs, isName p.1 = true ∧ ∀ n, p.2 = some n → isName n = true) : okD (n + 2) (encPs prs) := .l (by simpa using hl) fun d hd => by
  obtain ⟨p, hp, rfl⟩ := List.mem_map.mp hd
  exact ok_encP (name_fine (h p hp).1) fun m hm => name_fine ((h p hp).2 m hm)
end NN
namespace NN
open PySem L2
theorem Kp.trans' {S : List Addr} {H H1 H2 : Hp} (a : Kp [] H H1) (b : Kp S H1 H2) : Kp S H H2 := (a.sub (by simp)).trans b
end NN
/-! texts that were spoilt -/
namespace NN
open PySem L2
def dueT (x : Str) : D := match rdT x with
  | .inl prs => .t [.v (.str "told"), .l ((byOlds prs).map encP)]
  | .inr k => .t [.v (.str "row"), .v (.int k)]
def nls (x : Str) : Nat := x.cps.toList.count 10
theorem cutL_count {c : Nat} : ∀ (l : List Nat), (cutL c l).length = l.count c + 1
  | [] => rfl
  | y :: r => by
    by_cases e : y = c
    · subst e
      rw [cutL_hit, List.length_cons, cutL_count r, List.count_cons_self]
    · cases hq : cutL c r with
      | nil => exact absurd hq (cutL_ne c _)
      | cons a q =>
        have ih := cutL_count (c := c) r
        rw [hq] at ih
        rw [cutL_miss e hq, List.length_cons, List.count_cons_of_ne e]
        simpa using ih
theorem spl_nls (x : Str) : (spl 10 x).length = nls x + 1 := by unfold spl nls; rw [List.length_map, cutL_count]
/-- a text that may be read: how long, how many rows -/
structure TxOk (x : Str) (n k : Nat) : Prop where
  fine : fineS x
  len : x.length ≤ n
  nl : nls x ≤ k
def spSpoilt : Sp := fun vs H Q _ => ∃ (st pl : Addr) (nn : List Str) (x : Str) (n k : Nat), vs = [.ref st, .str x, .ref pl] ∧ St1 H st ∧ H pl = some (.lst (nn.map V.str)) ∧ PoolOk nn ∧ TxOk x n k ∧ n ≤ 1000 ∧ k ≤ 20 ∧
  ∀ z H', Kp [st] H H' → St1 H' st → TxOk z (2 * n + 40) (k + 1) → Q (.str z) H'
def spDueT : Sp := fun vs H Q _ => ∃ (x : Str), vs = [.str x] ∧ TxOk x 5000 30 ∧
  ∀ r H', Kp [] H H' → (∀ S, Live S H → At S H' (.ref r) (dueT x)) → Q (.ref r) H'
theorem rdT_ok {x : Str} {prs : Pr} (h : rdT x = .inl prs) (hl : nls x ≤ 40) : PlOk prs := by
  unfold rdT at h
  cases e : rdL none [] (spl 10 x).dropLast with
  | inr k => rw [e] at h; cases h
  | inl q =>
    rw [e] at h
    dsimp only at h
    split at h
    · cases h
      obtain ⟨h1, h2⟩ := rdL_ok (SeenOk.nil none) e
      refine h1.pl ?_
      rw [List.length_dropLast, spl_nls] at h2
      simp at h2
      omega
    · cases h
theorem fine_dueT {x : Str} (hl : nls x ≤ 40) : fineD (dueT x) := by
  unfold dueT
  cases e : rdT x with
  | inl prs =>
    have pl := rdT_ok e hl
    refine FineN.fine (n := 3) (FineN.t fun d hd => ?_) (by decide)
    rcases List.mem_cons.mp hd with rfl | hd
    · exact .str (show PyData.strOk "told" = true by decide +kernel)
    · rw [List.mem_singleton.mp hd]
      exact fine_Ps fun p hp => ShP.name (o := p.1) (n := p.2) (byOlds_names pl p hp).1 (byOlds_names pl p hp).2
  | inr k =>
    refine FineN.fine (n := 1) (FineN.t (n := 0) fun d hd => ?_) (by decide)
    rcases List.mem_cons.mp hd with rfl | hd
    · exact .str (show PyData.strOk "row" = true by decide +kernel)
    · rw [List.mem_singleton.mp hd]; exact .int
theorem fine_spl {x : Str} (hf : fineS x) {c : Nat} : ∀ r ∈ spl c x, fineS r := fun r hr => by
  obtain ⟨l, hl, rfl⟩ := List.mem_map.mp hr
  exact fine_of fun y hy => fine_lt hf y (cutL_sub _ l hl y hy)
theorem TxOk.of {z : Str} {n k : Nat} (h : ∀ c ∈ z.cps.toList, c < 1114112) (hl : z.cps.toList.length ≤ n) (hk : z.cps.toList.count 10 ≤ k) : TxOk z n k := ⟨fine_of h, by rw [← len_cps]; exact hl, hk⟩
theorem TxOk.txR {l : Pr} (h : PlOk l) (hl : l.length ≤ 7) : TxOk (NN.txR l) 126 7 := by
  refine ⟨txR_fine h.names, by have := txR_len h.names; omega, ?_⟩
  have := spl_txR h.names
  have h2 := spl_nls (NN.txR l)
  rw [this] at h2
  simp at h2
  omega
/-- the reading by rows, as the law has it -/
theorem rdL_at {rows : List Str} {i : Nat} {prs : Pr} {row : Str} (h : rdL none [] rows = rdL none prs (rows.drop i)) (hr : rows[i]? = some row) :
    (pairOf row = none → rdL none [] rows = .inr prs.length) ∧ ∀ p, pairOf row = some p → (clash prs none p = true → rdL none [] rows = .inr prs.length) ∧ (clash prs none p = false → rdL none [] rows = rdL none (prs ++ [p]) (rows.drop (i + 1))) := by
  have hd : rows.drop i = row :: rows.drop (i + 1) := by
    rw [List.drop_eq_getElem_cons (List.getElem?_eq_some_iff.mp hr).1, (List.getElem?_eq_some_iff.mp hr).2]
  rw [hd] at h
  refine ⟨fun e => ?_, fun p e => ⟨fun c => ?_, fun c => ?_⟩⟩
  · rw [h]; unfold rdL; rw [e]
  · rw [h]; unfold rdL; rw [e]; dsimp only; rw [if_pos c]
  · rw [h]
    conv => lhs; unfold rdL
    rw [e]; dsimp only; rw [if_neg (by rw [c]; exact Bool.false_ne_true)]
end NN
namespace NN
open PySem L2
structure RowOk (n : Nat) (z : Str) : Prop where
  len : z.length ≤ n
  fine : fineS z
  no : 10 ∉ z.cps.toList
theorem RowOk.app {n m : Nat} {a b : Str} (h : RowOk n a) (g : RowOk m b) : RowOk (n + m) (a ++ b) :=
  ⟨by rw [Str.length_append]; have := h.len; have := g.len; omega, fine_of fun c hc => by
    rw [app_list] at hc
    rcases List.mem_append.mp hc with hc | hc
    · exact fine_lt h.fine c hc
    · exact fine_lt g.fine c hc, by rw [app_list]; simp [h.no, g.no]⟩
theorem RowOk.le {n m : Nat} {a : Str} (h : RowOk n a) (l : n ≤ m) : RowOk m a := ⟨Nat.le_trans h.len l, h.fine, h.no⟩
theorem RowOk.name {z : Str} (h : isName z = true) : RowOk 8 z := ⟨name_len h, name_fine h, no_sp h 10 (by decide)⟩
def rowB (n : Nat) (z : Str) : Bool := decide (z.length ≤ n) && (PyData.strOk z && !decide (10 ∈ z.cps.toList))
theorem RowOk.lit {n : Nat} {z : Str} (h : rowB n z = true) : RowOk n z := by
  unfold rowB at h
  simp only [Bool.and_eq_true, decide_eq_true_eq, Bool.not_eq_true', decide_eq_false_iff_not] at h
  exact ⟨h.1, h.2.1, h.2.2⟩
theorem RowOk.spl {x : Str} (hf : fineS x) : ∀ r ∈ spl 10 x, RowOk x.length r := fun r hr => ⟨(spl_len 10 x).2 r hr, fine_spl hf r hr, by
  obtain ⟨l, hl, rfl⟩ := List.mem_map.mp hr
  exact cutL_free _ l hl⟩
/-- a part of a text, at the given places -/
theorem cut_str (z : Str) (lo hi : Option Int) : ∃ l : List Nat, cutS z lo hi = tx l ∧ l.Sublist z.cps.toList := ⟨_, rfl, (List.take_sublist ..).trans (List.drop_sublist ..)⟩
theorem TxOk.sub {z : Str} {n k : Nat} {l : List Nat} (h : TxOk z n k) (s : l.Sublist z.cps.toList) : TxOk (tx l) n k :=
  .of (fun c hc => fine_lt h.fine c (s.subset hc)) (by have := s.length_le; rw [len_cps] at this; have := h.len; show l.length ≤ n; omega) (Nat.le_trans (s.count_le 10) h.nl)
theorem TxOk.mono {z : Str} {n k n' k' : Nat} (h : TxOk z n k) (hn : n ≤ n') (hk : k ≤ k') : TxOk z n' k' := ⟨h.fine, Nat.le_trans h.len hn, Nat.le_trans h.nl hk⟩
/-- a sign put between a beginning and an end -/
theorem TxOk.mid {z s : Str} {n k : Nat} {i j : Nat} (h : TxOk z n k) (hij : i ≤ j) (hs : s.length ≤ 1) (hf : fineS s) : TxOk ((tx (z.cps.toList.take i) ++ s) ++ tx (z.cps.toList.drop j)) (n + 1) (k + 1) := by
  have hcount : (z.cps.toList.take i).count 10 + (z.cps.toList.drop j).count 10 ≤ z.cps.toList.count 10 := by
    conv => rhs; rw [← List.take_append_drop i z.cps.toList, List.count_append]
    have : (z.cps.toList.drop j).Sublist (z.cps.toList.drop i) := by
      have e : z.cps.toList.drop j = (z.cps.toList.drop i).drop (j - i) := by rw [List.drop_drop]; congr 1; omega
      rw [e]; exact List.drop_sublist ..
    have := this.count_le 10
    omega
  have hl := h.len
  have hk : z.cps.toList.count 10 ≤ k := h.nl
  have zl := len_cps z
  have sl : s.cps.toList.length ≤ 1 := by rw [len_cps]; exact hs
  refine .of (fun c hc => ?_) ?_ ?_
  · rw [app_list, app_list, tx_cps, tx_cps] at hc
    rcases List.mem_append.mp hc with hc | hc
    · rcases List.mem_append.mp hc with hc | hc
      · exact fine_lt h.fine c (List.mem_of_mem_take hc)
      · exact fine_lt hf c hc
    · exact fine_lt h.fine c (List.mem_of_mem_drop hc)
  · rw [app_list, app_list, tx_cps, tx_cps, List.length_append, List.length_append, List.length_take, List.length_drop]; omega
  · rw [app_list, app_list, tx_cps, tx_cps, List.count_append, List.count_append]
    have : s.cps.toList.count 10 ≤ 1 := Nat.le_trans List.count_le_length sl
    omega
theorem TxOk.gap {z : Str} {n k : Nat} {i j : Nat} (h : TxOk z n k) (hij : i ≤ j) : TxOk (tx (z.cps.toList.take i) ++ tx (z.cps.toList.drop j)) (n + 1) (k + 1) := by
  have := h.mid (s := "") hij (by decide) (show PyData.strOk "" = true by decide +kernel)
  have e : (tx (z.cps.toList.take i) ++ ("" : Str)) = tx (z.cps.toList.take i) := by
    apply Str.ext'
    apply Array.toList_inj.mp
    show (tx (z.cps.toList.take i) ++ ("" : Str)).cps.toList = _
    rw [app_list]
    show _ ++ [] = _
    rw [List.append_nil]
  rw [e] at this
  exact this
/-- rows joined by line ends, one more behind -/
theorem TxOk.rows {rows : List Str} {n : Nat} (h : ∀ r ∈ rows, RowOk n r) (m : Nat) (hm : (rows.map (·.length)).sum + rows.length + 1 ≤ m) : TxOk (Txt.join "\n" rows ++ "\n") m (rows.length - 1 + 1) := by
  have nl : ("\n" : Str).cps.toList = [10] := by decide +kernel
  have key : ∀ (l : List Str), (∀ r ∈ l, RowOk n r) → (∀ c ∈ (Str.join "\n" l).cps.toList, c < 1114112) ∧ (Str.join "\n" l).cps.toList.length ≤ (l.map (·.length)).sum + l.length ∧ (Str.join "\n" l).cps.toList.count 10 ≤ l.length - 1 := by
    intro l
    induction l with
    | nil =>
      intro _
      have e : (Str.join "\n" []).cps.toList = [] := rfl
      rw [e]
      exact ⟨fun _ hc => (nomatch hc), Nat.zero_le _, Nat.zero_le _⟩
    | cons a r ih =>
      intro hr
      have ha := hr a (List.mem_cons_self ..)
      obtain ⟨i1, i2, i3⟩ := ih fun x hx => hr x (List.mem_cons_of_mem _ hx)
      have al := len_cps a
      have a0 : a.cps.toList.count 10 = 0 := List.count_eq_zero.mpr ha.no
      cases r with
      | nil =>
        show (∀ c ∈ a.cps.toList, _) ∧ a.cps.toList.length ≤ _ ∧ a.cps.toList.count 10 ≤ _
        refine ⟨fun c hc => fine_lt ha.fine c hc, ?_, by rw [a0]; exact Nat.zero_le _⟩
        rw [al]; simp
      | cons b r =>
        have e : (Str.join "\n" (a :: b :: r)).cps.toList = a.cps.toList ++ [10] ++ (Str.join "\n" (b :: r)).cps.toList := by
          show (a ++ "\n" ++ Str.join "\n" (b :: r)).cps.toList = _
          rw [app_list, app_list, nl]
        rw [e]
        refine ⟨fun c hc => ?_, ?_, ?_⟩
        · rcases List.mem_append.mp hc with hc | hc
          · rcases List.mem_append.mp hc with hc | hc
            · exact fine_lt ha.fine c hc
            · simp at hc; omega
          · exact i1 c hc
        · rw [List.length_append, List.length_append, al, List.map_cons, List.sum_cons, List.length_cons]
          simp only [List.length_cons, List.length_nil] at i2 ⊢
          omega
        · rw [List.count_append, List.count_append, a0]
          simp only [List.length_cons] at i3 ⊢
          have : [10].count 10 = 1 := by decide
          omega
  obtain ⟨k1, k2, k3⟩ := key rows h
  have ej : Txt.join "\n" rows = Str.join "\n" rows := StrLaws.glued_eq_join _ _
  rw [ej]
  refine .of (fun c hc => ?_) ?_ ?_
  · rw [app_list, nl] at hc
    rcases List.mem_append.mp hc with hc | hc
    · exact k1 c hc
    · simp at hc; omega
  · rw [app_list, nl, List.length_append]
    show _ + 1 ≤ m
    omega
  · rw [app_list, nl, List.count_append]
    have : [10].count 10 = 1 := by decide
    omega
end NN
namespace NN
open PySem L2
theorem spl_sum (x : Str) : ((spl 10 x).map (·.length)).sum + (spl 10 x).length ≤ x.length + 1 := by
  have := PyProof.Rows.split_weight x "\n" (by decide +kernel)
  rw [split_nl] at this
  exact this
theorem sum_sub {a b : List Str} (h : a.Sublist b) : (a.map (·.length)).sum ≤ (b.map (·.length)).sum := by
  induction h with
  | slnil => exact Nat.le_refl _
  | cons x h ih => rw [List.map_cons, List.sum_cons]; omega
  | cons_cons x h ih => rw [List.map_cons, List.map_cons, List.sum_cons, List.sum_cons]; omega
theorem sum_cut (l : List Str) {i j : Nat} (h : i ≤ j) : ((l.take i).map (·.length)).sum + ((l.drop j).map (·.length)).sum ≤ (l.map (·.length)).sum := by
  have e : (l.map (·.length)).sum = ((l.take i).map (·.length)).sum + ((l.drop i).map (·.length)).sum := by
    conv => lhs; rw [← List.take_append_drop i l, List.map_append, List.sum_append]
  have s : (l.drop j).Sublist (l.drop i) := by
    have e : l.drop j = (l.drop i).drop (j - i) := by rw [List.drop_drop]; congr 1; omega
    rw [e]; exact List.drop_sublist ..
  have := sum_sub s
  omega
end NN
/-! the deeds of a plan -/
namespace NN
open PySem L2
/-- a deed: from where, to where (none: let go) -/
abbrev Dd := Str × Option Str
def encDd (d : Dd) : D := match d.2 with
  | none => .t [.v (.str "drop"), .v (.str d.1)]
  | some n => .t [.v (.str "move"), .v (.str d.1), .v (.str n)]
def ddV (d : Dd) : List V := match d.2 with
  | none => [.str "drop", .str d.1]
  | some n => [.str "move", .str d.1, .str n]
theorem encDd_at {S : List Addr} {H : Hp} {d : Dd} {p : Addr} (hp : H p = none) (l : Live S H) : At S (upd H p (.tup (ddV d))) (.ref p) (encDd d) := by
  obtain ⟨a, n⟩ := d
  cases n with
  | none => exact At.newT hp l (AtL.two _ _)
  | some n => exact At.newT hp l (.cons (.v _) (AtL.two _ _))
/-- from where a name is led to -/
def srcs (prs : Pr) : List (Str × V) := newsD prs
def src (prs : Pr) (n : Str) : Option Str := (prs.find? fun p => decide (p.2 = some n)).map (·.1)
theorem src_mem {prs : Pr} {n o : Str} (h : src prs n = some o) : (o, some n) ∈ prs := by
  unfold src at h
  obtain ⟨p, hp, e⟩ := Option.map_eq_some_iff.mp h
  have h1 := List.mem_of_find?_eq_some hp
  have h2 : p.2 = some n := by have := List.find?_some hp; simpa using this
  subst e
  rw [← h2]; exact h1
theorem lk_newsD {prs : Pr} (nd : (news prs).Nodup) (n : Str) : lk (newsD prs) n = (src prs n).map V.str := by
  unfold newsD src
  induction prs with
  | nil => rfl
  | cons p r ih =>
    obtain ⟨o, m⟩ := p
    rw [List.filterMap_cons, List.find?_cons]
    cases m with
    | none =>
      have nd' : (news r).Nodup := nd
      simpa using ih nd'
    | some m =>
      have nd' : (news r).Nodup := by
        unfold news at nd ⊢
        rw [List.filterMap_cons] at nd
        exact (List.nodup_cons.mp nd).2
      show lk ((m, V.str o) :: _) n = _
      rw [lk_cons]
      by_cases e : m = n
      · subst e; simp
      · rw [if_neg e, ih nd']
        simp [e]
theorem src_some {prs : Pr} (nd : (news prs).Nodup) {n o : Str} (h : (o, some n) ∈ prs) : src prs n = some o := by
  have hl := lk_newsD nd n
  have : lk (newsD prs) n = some (.str o) := lk_of_mem (by rw [keys_newsD]; exact nd) (List.mem_filterMap.mpr ⟨_, h, rfl⟩)
  rw [this] at hl
  cases e : src prs n with
  | none => rw [e] at hl; cases hl
  | some o' => rw [e] at hl; cases hl; rfl
/-- the moves that lead to a name, the last one first -/
def chainL (prs : Pr) : Nat → Str → List Dd
  | 0, _ => []
  | f + 1, n => match src prs n with
    | none => []
    | some o => (o, some n) :: chainL prs f o
/-- the way back: here first; nothing leaves the last -/
structure Back (prs : Pr) (l : List Str) : Prop where
  nd : l.Nodup
  step : ∀ i a b, l[i]? = some a → l[i + 1]? = some b → nx prs a = some b
  last : ∀ z, l[l.length - 1]? = some z → nx prs z = none
theorem Back.one {prs : Pr} {n : Str} (h : nx prs n = none) : Back prs [n] := ⟨by simp, fun i a b _ h => by simp at h, fun z hz => by
  simp at hz; rw [← hz]; exact h⟩
theorem Back.cons {prs : Pr} {l : List Str} {h o : Str} (b : Back prs (h :: l)) (e : nx prs o = some h) : Back prs (o :: h :: l) := by
  refine ⟨List.nodup_cons.mpr ⟨fun hm => ?_, b.nd⟩, fun i x y hx hy => ?_, fun z hz => b.last z (by simpa using hz)⟩
  · obtain ⟨j, hj⟩ := List.mem_iff_getElem?.mp hm
    have hjl := (List.getElem?_eq_some_iff.mp hj).1
    by_cases hl : j = (h :: l).length - 1
    · have := b.last o (by rw [← hl]; exact hj)
      rw [this] at e; cases e
    · have hj1 : j + 1 < (h :: l).length := by omega
      have hn := b.step j o _ hj (List.getElem?_eq_getElem hj1)
      rw [hn] at e
      have e2 := Option.some.inj e
      have h0 : (h :: l)[0]? = some h := rfl
      have := nd_ix b.nd (i := j + 1) (j := 0) (x := h) (by rw [List.getElem?_eq_getElem hj1, e2]) h0
      omega
  · cases i with
    | zero => cases hx; cases hy; exact e
    | succ i => exact b.step i x y (by simpa using hx) (by simpa using hy)
theorem Back.len {prs : Pr} {l : List Str} (b : Back prs l) : l.length ≤ prs.length + 1 := by
  have h1 : l.dropLast.length ≤ (keys prs).length := by
    refine nd_le (b.nd.sublist (List.dropLast_sublist l)) fun x hx => ?_
    obtain ⟨i, hi⟩ := List.mem_iff_getElem?.mp hx
    have hil := (List.getElem?_eq_some_iff.mp hi).1
    rw [List.length_dropLast] at hil
    have hi2 : l[i]? = some x := by rw [List.dropLast_eq_take, List.getElem?_take_of_lt hil] at hi; exact hi
    have hj : i + 1 < l.length := by omega
    exact nx_key (b.step i x _ hi2 (List.getElem?_eq_getElem hj))
  rw [List.length_dropLast] at h1
  have : (keys prs).length = prs.length := by simp [keys]
  omega
theorem nx_of_mem {prs : Pr} (nd : (keys prs).Nodup) {a b : Str} (h : (a, some b) ∈ prs) : nx prs a = some b := by
  unfold nx; rw [lk_of_mem nd h]; rfl
/-- ring: r's moves over a spare name -/
def ringD1 (r : List Str) (sp : Str) : List Dd :=
  [(r.getD (r.length - 1) "", some sp)] ++ ((List.range (r.length - 1)).map fun k => (r.getD (r.length - 2 - k) "", some (r.getD (r.length - 1 - k) ""))) ++ [(sp, some (r.getD 0 ""))]
def dropsL (prs : Pr) : List Dd := ((byOlds prs).filter fun p => p.2.isNone).map fun p => (p.1, none)
def spS (sp : Option Str) : Str := sp.getD ""
noncomputable def deedsL (prs : Pr) (sp : Option Str) : List Dd :=
  dropsL prs ++ ((srt (news prs)).filter fun n => decide (n ∉ keys prs)).flatMap (chainL prs 50) ++ (((byOlds prs).filter fun p => p.2.isNone).map (·.1)).flatMap (chainL prs 50) ++ (rings prs).flatMap fun r => ringD1 r (spS sp)
noncomputable def spareE (prs : Pr) (nm : List Str) (sp : Option Str) : Option Err := match sp with
  | some s => if isName s = true then (if s ∈ nm ∨ s ∈ news prs then some (3, .v (.str s)) else none) else some (0, .v .non)
  | none => match rings prs with
    | [] => none
    | r :: _ => some (5, .t (strsD r))
noncomputable def deedsE (prs : Pr) (nm : List Str) (sp : Option Str) : Option Err := match fitE prs nm with
  | some e => some e
  | none => spareE prs nm sp
def spNeedSpare (C : Addr) (L : List Addr) : Sp := fun vs H Q E => ∃ (p a : Addr) (prs : Pr) (nm : List Str) (sp : Option Str), vs = [.ref p, .ref a, oV sp] ∧ PlanAt [] C H p prs ∧ PlOk prs ∧ H a = some (.lst (nm.map V.str)) ∧ (∀ s, sp = some s → s.length ≤ 1000) ∧
  (spareE prs nm sp = none → ∀ H', Kp [] H H' → Q .non H') ∧ ∀ e, spareE prs nm sp = some e → Leave L e [] E H
def spChainTo (C : Addr) : Sp := fun vs H Q _ => ∃ (p : Addr) (prs : Pr) (n : Str), vs = [.ref p, .str n] ∧ PlanAt [] C H p prs ∧ PlOk prs ∧ nx prs n = none ∧
  ∀ q ws H', H q = none → Kp [] H H' → H' q = some (.lst ws) → (∀ S, Live S H → AtL (q :: S) H' ws ((chainL prs 50 n).map encDd)) → Q (.ref q) H'
def spRingDeeds : Sp := fun vs H Q _ => ∃ (t : Addr) (r : List Str) (sp : Str), vs = [.ref t, .str sp] ∧ H t = some (.tup (r.map V.str)) ∧ 2 ≤ r.length ∧ r.length ≤ 41 ∧
  ∀ q ws H', H q = none → Kp [] H H' → H' q = some (.lst ws) → (∀ S, Live S H → AtL (q :: S) H' ws ((ringD1 r sp).map encDd)) → Q (.ref q) H'
def spDeedsBy (C : Addr) : Sp := fun vs H Q _ => ∃ (p : Addr) (prs : Pr) (sp : Option Str), vs = [.ref p, oV sp] ∧ PlanAt [] C H p prs ∧ PlOk prs ∧ (sp = none → rings prs = []) ∧
  ∀ q ws H', H q = none → Kp [] H H' → H' q = some (.lst ws) → (∀ S, Live S H → AtL (q :: S) H' ws ((deedsL prs sp).map encDd)) → Q (.ref q) H'
def spDeeds (C : Addr) (L : List Addr) : Sp := fun vs H Q E => ∃ (p a : Addr) (prs : Pr) (nm : List Str) (sp : Option Str), vs = [.ref p, .ref a, oV sp] ∧ PlanAt [] C H p prs ∧ PlOk prs ∧ H a = some (.lst (nm.map V.str)) ∧ (∀ s, sp = some s → s.length ≤ 1000) ∧
  (deedsE prs nm sp = none → ∀ q ws H', H q = none → Kp [] H H' → H' q = some (.lst ws) → (∀ S, Live S H → AtL (q :: S) H' ws ((deedsL prs sp).map encDd)) → Q (.ref q) H') ∧ ∀ e, deedsE prs nm sp = some e → Leave L e [] E H
theorem pys_ne {d : D} {ds : List D} {p : PyData} (h : (D.l (d :: ds)).py = some p) : ∃ x xs, p = .list (x :: xs) := by
  have h : (D.pys (d :: ds)).map PyData.list = some p := h
  obtain ⟨ps, hps, rfl⟩ := Option.map_eq_some_iff.mp h
  have hps : (D.py d).bind (fun p => (D.pys ds).map (p :: ·)) = some ps := hps
  obtain ⟨x, _, h2⟩ := Option.bind_eq_some_iff.mp hps
  obtain ⟨xs, _, rfl⟩ := Option.map_eq_some_iff.mp h2
  exact ⟨x, xs, rfl⟩
theorem shaped_of {p : PyData} (c : p.canLay0 = true) (d : p.depth ≤ 30) : SeqAt.shaped p = true := by
  unfold SeqAt.shaped
  rw [c, Bool.true_and]
  exact decide_eq_true (by omega)
theorem g_neNilD {K : PySem.W.Frag} {S : List Addr} {H : Hp} {Q : VK} {x : V} {b : Addr} {ds : List D} (h1 : At S H x (.l ds)) (hb : H b = some (.lst [])) (f : fineD (.l ds)) (q : Q (.bl (!ds.isEmpty)) H) : rNeU K x (.ref b) H Q := by
  obtain ⟨p, e, c, dd⟩ := f
  have h2 : At [] H (.ref b) (.l []) := .l (by simp) hb .nil
  refine g_neD (h1.dp e) (h2.dp (p := .list []) rfl) (shaped_of c dd) (shaped_of (p := .list []) rfl (by decide)) ?_
  cases ds with
  | nil => cases e; exact q
  | cons d ds => obtain ⟨x, xs, rfl⟩ := pys_ne e; exact q
theorem rings_shape {prs : Pr} {r : List Str} (h : r ∈ rings prs) : 2 ≤ r.length ∧ ∀ n ∈ r, n ∈ keys prs := by
  obtain ⟨n, c, h1, _⟩ := rings_mem h
  exact ⟨h1, c.keys⟩
theorem fine_rings {prs : Pr} (h : PlOk prs) : FineN 2 (.l (ringsD (rings prs))) := FineN.l (n := 1) fun d hd => by
  obtain ⟨r, hr, rfl⟩ := List.mem_map.mp hd
  refine FineN.t (n := 0) fun d hd => ?_
  obtain ⟨n, hn, rfl⟩ := List.mem_map.mp hd
  obtain ⟨q, hq, rfl⟩ := List.mem_map.mp ((rings_shape hr).2 n hn)
  exact FineN.str (name_fine (h.names q hq).1)
theorem src_by {prs : Pr} (h : PlOk prs) (n : Str) : src (byOlds prs) n = src prs n := by
  have pm := byOlds_self h.ndo
  cases e : src (byOlds prs) n with
  | some o => exact (src_some h.ndn (pm.mem_iff.mp (src_mem e))).symm
  | none =>
    cases e2 : src prs n with
    | none => rfl
    | some o => rw [src_some h.by.ndn (pm.mem_iff.mpr (src_mem e2))] at e; cases e
theorem chain_none {prs : Pr} {n : Str} (h : src prs n = none) (m : Nat) : chainL prs m n = [] := by
  cases m with
  | zero => rfl
  | succ m => unfold chainL; rw [h]
theorem chain_some {prs : Pr} {n o : Str} (h : src prs n = some o) (m : Nat) : chainL prs (m + 1) n = (o, some n) :: chainL prs m o := by
  conv => lhs; unfold chainL
  rw [h]
theorem Back.len40 {prs : Pr} {l : List Str} (b : Back prs l) (h : PlOk prs) : l.length ≤ 41 := by have := b.len; have := h.len; omega
theorem g_iRng3 {ta : TA} {σ : L2.St} {H : Hp} {R : It → Hp → Prop} (q : ta σ H fun vs H1 => ∃ (i j c : Int) (n : Nat), vs = [.int i, .int j, .int c] ∧ RgC i j c n ∧ R (Itc i c n) H1) : iRng3 ta σ H R := q
theorem ext_at {g q : Addr} {S : List Addr} {H H' : Hp} {vs ws : List V} {ds es : List D} (hat : AtL (g :: S) H vs ds) (k : Kp [] H H') (hq : AtL (q :: g :: S) H' ws es) : AtL (g :: S) (upd H' g (.lst (vs ++ ws))) (vs ++ ws) (ds ++ es) :=
  ((hat.kp k (by simp)).append (hq.sub (fun x hx => List.mem_cons_of_mem _ hx))).kp (Kp.mut (S := [g]) (by simp)) (by simp)
theorem snoc_at {g : Addr} {S : List Addr} {H H' : Hp} {vs : List V} {x : V} {ds : List D} {e : D} (hat : AtL (g :: S) H vs ds) (k : Kp [] H H') (hq : At (g :: S) H' x e) : AtL (g :: S) (upd H' g (.lst (vs ++ [x]))) (vs ++ [x]) (ds ++ [e]) :=
  ((hat.kp k (by simp)).snoc hq).kp (Kp.mut (S := [g]) (by simp)) (by simp)
theorem chain_len (prs : Pr) : ∀ (m : Nat) (n : Str), (chainL prs m n).length ≤ m
  | 0, _ => Nat.le_refl _
  | m + 1, n => by
    cases h : src prs n with
    | none => rw [chain_none h]; exact Nat.zero_le _
    | some o => rw [chain_some h, List.length_cons]; have := chain_len prs m o; omega
theorem flat_len {α β : Type} {f : α → List β} {b : Nat} : ∀ {l : List α}, (∀ x ∈ l, (f x).length ≤ b) → (l.flatMap f).length ≤ l.length * b
  | [], _ => by simp
  | x :: l, h => by
    rw [List.flatMap_cons, List.length_append, List.length_cons, Nat.succ_mul]
    have h1 := h x (List.mem_cons_self ..)
    have h2 := flat_len (l := l) fun y hy => h y (List.mem_cons_of_mem _ hy)
    omega
theorem ring_dlen (r : List Str) (sp : Str) : (ringD1 r sp).length = r.length - 1 + 2 := by unfold ringD1; simp
/-- what a plan's deeds are, part by part -/
def dropP (prs : Pr) (i : Nat) : List Dd := (((byOlds prs).take i).filter fun p => p.2.isNone).map fun p => (p.1, none)
def newP (prs : Pr) (i : Nat) : List Dd := (((srt (news prs)).take i).filter fun n => decide (n ∉ keys prs)).flatMap (chainL prs 50)
def goneP (prs : Pr) (i : Nat) : List Dd := ((((byOlds prs).take i).filter fun p => p.2.isNone).map (·.1)).flatMap (chainL prs 50)
noncomputable def ringP (prs : Pr) (sp : Option Str) (i : Nat) : List Dd := ((rings prs).take i).flatMap fun r => ringD1 r (spS sp)
theorem dropP_len (prs : Pr) (i : Nat) : (dropP prs i).length ≤ i := by
  unfold dropP
  rw [List.length_map]
  have := List.length_filter_le (fun p : Str × Option Str => p.2.isNone) ((byOlds prs).take i)
  rw [List.length_take] at this
  omega
theorem newP_len (prs : Pr) (i : Nat) : (newP prs i).length ≤ i * 50 := by
  unfold newP
  refine Nat.le_trans (flat_len (b := 50) fun n _ => chain_len prs 50 n) (Nat.mul_le_mul_right _ ?_)
  have := List.length_filter_le (fun n => decide (n ∉ keys prs)) ((srt (news prs)).take i)
  rw [List.length_take] at this
  omega
theorem goneP_len (prs : Pr) (i : Nat) : (goneP prs i).length ≤ i * 50 := by
  unfold goneP
  refine Nat.le_trans (flat_len (b := 50) fun n _ => chain_len prs 50 n) (Nat.mul_le_mul_right _ ?_)
  rw [List.length_map]
  have := List.length_filter_le (fun p : Str × Option Str => p.2.isNone) ((byOlds prs).take i)
  rw [List.length_take] at this
  omega
theorem ringP_len {prs : Pr} (h : PlOk prs) (sp : Option Str) (i : Nat) : (ringP prs sp i).length ≤ i * 50 := by
  unfold ringP
  refine Nat.le_trans (flat_len (b := 50) fun r hr => ?_) (Nat.mul_le_mul_right _ ?_)
  · rw [ring_dlen]
    have := ring_len h (List.mem_of_mem_take hr)
    omega
  · rw [List.length_take]; omega
theorem deedsL_parts {prs : Pr} (sp : Option Str) {i j k : Nat} (hi : (byOlds prs).length ≤ i) (hj : (srt (news prs)).length ≤ j) (hk : (rings prs).length ≤ k) : deedsL prs sp = dropP prs i ++ newP prs j ++ goneP prs i ++ ringP prs sp k := by
  unfold deedsL dropsL dropP newP goneP ringP
  rw [List.take_of_length_le hi, List.take_of_length_le hj, List.take_of_length_le hk]
theorem spare_none {prs : Pr} {nm : List Str} {sp : Option Str} (h : spareE prs nm sp = none) (e : sp = none) : rings prs = [] := by
  subst e
  unfold spareE at h
  dsimp only at h
  cases hr : rings prs with
  | nil => rfl
  | cons r rs => rw [hr] at h; cases h
section
/-- a def whose last parameter has None by itself -/
def FnAtD (P : Program) (w : World) (K : PySem.W.Frag) (mg : Str → Option Value) (base : Heap) (CX : CXT) (k : Nat) (x : Str) (ps : List Str) (sp : Sp) : Prop :=
  ∃ f fd, mg x = some (.ref f) ∧ PySem.W.keepIn K (.ref f) = true ∧ Binds K fd ps [.none] ∧ FnOk P w K mg base CX k f fd ps sp
variable {X : Cx} {k : Nat} {x : Str} {ps : List Str} {sp : Sp} {e : Expr} {es : List Expr} {t : TA} {p pos : Pos}
theorem pe_fnD (F : FnAtD X.prog X.w X.K X.mg X.base CX0 k x ps sp) (hr : Room k X.A) (ha : PA X (e :: es) t) (hg : Gl X x := by rfl) (hdb : (x == ("__debug__" : Str)) = false := by decide)
    (he : starEach (e :: es) X.env = (false, eval e X.env) :: starEach es X.env := by rfl) (hpl : (backTo pos (starEach es X.env)).any (·.1) = false := by rfl) : PE X (.Call (.Name x p) (e :: es) [] pos) (tCall sp [.non] E0 t) :=
  let ⟨_, _, h1, h2, h3, h4⟩ := F
  pe_call h4 hr hg h1 h2 h3 (.cons rfl .nil) pass0 ha hdb he hpl
end
end NN
/-! what is due where deeds are asked -/
namespace NN
open PySem L2
def spSpare : Sp := fun vs H Q _ => ∃ (a : Addr) (nm : List Str), vs = [.ref a] ∧ H a = some (.lst (nm.map V.str)) ∧ nm.length ≤ 25 ∧ ∀ z, isName z = true → z.length = 2 → z ∉ nm → Q (.str z) H
def SpF (sp : Option Str) : Prop := ∀ s, sp = some s → s.length ≤ 100 ∧ fineS s
noncomputable def dueDD (prs : Pr) (nm : List Str) (sp : Option Str) : D := match deedsE prs nm sp with
  | none => .t [.v (.str "good"), .v .non]
  | some e => .t [.v (.str (wrdOf e.1)), e.2]
noncomputable def toldDD (prs : Pr) (nm : List Str) (sp : Option Str) : D := match deedsE prs nm sp with
  | none => .t [.v (.str "good"), .l ((deedsL prs sp).map encDd)]
  | some e => .t [.v (.str (wrdOf e.1)), e.2]
def spDueS : Sp := fun vs H Q _ => ∃ (ax b : Addr) (prs : Pr) (nm : List Str) (sp : Option Str), vs = [.ref ax, .ref b, oV sp] ∧ At [] H (.ref ax) (encPs prs) ∧ PlOk prs ∧ H b = some (.lst (nm.map V.str)) ∧ Nms nm ∧ SpF sp ∧
  ∀ r H', H r = none → Kp [] H H' → (∀ S, Live S H → At S H' (.ref r) (dueDD prs nm sp)) → Q (.ref r) H'
def spToldS (C : Addr) : Sp := fun vs H Q _ => ∃ (p b : Addr) (prs : Pr) (nm : List Str) (sp : Option Str), vs = [.ref p, .ref b, oV sp] ∧ PlanAt [] C H p prs ∧ PlOk prs ∧ H b = some (.lst (nm.map V.str)) ∧ SpF sp ∧
  ∀ r H', H r = none → Kp [] H H' → (∀ S, Live S H → At S H' (.ref r) (toldDD prs nm sp)) → Q (.ref r) H'
def spRightS (C : Addr) : Sp := fun vs H Q _ => ∃ (p ax b : Addr) (prs : Pr) (nm : List Str) (sp : Option Str), vs = [.ref p, .ref ax, .ref b, oV sp] ∧ PlanAt [] C H p prs ∧ PlOk prs ∧ At [] H (.ref ax) (encPs prs) ∧ H b = some (.lst (nm.map V.str)) ∧ Nms nm ∧ SpF sp ∧
  ∀ H', Kp [] H H' → Q (.bl true) H'
theorem spareE_fine {prs : Pr} {nm : List Str} {sp : Option Str} {e : Err} (pl : PlOk prs) (hs : SpF sp) (h : spareE prs nm sp = some e) : FineN 1 e.2 := by
  unfold spareE at h
  cases sp with
  | some s =>
    dsimp only at h
    split at h
    · split at h
      · cases h; exact .str (hs s rfl).2
      · cases h
    · cases h; exact .non
  | none =>
    dsimp only at h
    cases hr : rings prs with
    | nil => rw [hr] at h; cases h
    | cons r rs =>
      rw [hr] at h
      cases h
      refine FineN.t (n := 0) fun d hd => ?_
      obtain ⟨n, hn, rfl⟩ := List.mem_map.mp hd
      obtain ⟨q, hq, rfl⟩ := List.mem_map.mp ((rings_shape (r := r) (by rw [hr]; exact List.mem_cons_self ..)).2 n hn)
      exact FineN.str (name_fine (pl.names q hq).1)
theorem deedsE_fine {prs : Pr} {nm : List Str} {sp : Option Str} {e : Err} (pl : PlOk prs) (hs : SpF sp) (h : deedsE prs nm sp = some e) : FineN 1 e.2 := by
  unfold deedsE at h
  cases hf : fitE prs nm with
  | none => rw [hf] at h; exact spareE_fine pl hs h
  | some e' => rw [hf] at h; cases h; exact fit_fine pl hf 1
theorem due_fine {prs : Pr} {nm : List Str} {sp : Option Str} (pl : PlOk prs) (hs : SpF sp) : FineN 2 (dueDD prs nm sp) := by
  unfold dueDD
  cases h : deedsE prs nm sp with
  | none =>
    refine FineN.t (n := 1) fun d hd => ?_
    rcases List.mem_cons.mp hd with rfl | hd
    · exact .str (show PyData.strOk "good" = true by decide +kernel)
    · rw [List.mem_singleton.mp hd]; exact .non
  | some e =>
    refine FineN.t (n := 1) fun d hd => ?_
    rcases List.mem_cons.mp hd with rfl | hd
    · exact .str (wrd_fine _)
    · rw [List.mem_singleton.mp hd]; exact deedsE_fine pl hs h
/-- the names that stand in deeds -/
def DdIn (N : List Str) (d : Dd) : Prop := d.1 ∈ N ∧ ∀ m, d.2 = some m → m ∈ N
theorem chain_in {prs : Pr} {N : List Str} (h1 : ∀ o ∈ keys prs, o ∈ N) : ∀ (m : Nat) (n : Str), n ∈ N → ∀ d ∈ chainL prs m n, DdIn N d
  | 0, _, _, _, hd => nomatch hd
  | m + 1, n, hn, d, hd => by
    cases h : src prs n with
    | none => rw [chain_none h] at hd; cases hd
    | some o =>
      have ho : o ∈ N := h1 o (List.mem_map.mpr ⟨_, src_mem h, rfl⟩)
      rw [chain_some h] at hd
      rcases List.mem_cons.mp hd with rfl | hd
      · exact ⟨ho, fun m hm => by cases hm; exact hn⟩
      · exact chain_in h1 m o ho d hd
theorem getD_mem {l : List Str} {i : Nat} (h : i < l.length) : l.getD i "" ∈ l := by
  rw [List.getD_eq_getElem?_getD, List.getElem?_eq_getElem h]; exact List.getElem_mem h
theorem ringD1_in {r : List Str} {sp : Str} {N : List Str} (hr : ∀ n ∈ r, n ∈ N) (hs : sp ∈ N) (hl : 2 ≤ r.length) : ∀ d ∈ ringD1 r sp, DdIn N d := by
  intro d hd
  unfold ringD1 at hd
  have gm : ∀ i, i < r.length → r.getD i "" ∈ N := fun i hi => hr _ (getD_mem hi)
  rcases List.mem_append.mp hd with hd | hd
  · rcases List.mem_append.mp hd with hd | hd
    · rw [List.mem_singleton.mp hd]; exact ⟨gm _ (by omega), fun m hm => by cases hm; exact hs⟩
    · obtain ⟨k, hk, rfl⟩ := List.mem_map.mp hd
      have := List.mem_range.mp hk
      exact ⟨gm _ (by omega), fun m hm => by cases hm; exact gm _ (by omega)⟩
  · rw [List.mem_singleton.mp hd]; exact ⟨hs, fun m hm => by cases hm; exact gm _ (by omega)⟩
theorem byOlds_key {prs : Pr} {p : Str × Option Str} (h : p ∈ byOlds prs) : p.1 ∈ keys prs := by
  unfold byOlds at h
  obtain ⟨o, ho, rfl⟩ := List.mem_map.mp h
  exact mem_srt.mp ho
theorem deeds_in {prs : Pr} {sp : Option Str} {N : List Str} (h1 : ∀ o ∈ keys prs, o ∈ N) (h2 : ∀ n ∈ news prs, n ∈ N) (hs : rings prs ≠ [] → spS sp ∈ N) : ∀ d ∈ deedsL prs sp, DdIn N d := by
  intro d hd
  unfold deedsL at hd
  rcases List.mem_append.mp hd with hd | hd
  · rcases List.mem_append.mp hd with hd | hd
    · rcases List.mem_append.mp hd with hd | hd
      · unfold dropsL at hd
        obtain ⟨p, hp, rfl⟩ := List.mem_map.mp hd
        exact ⟨h1 _ (byOlds_key (p := p) (List.mem_filter.mp hp).1), fun m hm => nomatch hm⟩
      · obtain ⟨n, hn, hd⟩ := List.mem_flatMap.mp hd
        exact chain_in h1 50 n (h2 n (mem_srt.mp (List.mem_filter.mp hn).1)) d hd
    · obtain ⟨n, hn, hd⟩ := List.mem_flatMap.mp hd
      obtain ⟨p, hp, rfl⟩ := List.mem_map.mp hn
      exact chain_in h1 50 _ (h1 _ (byOlds_key (List.mem_filter.mp hp).1)) d hd
  · obtain ⟨r, hr, hd⟩ := List.mem_flatMap.mp hd
    have hsh := rings_shape hr
    exact ringD1_in (fun n hn => h1 n (hsh.2 n hn)) (hs (fun e => by rw [e] at hr; cases hr)) hsh.1 d hd
theorem encDd_fine {N : List Str} {d : Dd} (h : DdIn N d) (hN : ∀ n ∈ N, fineS n) : FineN 1 (encDd d) := by
  obtain ⟨o, m⟩ := d
  cases m with
  | none =>
    refine FineN.t (n := 0) fun d hd => ?_
    rcases List.mem_cons.mp hd with rfl | hd
    · exact .str (show PyData.strOk "drop" = true by decide +kernel)
    · rw [List.mem_singleton.mp hd]; exact .str (hN _ h.1)
  | some m =>
    refine FineN.t (n := 0) fun d hd => ?_
    rcases List.mem_cons.mp hd with rfl | hd
    · exact .str (show PyData.strOk "move" = true by decide +kernel)
    · rcases List.mem_cons.mp hd with rfl | hd
      · exact .str (hN _ h.1)
      · rw [List.mem_singleton.mp hd]; exact .str (hN _ (h.2 m rfl))
theorem deeds_fine {prs : Pr} {sp : Option Str} (pl : PlOk prs) (hs : SpF sp) : FineN 2 (.l ((deedsL prs sp).map encDd)) := FineN.l (n := 1) fun d hd => by
  obtain ⟨x, hx, rfl⟩ := List.mem_map.mp hd
  refine encDd_fine (N := keys prs ++ news prs ++ [spS sp]) (deeds_in (fun o ho => by simp [ho]) (fun n hn => by simp [hn]) (fun _ => by simp) x hx) fun n hn => ?_
  rcases List.mem_append.mp hn with hn | hn
  · rcases List.mem_append.mp hn with hn | hn
    · exact name_fine (pl.olds n hn)
    · exact name_fine (pl.news n hn)
  · rw [List.mem_singleton.mp hn]
    cases sp with
    | none => exact show PyData.strOk "" = true by decide +kernel
    | some s => exact (hs s rfl).2
theorem told_fine {prs : Pr} {nm : List Str} {sp : Option Str} (pl : PlOk prs) (hs : SpF sp) : FineN 3 (toldDD prs nm sp) := by
  unfold toldDD
  cases h : deedsE prs nm sp with
  | none =>
    refine FineN.t (n := 2) fun d hd => ?_
    rcases List.mem_cons.mp hd with rfl | hd
    · exact .str (show PyData.strOk "good" = true by decide +kernel)
    · rw [List.mem_singleton.mp hd]; exact deeds_fine pl hs
  | some e =>
    refine FineN.t (n := 2) fun d hd => ?_
    rcases List.mem_cons.mp hd with rfl | hd
    · exact .str (wrd_fine _)
    · rw [List.mem_singleton.mp hd]; obtain ⟨p, a, b, c⟩ := deedsE_fine pl hs h; exact ⟨p, a, b, by omega⟩
/-- two letters -/
theorem two_name {a b : Nat} (ha : a ∈ letters.cps.toList) (hb : b ∈ letters.cps.toList) : isName (⟨#[a]⟩ ++ ⟨#[b]⟩ : Str) = true ∧ (⟨#[a]⟩ ++ ⟨#[b]⟩ : Str).length = 2 := by
  have e : (⟨#[a]⟩ ++ ⟨#[b]⟩ : Str) = ⟨#[a, b]⟩ := rfl
  rw [e]
  refine ⟨isName_iff.mpr ⟨(show 0 < 2 by decide), (show 2 ≤ 8 by decide), fun c hc => ?_⟩, rfl⟩
  simp at hc
  rcases hc with rfl | rfl
  · exact ha
  · exact hb
theorem two_inj {a b b' : Nat} (h : (⟨#[a]⟩ ++ ⟨#[b]⟩ : Str) = ⟨#[a]⟩ ++ ⟨#[b']⟩) : b = b' := by
  have e : (⟨#[a, b]⟩ : Str) = ⟨#[a, b']⟩ := h
  injection e with e
  simpa using e
theorem full_row {a : Nat} {nm : List Str} (hl : nm.length ≤ 25) (h : ∀ b ∈ letters.cps.toList, (⟨#[a]⟩ ++ ⟨#[b]⟩ : Str) ∈ nm) : False := by
  have h1 : (letters.cps.toList.map fun b => (⟨#[a]⟩ ++ ⟨#[b]⟩ : Str)).Nodup := List.Pairwise.map _ (fun b b' n e => n (two_inj e)) letters_nd
  have h2 := nd_le h1 (fun x hx => by obtain ⟨b, hb, rfl⟩ := List.mem_map.mp hx; exact h b hb)
  rw [List.length_map, letters_len] at h2
  omega
theorem g_neSigns {K : PySem.W.Frag} {H : Hp} {Q : VK} {a b : Addr} {cs : List Nat} (ha : H a = some (.lst (cs.map fun c => V.str ⟨#[c]⟩))) (hb : H b = some (.lst [])) (hf : ∀ c ∈ cs, c < 1114112) (q : Q (.bl (!cs.isEmpty)) H) : rNeU K (.ref a) (.ref b) H Q := by
  have e : (cs.map fun c => V.str ⟨#[c]⟩) = (cs.map fun c => (⟨#[c]⟩ : Str)).map V.str := by rw [List.map_map]; rfl
  rw [e] at ha
  refine g_neStrs (ys := []) ha hb (fun y hy => ?_) (fun y hy => nomatch hy) ?_
  · obtain ⟨c, hc, rfl⟩ := List.mem_map.mp hy
    exact fine_of fun x hx => by simp at hx; rw [hx]; exact hf c hc
  · cases cs <;> exact q
theorem wrd_good (i : Nat) : wrdOf i ≠ "good" := by
  have h : ∀ w ∈ wrds, w ≠ "good" := by decide +kernel
  unfold wrdOf
  rw [List.getD_eq_getElem?_getD]
  cases e : wrds[i]? with
  | none => exact (by decide +kernel : ("" : Str) ≠ "good")
  | some w => exact h w (List.mem_of_getElem? e)
theorem strs_at {l : List Str} {r : Int} (h0 : 0 ≤ r) (h1 : r < l.length) : ∃ z ∈ l, atI (l.map V.str) r = some (.str z) := by
  obtain ⟨j, rfl⟩ := Int.eq_ofNat_of_zero_le h0
  have hj : j < l.length := by omega
  exact ⟨l[j], List.getElem_mem hj, atI_nat (by rw [List.getElem?_map, List.getElem?_eq_getElem hj]; rfl)⟩
theorem spF_name {z : Str} (h : isName z = true) : SpF (some z) := fun s e => by cases e; exact ⟨by have := name_len h; omega, name_fine h⟩
theorem spF_none : SpF none := fun s e => by cases e
theorem spare_good {prs : Pr} {nm : List Str} {z : Str} (hf : fitE prs nm = none) (hn : isName z = true) (h1 : z ∉ nm) (h2 : z ∉ news prs) : deedsE prs nm (some z) = none := by
  unfold deedsE; rw [hf]; dsimp only; unfold spareE; dsimp only; rw [if_pos hn, if_neg (by simp [h1, h2])]
end NN
/-! plans behind one another, and turned back -/
namespace NN
open PySem L2
/-! ### turned -/
def flipO (p : Str × Option Str) : Option (Str × Option Str) := p.2.map fun n => (n, some p.1)
def turnL (prs : Pr) : Pr := prs.filterMap flipO
def goneOf (prs : Pr) : Option Str := ((byOlds prs).find? fun p => p.2.isNone).map (·.1)
def turnE (prs : Pr) : Option Err := (goneOf prs).map fun o => (4, .v (.str o))
def AllS (prs : Pr) : Prop := ∀ p ∈ prs, p.2 ≠ none
theorem turn_keys (prs : Pr) : keys (turnL prs) = news prs := by
  unfold keys turnL news
  rw [List.map_filterMap]
  congr 1
  funext p
  unfold flipO
  cases p.2 <;> rfl
theorem turn_news_sub (prs : Pr) : (news (turnL prs)).Sublist (keys prs) := by
  induction prs with
  | nil => exact .slnil
  | cons p r ih =>
    obtain ⟨o, n⟩ := p
    cases n with
    | none => exact .cons _ ih
    | some n => exact .cons_cons _ ih
theorem turn_news {prs : Pr} (h : AllS prs) : news (turnL prs) = keys prs := by
  induction prs with
  | nil => rfl
  | cons p r ih =>
    obtain ⟨o, n⟩ := p
    have ih' := ih fun q hq => h q (List.mem_cons_of_mem _ hq)
    cases n with
    | none => exact absurd rfl (h (o, none) (List.mem_cons_self ..))
    | some n => exact congrArg (o :: ·) ih'
theorem turn_len (prs : Pr) : (turnL prs).length ≤ prs.length := List.length_filterMap_le ..
theorem PlOk.turn {prs : Pr} (h : PlOk prs) : PlOk (turnL prs) := by
  refine ⟨by rw [turn_keys]; exact h.ndn, h.ndo.sublist (turn_news_sub prs), by rw [turn_keys]; exact h.news, fun n hn => h.olds n ((turn_news_sub prs).subset hn), ?_⟩
  have := turn_len prs; have := h.len; omega
theorem turn_turn {prs : Pr} (h : AllS prs) : turnL (turnL prs) = prs := by
  induction prs with
  | nil => rfl
  | cons p r ih =>
    obtain ⟨o, n⟩ := p
    have ih' := ih fun q hq => h q (List.mem_cons_of_mem _ hq)
    cases n with
    | none => exact absurd rfl (h (o, none) (List.mem_cons_self ..))
    | some n => exact congrArg ((o, some n) :: ·) ih'
theorem turn_perm {a b : Pr} (p : a.Perm b) : (turnL a).Perm (turnL b) := p.filterMap _
theorem allS_turn (prs : Pr) : AllS (turnL prs) := fun p hp => by
  obtain ⟨q, _, e⟩ := List.mem_filterMap.mp hp
  unfold flipO at e
  obtain ⟨n, _, rfl⟩ := Option.map_eq_some_iff.mp e
  intro z; cases z
theorem AllS.perm {a b : Pr} (h : AllS b) (p : a.Perm b) : AllS a := fun q hq => h q (p.subset hq)
theorem mem_turn {prs : Pr} {a b : Str} : (a, some b) ∈ turnL prs ↔ (b, some a) ∈ prs := by
  unfold turnL
  rw [List.mem_filterMap]
  constructor
  · rintro ⟨⟨o, n⟩, h, e⟩
    unfold flipO at e
    cases n with
    | none => cases e
    | some n => cases e; exact h
  · intro h
    exact ⟨_, h, rfl⟩
theorem allS_none {prs : Pr} (nd : (keys prs).Nodup) : AllS prs ↔ turnE prs = none := by
  unfold turnE goneOf
  rw [Option.map_map, Option.map_eq_none_iff, List.find?_eq_none]
  constructor
  · intro h p hp
    have := h p ((byOlds_self nd).subset hp)
    cases e : p.2 with
    | none => exact absurd e this
    | some n => simp
  · intro h p hp e
    have := h p ((byOlds_self nd).symm.subset hp)
    rw [e] at this
    exact this rfl
theorem gone_srt {prs : Pr} (nd : (keys prs).Nodup) : goneOf prs = (srt ((prs.filter fun p => p.2.isNone).map (·.1)))[0]? := by
  have e : (prs.filter fun p => p.2.isNone).map (·.1) = (keys prs).filter fun o => ((lk prs o).getD none).isNone := by
    unfold keys
    rw [List.filter_map]
    congr 1
    refine List.filter_congr fun p hp => ?_
    have : lk prs p.1 = some p.2 := lk_of_mem nd hp
    show p.2.isNone = ((lk prs p.1).getD none).isNone
    rw [this]; rfl
  rw [e, srt_filter]
  unfold goneOf byOlds
  rw [find_filter, List.filter_map]
  have : ((fun p : Str × Option Str => p.2.isNone) ∘ fun o => (o, (lk prs o).getD none)) = fun o => ((lk prs o).getD none).isNone := rfl
  rw [this, List.getElem?_map, Option.map_map]
  show Option.map id _ = _
  rw [Option.map_id]; rfl
/-! ### joined -/
def joinE (a b : Pr) : Option Err := match (srt (keys b)).find? fun o => decide (o ∈ keys a) && decide (o ∉ news a) with
  | some o => some (2, .v (.str o))
  | none => match (srt (news b)).find? fun n => decide (n ∈ news a) && decide (n ∉ keys b) with
    | some n => some (3, .v (.str n))
    | none => none
def joinP (a b : Pr) : Pr := ((byOlds a).map fun p => (p.1, p.2.bind (toO b))) ++ (byOlds b).filter fun p => decide (p.1 ∉ news a)
theorem join_none {a b : Pr} (h : joinE a b = none) : (∀ o ∈ keys b, o ∈ keys a → o ∈ news a) ∧ ∀ n ∈ news b, n ∈ news a → n ∈ keys b := by
  unfold joinE at h
  cases h1 : (srt (keys b)).find? fun o => decide (o ∈ keys a) && decide (o ∉ news a) with
  | some o => rw [h1] at h; cases h
  | none =>
    rw [h1] at h
    dsimp only at h
    cases h2 : (srt (news b)).find? fun n => decide (n ∈ news a) && decide (n ∉ keys b) with
    | some n => rw [h2] at h; cases h
    | none =>
      rw [List.find?_eq_none] at h1 h2
      refine ⟨fun o ho hk => ?_, fun n hn hk => ?_⟩
      · have := h1 o (mem_srt.mpr ho); simpa [hk] using this
      · have := h2 n (mem_srt.mpr hn); simpa [hk] using this
theorem join_of {a b : Pr} (h1 : ∀ o ∈ keys b, o ∈ keys a → o ∈ news a) (h2 : ∀ n ∈ news b, n ∈ news a → n ∈ keys b) : joinE a b = none := by
  have e1 : ((srt (keys b)).find? fun o => decide (o ∈ keys a) && decide (o ∉ news a)) = none := by
    rw [List.find?_eq_none]; intro o ho; have := h1 o (mem_srt.mp ho); simpa using this
  have e2 : ((srt (news b)).find? fun n => decide (n ∈ news a) && decide (n ∉ keys b)) = none := by
    rw [List.find?_eq_none]; intro n hn; have := h2 n (mem_srt.mp hn); simpa using this
  unfold joinE
  rw [e1]; dsimp only; rw [e2]
theorem keys_joinP (a b : Pr) : keys (joinP a b) = keys (byOlds a) ++ (keys (byOlds b)).filter fun o => decide (o ∉ news a) := by
  unfold joinP keys
  rw [List.map_append, List.map_map, List.filter_map]
  rfl
theorem news_joinP (a b : Pr) : news (joinP a b) = (news (byOlds a)).filterMap (toO b) ++ news ((byOlds b).filter fun p => decide (p.1 ∉ news a)) := by
  unfold joinP news
  rw [List.filterMap_append, List.filterMap_map, List.filterMap_filterMap]
  congr 1
theorem fm_congr {α β : Type} {f g : α → Option β} : ∀ {l : List α}, (∀ x ∈ l, f x = g x) → l.filterMap f = l.filterMap g
  | [], _ => rfl
  | x :: l, h => by rw [List.filterMap_cons, List.filterMap_cons, h x (List.mem_cons_self ..), fm_congr fun y hy => h y (List.mem_cons_of_mem _ hy)]
theorem toO_by {prs : Pr} (nd : (keys prs).Nodup) : toO (byOlds prs) = toO prs := by
  funext n; unfold toO; rw [lk_perm (byOlds_self nd) nd]
theorem toO_key {prs : Pr} (nd : (keys prs).Nodup) {p : Str × Option Str} (h : p ∈ prs) : toO prs p.1 = p.2 := by
  unfold toO; rw [lk_of_mem nd (k := p.1) (v := p.2) h]; rfl
theorem toO_free {prs : Pr} {n : Str} (h : n ∉ keys prs) : toO prs n = some n := by unfold toO; rw [lk_none.mpr h]; rfl
theorem news_flt {b : Pr} (nd : (keys b).Nodup) (q : Str → Bool) : news (b.filter fun p => q p.1) = ((keys b).filter q).filterMap (toO b) := by
  unfold news keys
  rw [List.filter_map, List.filterMap_map]
  have : ∀ (l : Pr), (∀ p ∈ l, p ∈ b) → (l.filter fun p => q p.1).filterMap (·.2) = (l.filter (q ∘ fun x => x.1)).filterMap (toO b ∘ fun x => x.1) := by
    intro l hl
    refine fm_congr fun p hp => ?_
    exact (toO_key nd (hl p (List.mem_filter.mp hp).1)).symm
  exact this b fun _ h => h
theorem PlOk.join {a b : Pr} (ha : PlOk a) (hb : PlOk b) (h : joinE a b = none) (hl : a.length + b.length ≤ 40) : PlOk (joinP a b) := by
  have ⟨j1, j2⟩ := join_none h
  have pa := byOlds_self ha.ndo
  have pb := byOlds_self hb.ndo
  have ka : ∀ o, o ∈ NN.keys (byOlds a) ↔ o ∈ NN.keys a := fun o => (keys_perm pa).mem_iff
  have kb : ∀ o, o ∈ NN.keys (byOlds b) ↔ o ∈ NN.keys b := fun o => (keys_perm pb).mem_iff
  have na : ∀ o, o ∈ NN.news (byOlds a) ↔ o ∈ NN.news a := fun o => (news_perm pa).mem_iff
  -- what both together hold
  let nm := NN.news (byOlds a) ++ (NN.keys (byOlds b)).filter fun o => decide (o ∉ NN.news a)
  have hnm : nm.Nodup := List.nodup_append.mpr ⟨ha.by.ndn, hb.by.ndo.filter _, fun x hx y hy e => by
    subst e
    have := (List.mem_filter.mp hy).2
    simp at this
    exact this ((na x).mp hx)⟩
  have hfit : fitE b nm = none := by
    have e1 : lostOf b nm = none := by
      unfold lostOf
      rw [List.find?_eq_none]
      intro o ho
      have ho := mem_srt.mp ho
      simp only [decide_eq_true_eq, Decidable.not_not]
      by_cases hn : o ∈ NN.news a
      · exact List.mem_append_left _ ((na o).mpr hn)
      · exact List.mem_append_right _ (List.mem_filter.mpr ⟨(kb o).mpr ho, by simpa using hn⟩)
    have e2 : takenOf b nm = none := by
      unfold takenOf
      rw [List.find?_eq_none]
      intro n hn
      have hn := mem_srt.mp hn
      simp only [Bool.and_eq_true, decide_eq_true_eq, not_and, Decidable.not_not]
      intro hm
      rcases List.mem_append.mp hm with hm | hm
      · exact j2 n hn ((na n).mp hm)
      · exact (kb n).mp (List.mem_filter.mp hm).1
    unfold fitE; rw [e1]; dsimp only; rw [e2]
  have hto := to_nd hb hnm hfit
  refine ⟨?_, ?_, fun o ho => ?_, fun n hn => ?_, ?_⟩
  · rw [keys_joinP]
    refine List.nodup_append.mpr ⟨ha.by.ndo, hb.by.ndo.filter _, fun x hx y hy e => ?_⟩
    subst e
    have ⟨h1, h2⟩ := List.mem_filter.mp hy
    simp at h2
    exact h2 (j1 x ((kb x).mp h1) ((ka x).mp hx))
  · rw [news_joinP, news_flt hb.by.ndo (fun o => decide (o ∉ NN.news a)), toO_by hb.ndo]
    show _
    rw [← List.filterMap_append]
    exact hto
  · rw [keys_joinP] at ho
    rcases List.mem_append.mp ho with ho | ho
    · exact ha.olds o ((ka o).mp ho)
    · exact hb.olds o ((kb o).mp (List.mem_filter.mp ho).1)
  · rw [news_joinP, news_flt hb.by.ndo (fun o => decide (o ∉ NN.news a)), toO_by hb.ndo, ← List.filterMap_append] at hn
    obtain ⟨m, hm, e⟩ := List.mem_filterMap.mp hn
    have hmn : isName m = true := by
      rcases List.mem_append.mp hm with hm | hm
      · exact ha.news m ((na m).mp hm)
      · exact hb.olds m ((kb m).mp (List.mem_filter.mp hm).1)
    unfold toO at e
    cases hk : lk b m with
    | none => rw [hk] at e; cases e; exact hmn
    | some v =>
      rw [hk] at e
      have e : v = some n := e
      subst e
      exact hb.news n (List.mem_filterMap.mpr ⟨_, lk_mem hk, rfl⟩)
  · unfold joinP
    rw [List.length_append, List.length_map]
    have h1 := pa.length_eq
    have h2 := List.length_filter_le (fun p : Str × Option Str => decide (p.1 ∉ NN.news a)) (byOlds b)
    have h3 := pb.length_eq
    omega
theorem lk_append {α : Type} (x y : List (Str × α)) (k : Str) : lk (x ++ y) k = match lk x k with | some v => some v | none => lk y k := by
  induction x with
  | nil => rfl
  | cons p r ih =>
    rw [List.cons_append, lk_cons, lk_cons]
    by_cases e : p.1 = k
    · rw [if_pos e, if_pos e]
    · rw [if_neg e, if_neg e, ih]
theorem lk_map2 {α β : Type} (g : α → β) (x : List (Str × α)) (k : Str) : lk (x.map fun p => (p.1, g p.2)) k = (lk x k).map g := by
  induction x with
  | nil => rfl
  | cons p r ih =>
    rw [List.map_cons, lk_cons, lk_cons]
    by_cases e : p.1 = k
    · rw [if_pos e, if_pos e]; rfl
    · rw [if_neg e, if_neg e, ih]
theorem lk_flt {α : Type} (q : Str → Bool) (x : List (Str × α)) (k : Str) : lk (x.filter fun p => q p.1) k = if q k = true then lk x k else none := by
  induction x with
  | nil => cases q k <;> rfl
  | cons p r ih =>
    by_cases e : p.1 = k
    · subst e
      by_cases hq : q p.1 = true
      · rw [List.filter_cons_of_pos (p := fun p : Str × α => q p.1) hq, lk_cons, if_pos rfl, if_pos hq, lk_cons, if_pos rfl]
      · rw [List.filter_cons_of_neg (p := fun p : Str × α => q p.1) hq, ih, if_neg hq, if_neg hq]
    · by_cases hq : q p.1 = true
      · rw [List.filter_cons_of_pos (p := fun p : Str × α => q p.1) hq, lk_cons, if_neg e, ih, lk_cons, if_neg e]
      · rw [List.filter_cons_of_neg (p := fun p : Str × α => q p.1) hq, ih, lk_cons, if_neg e]
theorem lk_joinP {a b : Pr} (ha : (keys a).Nodup) (hb : (keys b).Nodup) (k : Str) : lk (joinP a b) k = match lk a k with | some v => some (v.bind (toO b)) | none => if k ∈ news a then none else lk b k := by
  unfold joinP
  rw [lk_append, show ∀ x : Pr, lk (x.map fun p => (p.1, p.2.bind (toO b))) k = (lk x k).map fun v => v.bind (toO b) from fun x => lk_map2 (fun v : Option Str => v.bind (toO b)) x k, lk_perm (byOlds_self ha) ha, lk_flt (fun o => decide (o ∉ news a)), lk_perm (byOlds_self hb) hb]
  cases lk a k with
  | some v => rfl
  | none =>
    dsimp only [Option.map]
    by_cases h : k ∈ news a <;> simp [h]
theorem byOlds_ext {a b : Pr} (ha : (keys a).Nodup) (hb : (keys b).Nodup) (h : ∀ k, lk a k = lk b k) : byOlds a = byOlds b := by
  have pk : (keys a).Perm (keys b) := by
    refine (List.perm_ext_iff_of_nodup ha hb).mpr fun k => ?_
    have h1 := lk_isSome a k
    have h2 := lk_isSome b k
    rw [h k] at h1
    have := h1.symm.trans h2
    exact decide_eq_decide.mp this
  unfold byOlds
  rw [show srt (keys a) = srt (keys b) from perm_sorted ((srt_perm _).trans (pk.trans (srt_perm _).symm)) (srt_pw _) (srt_pw _)]
  refine List.map_congr_left fun o _ => ?_
  rw [h o]
/-- one behind the other, by where a held name is led -/
theorem toO_join {a b : Pr} (ha : PlOk a) (hb : PlOk b) {nm : List Str} (hf : fitE a nm = none) {k : Str} (hk : k ∈ nm) : toO (joinP a b) k = (toO a k).bind (toO b) := by
  have ⟨f1, f2⟩ := fit_none hf
  unfold toO
  rw [lk_joinP ha.ndo hb.ndo]
  cases h : lk a k with
  | some v => rfl
  | none =>
    have hka : k ∉ keys a := lk_none.mp h
    have hn : k ∉ news a := fun hn => hka (f2 k hn hk)
    dsimp only
    rw [if_neg hn]
    rfl
theorem join_fit {a b : Pr} {nm : List Str} (ha : PlOk a) (hb : PlOk b) (hf : fitE a nm = none) (hg : fitE b (nm.filterMap (toO a)) = none) : joinE a b = none := by
  have ⟨f1, f2⟩ := fit_none hf
  have ⟨g1, g2⟩ := fit_none hg
  refine join_of (fun o ho hka => ?_) fun n hn hna => ?_
  · obtain ⟨m, hm, e⟩ := List.mem_filterMap.mp (g1 o ho)
    unfold toO at e
    cases h : lk a m with
    | none =>
      rw [h] at e
      cases e
      exact absurd hka (lk_none.mp h)
    | some v =>
      rw [h] at e
      have e : v = some o := e
      subst e
      exact List.mem_filterMap.mpr ⟨_, lk_mem h, rfl⟩
  · refine g2 n hn ?_
    obtain ⟨p, hp, e⟩ := List.mem_filterMap.mp hna
    refine List.mem_filterMap.mpr ⟨p.1, f1 _ (List.mem_map.mpr ⟨p, hp, rfl⟩), ?_⟩
    rw [toO_key ha.ndo hp, e]
/-- both together fit ahead of both -/
theorem join_fits {a b : Pr} {nm : List Str} (ha : PlOk a) (hb : PlOk b) (hf : fitE a nm = none) (hg : fitE b (nm.filterMap (toO a)) = none) : fitE (joinP a b) nm = none := by
  have ⟨f1, f2⟩ := fit_none hf
  have ⟨g1, g2⟩ := fit_none hg
  have ka : ∀ o, o ∈ keys (byOlds a) ↔ o ∈ keys a := fun o => (keys_perm (byOlds_self ha.ndo)).mem_iff
  have kb : ∀ o, o ∈ keys (byOlds b) ↔ o ∈ keys b := fun o => (keys_perm (byOlds_self hb.ndo)).mem_iff
  have inK : ∀ o, o ∈ keys (joinP a b) ↔ o ∈ keys a ∨ (o ∈ keys b ∧ o ∉ news a) := fun o => by
    rw [keys_joinP, List.mem_append, ka, List.mem_filter, kb]; simp
  have e1 : lostOf (joinP a b) nm = none := by
    unfold lostOf
    rw [List.find?_eq_none]
    intro o ho
    simp only [decide_eq_true_eq, Decidable.not_not]
    rcases (inK o).mp (mem_srt.mp ho) with h | ⟨h, hn⟩
    · exact f1 o h
    · obtain ⟨m, hm, e⟩ := List.mem_filterMap.mp (g1 o h)
      unfold toO at e
      cases hl : lk a m with
      | none => rw [hl] at e; cases e; exact hm
      | some v =>
        rw [hl] at e
        have e : v = some o := e
        subst e
        exact absurd (show o ∈ news a from List.mem_filterMap.mpr ⟨_, lk_mem hl, rfl⟩) hn
  have e2 : takenOf (joinP a b) nm = none := by
    unfold takenOf
    rw [List.find?_eq_none]
    intro n hn
    simp only [Bool.and_eq_true, decide_eq_true_eq, not_and, Decidable.not_not]
    intro hm
    rw [inK]
    by_cases hka : n ∈ keys a
    · exact .inl hka
    · have hna : n ∉ news a := fun h => hka (f2 n h hm)
      have hin : n ∈ nm.filterMap (toO a) := List.mem_filterMap.mpr ⟨n, hm, toO_free hka⟩
      refine .inr ⟨?_, hna⟩
      have hn := mem_srt.mp hn
      rw [news_joinP, news_flt hb.by.ndo (fun o => decide (o ∉ NN.news a)), toO_by hb.ndo, ← List.filterMap_append] at hn
      obtain ⟨m, hm2, e⟩ := List.mem_filterMap.mp hn
      unfold toO at e
      cases hl : lk b m with
      | some v =>
        rw [hl] at e
        have e : v = some n := e
        subst e
        exact g2 n (List.mem_filterMap.mpr ⟨_, lk_mem hl, rfl⟩) hin
      | none =>
        rw [hl] at e
        cases e
        rcases List.mem_append.mp hm2 with h | h
        · exact absurd ((news_perm (byOlds_self ha.ndo)).mem_iff.mp h) hna
        · exact (kb n).mp (List.mem_filter.mp h).1
  unfold fitE; rw [e1]; dsimp only; rw [e2]
theorem filterMap_join {a b : Pr} {nm : List Str} (ha : PlOk a) (hb : PlOk b) (hf : fitE a nm = none) : nm.filterMap (toO (joinP a b)) = (nm.filterMap (toO a)).filterMap (toO b) := by
  rw [List.filterMap_filterMap]
  exact fm_congr fun k hk => toO_join ha hb hf hk
/-- brackets -/
theorem join_assoc {a b c : Pr} {nm : List Str} (ha : PlOk a) (hb : PlOk b) (hc : PlOk c) (hf : fitE a nm = none) (hg : fitE b (nm.filterMap (toO a)) = none) (hh : fitE c ((nm.filterMap (toO a)).filterMap (toO b)) = none)
    (hab : (keys (joinP a b)).Nodup) (hbc : (keys (joinP b c)).Nodup) (k : Str) : lk (joinP (joinP a b) c) k = lk (joinP a (joinP b c)) k := by
  have ⟨f1, f2⟩ := fit_none hf
  have ⟨g1, g2⟩ := fit_none hg
  have ⟨h1, h2⟩ := fit_none hh
  have nab : ∀ n, n ∈ news (joinP a b) ↔ (∃ m, m ∈ news a ∧ toO b m = some n) ∨ ∃ m, m ∈ keys b ∧ m ∉ news a ∧ toO b m = some n := fun n => by
    rw [news_joinP, news_flt hb.by.ndo (fun o => decide (o ∉ NN.news a)), toO_by hb.ndo, List.mem_append, List.mem_filterMap, List.mem_filterMap]
    refine or_congr ⟨fun ⟨m, hm, e⟩ => ⟨m, (news_perm (byOlds_self ha.ndo)).mem_iff.mp hm, e⟩, fun ⟨m, hm, e⟩ => ⟨m, (news_perm (byOlds_self ha.ndo)).mem_iff.mpr hm, e⟩⟩ ⟨fun ⟨m, hm, e⟩ => ?_, fun ⟨m, hm, hn, e⟩ => ?_⟩
    · have ⟨q1, q2⟩ := List.mem_filter.mp hm
      exact ⟨m, (keys_perm (byOlds_self hb.ndo)).mem_iff.mp q1, by simpa using q2, e⟩
    · exact ⟨m, List.mem_filter.mpr ⟨(keys_perm (byOlds_self hb.ndo)).mem_iff.mpr hm, by simpa using hn⟩, e⟩
  rw [lk_joinP hab hc.ndo, lk_joinP ha.ndo hbc, lk_joinP ha.ndo hb.ndo]
  have key1 : ∀ {n : Str}, n ∈ nm.filterMap (toO a) → toO (joinP b c) n = (toO b n).bind (toO c) := fun h => toO_join hb hc hg h
  cases ea : lk a k with
  | some v =>
    dsimp only
    cases v with
    | none => rfl
    | some n =>
      have hk : k ∈ nm := f1 k (lk_some_key ea)
      have hn : n ∈ nm.filterMap (toO a) := List.mem_filterMap.mpr ⟨k, hk, by unfold toO; rw [ea]; rfl⟩
      show some ((toO b n).bind (toO c)) = some (toO (joinP b c) n)
      rw [key1 hn]
  | none =>
    dsimp only
    have hka : k ∉ keys a := lk_none.mp ea
    cases eb : lk b k with
    | some v =>
      have hkb := lk_some_key eb
      by_cases hn : k ∈ news a
      · rw [if_pos hn, if_pos hn]
        dsimp only
        by_cases hab2 : k ∈ news (joinP a b)
        · rw [if_pos hab2]
        · rw [if_neg hab2]
          refine lk_none.mpr fun hkc => ?_
          obtain ⟨m2, hm2, e2⟩ := List.mem_filterMap.mp (h1 k hkc)
          obtain ⟨m, hm, e1⟩ := List.mem_filterMap.mp hm2
          have hkn : k ∉ nm := fun h => hka (f2 k hn h)
          apply hab2
          rw [nab]
          by_cases hma : m2 ∈ news a
          · exact .inl ⟨m2, hma, e2⟩
          · by_cases hmb : m2 ∈ keys b
            · exact .inr ⟨m2, hmb, hma, e2⟩
            · rw [toO_free hmb] at e2
              cases e2
              exact absurd hn hma
      · rw [if_neg hn, if_neg hn]
        dsimp only
        rw [lk_joinP hb.ndo hc.ndo, eb]
    | none =>
      have hkb := lk_none.mp eb
      have e0 : (if k ∈ news a then (none : Option (Option Str)) else none) = none := by split <;> rfl
      rw [e0, lk_joinP hb.ndo hc.ndo, eb]
      dsimp only
      have hiff : k ∈ news (joinP a b) ↔ k ∈ news b ∨ k ∈ news a := by
        rw [nab]
        constructor
        · rintro (⟨m, hm, e⟩ | ⟨m, hm, hn, e⟩)
          · unfold toO at e
            cases hl : lk b m with
            | none => rw [hl] at e; cases e; exact .inr hm
            | some v =>
              rw [hl] at e
              have e : v = some k := e
              subst e
              exact .inl (List.mem_filterMap.mpr ⟨_, lk_mem hl, rfl⟩)
          · obtain ⟨v, hv⟩ := lk_of_key hm
            unfold toO at e
            rw [hv] at e
            have e : v = some k := e
            subst e
            exact .inl (List.mem_filterMap.mpr ⟨_, lk_mem hv, rfl⟩)
        · rintro (h | h)
          · obtain ⟨p, hp, e⟩ := List.mem_filterMap.mp h
            have ht : toO b p.1 = some k := by rw [toO_key hb.ndo hp, e]
            by_cases hm : p.1 ∈ news a
            · exact .inl ⟨_, hm, ht⟩
            · exact .inr ⟨_, List.mem_map.mpr ⟨p, hp, rfl⟩, hm, ht⟩
          · exact .inl ⟨k, h, toO_free hkb⟩
      by_cases hx : k ∈ news a
      · rw [if_pos hx, if_pos (hiff.mpr (.inr hx))]
      · rw [if_neg hx]
        by_cases hy : k ∈ news b
        · rw [if_pos hy, if_pos (hiff.mpr (.inl hy))]
        · rw [if_neg hy, if_neg (fun h => (hiff.mp h).elim hy hx)]
end NN
/-! what joined and turned do -/
namespace NN
open PySem L2
def spJoined (C : Addr) (L : List Addr) : Sp := fun vs H Q E => ∃ (p o : Addr) (a b : Pr), vs = [.ref p, .ref o] ∧ PlanAt [] C H p a ∧ PlanAt [] C H o b ∧ PlOk a ∧ PlOk b ∧ a.length + b.length ≤ 40 ∧
  (joinE a b = none → ∀ t H', H t = none → Kp [] H H' → (∀ S, Live S H → PlanAt S C H' t (joinP a b)) → Q (.ref t) H') ∧ ∀ e, joinE a b = some e → Leave L e [] E H
def spTurnedP (C : Addr) (L : List Addr) : Sp := fun vs H Q E => ∃ (p : Addr) (a : Pr), vs = [.ref p] ∧ PlanAt [] C H p a ∧ PlOk a ∧
  (turnE a = none → ∀ t H', H t = none → Kp [] H H' → (∀ S, Live S H → PlanAt S C H' t (turnL (byOlds a))) → Q (.ref t) H') ∧ ∀ e, turnE a = some e → Leave L e [] E H
theorem joinE_lost {a b : Pr} {i : Nat} {o : Str} (hj : ∀ j y, j < i → (srt (keys b))[j]? = some y → (decide (y ∈ keys a) && decide (y ∉ news a)) = false) (ho : (srt (keys b))[i]? = some o) (hp : (decide (o ∈ keys a) && decide (o ∉ news a)) = true) : joinE a b = some (2, .v (.str o)) := by
  unfold joinE; rw [find_at hj ho hp]
theorem joinE_held {a b : Pr} {i : Nat} {o : Str} (hl : ((srt (keys b)).find? fun o => decide (o ∈ keys a) && decide (o ∉ news a)) = none) (hj : ∀ j y, j < i → (srt (news b))[j]? = some y → (decide (y ∈ news a) && decide (y ∉ keys b)) = false) (ho : (srt (news b))[i]? = some o) (hp : (decide (o ∈ news a) && decide (o ∉ keys b)) = true) : joinE a b = some (3, .v (.str o)) := by
  unfold joinE; rw [hl]; dsimp only; rw [find_at hj ho hp]
theorem turnE_at {a : Pr} {i : Nat} {o : Str} (hj : ∀ j y, j < i → (byOlds a)[j]? = some y → y.2.isNone = false) (ho : (byOlds a)[i]? = some (o, none)) : turnE a = some (4, .v (.str o)) := by
  unfold turnE goneOf; rw [find_at hj ho rfl]; rfl
theorem op_neDA {X : Cx} (hu : X.A.units + 1 < cLine) : OpR X (compareOp .NotEq) rNeDA := op_ne_dictA (by omega)
theorem op_eqDA {X : Cx} (hu : X.A.units + 1 < cLine) : OpR X (compareOp .Eq) rEqDA := op_eq_dictA (by omega)
theorem thing_flat {v : V} (h : ThingV v) : flatB v = true := by
  rcases h with ⟨n, rfl⟩ | ⟨s, rfl, _⟩ <;> rfl
theorem g_neDA {H : Hp} {Q : VK} {a b : Addr} {th tl : List (Str × V)} (ha : H a = some (.dK (dS th))) (hb : H b = some (.dK (dS tl))) (hl : th.length = tl.length) (nd : (keys tl).Nodup) (hm : ∀ kv ∈ th, kv ∈ tl) (hv : ∀ kv ∈ th, flatB kv.2 = true) (q : Q (.bl false) H) : rNeDA (.ref a) (.ref b) H Q :=
  ⟨a, b, dS th, dS tl, rfl, rfl, ha, hb, by rw [dS_len, dS_len]; exact hl, fun p hp => by
    obtain ⟨kv, hkv, rfl⟩ := List.mem_map.mp hp
    exact ⟨(valV_dS tl kv.1).trans (lk_of_mem nd (hm kv hkv)), hv kv hkv⟩, q⟩
theorem PlOk.flt {prs : Pr} (h : PlOk prs) (q : Str × Option Str → Bool) : PlOk (prs.filter q) := by
  have sub : (prs.filter q).Sublist prs := List.filter_sublist
  have s1 : (keys (prs.filter q)).Sublist (keys prs) := sub.map _
  have s2 : (NN.news (prs.filter q)).Sublist (NN.news prs) := sub.filterMap _
  exact ⟨h.ndo.sublist s1, h.ndn.sublist s2, fun o ho => h.olds o (s1.subset ho), fun n hn => h.news n (s2.subset hn), Nat.le_trans sub.length_le h.len⟩
def staysL (prs : Pr) : Pr := prs.filter fun p => p.2.isSome
def gonesL (prs : Pr) : List Str := (prs.filter fun p => p.2.isNone).map (·.1)
theorem stays_all (prs : Pr) : AllS (staysL prs) := fun p hp e => by
  have := (List.mem_filter.mp hp).2
  rw [e] at this; cases this
theorem stays_news (prs : Pr) : news (staysL prs) = news prs := by
  unfold staysL
  induction prs with
  | nil => rfl
  | cons p r ih =>
    obtain ⟨o, n⟩ := p
    cases n with
    | none => exact ih
    | some n => exact congrArg (n :: ·) ih
theorem stays_or {prs : Pr} (nd : (keys prs).Nodup) {o : Str} (h : o ∈ keys prs) : (o ∈ keys (staysL prs) ∧ o ∉ gonesL prs) ∨ (o ∉ keys (staysL prs) ∧ o ∈ gonesL prs) := by
  obtain ⟨v, hv⟩ := lk_of_key h
  have u : ∀ p ∈ prs, p.1 = o → p.2 = v := fun p hp e => by
    have h1 := lk_of_mem nd (k := p.1) (v := p.2) hp
    rw [e, hv] at h1
    exact (Option.some.inj h1).symm
  cases v with
  | some n =>
    refine .inl ⟨List.mem_map.mpr ⟨_, List.mem_filter.mpr ⟨lk_mem hv, rfl⟩, rfl⟩, fun hg => ?_⟩
    obtain ⟨p, hp, e⟩ := List.mem_map.mp hg
    have ⟨h1, h2⟩ := List.mem_filter.mp hp
    rw [u p h1 e] at h2; cases h2
  | none =>
    refine .inr ⟨fun hg => ?_, List.mem_map.mpr ⟨_, List.mem_filter.mpr ⟨lk_mem hv, rfl⟩, rfl⟩⟩
    obtain ⟨p, hp, e⟩ := List.mem_map.mp hg
    have ⟨h1, h2⟩ := List.mem_filter.mp hp
    rw [u p h1 e] at h2; cases h2
def leftT (th : List (Str × V)) (prs : Pr) : List (Str × V) := th.filter fun kv => decide (kv.1 ∉ gonesL prs)
theorem fit_mk {prs : Pr} {nm : List Str} (h1 : ∀ o ∈ keys prs, o ∈ nm) (h2 : ∀ n ∈ news prs, n ∈ nm → n ∈ keys prs) : fitE prs nm = none := by
  have e1 : lostOf prs nm = none := by
    unfold lostOf; rw [List.find?_eq_none]; intro o ho; have := h1 o (mem_srt.mp ho); simpa using this
  have e2 : takenOf prs nm = none := by
    unfold takenOf; rw [List.find?_eq_none]; intro n hn; have := h2 n (mem_srt.mp hn); simpa using this
  unfold fitE; rw [e1]; dsimp only; rw [e2]
theorem left_keys (th : List (Str × V)) (prs : Pr) : keys (leftT th prs) = (keys th).filter fun n => decide (n ∉ gonesL prs) := by
  unfold leftT keys; rw [List.filter_map]; rfl
theorem stays_fit {prs : Pr} {th : List (Str × V)} (nd : (keys prs).Nodup) (h : fitE prs (keys th) = none) : fitE (staysL prs) (keys (leftT th prs)) = none := by
  have ⟨f1, f2⟩ := fit_none h
  have sub : ∀ o ∈ keys (staysL prs), o ∈ keys prs := fun o ho => by
    obtain ⟨p, hp, e⟩ := List.mem_map.mp ho
    exact List.mem_map.mpr ⟨p, (List.mem_filter.mp hp).1, e⟩
  refine fit_mk (fun o ho => ?_) fun n hn hk => ?_
  · rw [left_keys, List.mem_filter]
    have h1 := sub o ho
    refine ⟨f1 o h1, ?_⟩
    rcases stays_or nd h1 with h | h
    · simpa using h.2
    · exact absurd ho h.1
  · rw [stays_news] at hn
    rw [left_keys, List.mem_filter] at hk
    have h1 := f2 n hn hk.1
    rcases stays_or nd h1 with h | h
    · exact h.1
    · have := hk.2; simp at this; exact absurd h.2 this
theorem turn_toO {prs : Pr} {nm : List Str} (pl : PlOk prs) (al : AllS prs) (h : fitE prs nm = none) {k : Str} (hk : k ∈ nm) : ∃ m, toO prs k = some m ∧ toO (turnL (byOlds prs)) m = some k := by
  have ⟨f1, f2⟩ := fit_none h
  have ndt : (keys (turnL (byOlds prs))).Nodup := pl.by.turn.ndo
  cases e : lk prs k with
  | some v =>
    have hm := lk_mem e
    cases v with
    | none => exact absurd rfl (al _ hm)
    | some m =>
      refine ⟨m, by unfold toO; rw [e]; rfl, ?_⟩
      exact toO_key ndt (p := (m, some k)) (mem_turn.mpr ((byOlds_self pl.ndo).mem_iff.mpr hm))
  | none =>
    refine ⟨k, by unfold toO; rw [e]; rfl, toO_free ?_⟩
    rw [turn_keys]
    intro hn
    have := f2 k ((news_perm (byOlds_self pl.ndo)).mem_iff.mp hn) hk
    exact lk_none.mp e this
theorem turn_fit {prs : Pr} {nm : List Str} (pl : PlOk prs) (al : AllS prs) (h : fitE prs nm = none) : fitE (turnL (byOlds prs)) (nm.filterMap (toO prs)) = none := by
  have ⟨f1, f2⟩ := fit_none h
  have pb := byOlds_self pl.ndo
  refine fit_mk (fun n hn => ?_) fun o ho hm => ?_
  · rw [turn_keys] at hn
    obtain ⟨p, hp, e⟩ := List.mem_filterMap.mp ((news_perm pb).mem_iff.mp hn)
    exact List.mem_filterMap.mpr ⟨p.1, f1 _ (List.mem_map.mpr ⟨p, hp, rfl⟩), by rw [toO_key pl.ndo hp, e]⟩
  · rw [turn_news (al.perm pb)] at ho
    have ho := (keys_perm pb).mem_iff.mp ho
    rw [turn_keys]
    obtain ⟨m, hm2, e⟩ := List.mem_filterMap.mp hm
    cases hl : lk prs m with
    | some v =>
      unfold toO at e
      rw [hl] at e
      have e : v = some o := e
      subst e
      exact (news_perm pb).mem_iff.mpr (List.mem_filterMap.mpr ⟨_, lk_mem hl, rfl⟩)
    | none =>
      unfold toO at e
      rw [hl] at e
      cases e
      exact absurd ho (lk_none.mp hl)
theorem fm_some {α : Type} {f : α → Option α} : ∀ {l : List α}, (∀ x ∈ l, f x = some x) → l.filterMap f = l
  | [], _ => rfl
  | x :: l, h => by rw [List.filterMap_cons, h x (List.mem_cons_self ..), fm_some fun y hy => h y (List.mem_cons_of_mem _ hy)]
theorem behD_back {prs : Pr} {th : List (Str × V)} (pl : PlOk prs) (al : AllS prs) (nd : (keys th).Nodup) (h : fitE prs (keys th) = none) : behD (behD th prs) (turnL (byOlds prs)) = th ∧ (keys (behD th prs)).filterMap (toO (turnL (byOlds prs))) = keys th := by
  have n1 := to_nd pl nd h
  have hk : ∀ k ∈ keys th, (toO prs k).bind (toO (turnL (byOlds prs))) = some k := fun k hk => by
    obtain ⟨m, e1, e2⟩ := turn_toO pl al h hk
    rw [e1]; exact e2
  have e2 : (keys (behD th prs)).filterMap (toO (turnL (byOlds prs))) = keys th := by
    rw [keys_behD n1, List.filterMap_filterMap]
    exact fm_some hk
  refine ⟨?_, e2⟩
  rw [behD_eq (by rw [e2]; exact nd), behD_eq n1, List.filterMap_filterMap]
  refine fm_some fun kv hkv => ?_
  obtain ⟨m, e1, e2⟩ := turn_toO pl al h (List.mem_map.mpr ⟨kv, hkv, rfl⟩)
  rw [e1]
  show Option.map (fun n => (n, kv.2)) (toO (turnL (byOlds prs)) m) = some kv
  rw [e2]; rfl
theorem join_back {prs : Pr} (pl : PlOk prs) (al : AllS prs) : joinE prs (turnL (byOlds prs)) = none ∧ byOlds (joinP prs (turnL (byOlds prs))) = (srt (keys prs)).map fun o => (o, some o) := by
  have pb := byOlds_self pl.ndo
  have hk : ∀ n, n ∈ keys (turnL (byOlds prs)) ↔ n ∈ news prs := fun n => by rw [turn_keys]; exact (news_perm pb).mem_iff
  have hj : joinE prs (turnL (byOlds prs)) = none := join_of (fun o ho _ => (hk o).mp ho) fun n _ hn => (hk n).mpr hn
  refine ⟨hj, ?_⟩
  have nd2 : ∀ l : List Str, keys (l.map fun o => (o, some o)) = l := fun l => by unfold keys; rw [List.map_map]; exact List.map_id _
  have ndk := (srt_perm (keys prs)).nodup_iff.mpr pl.ndo
  have e1 : joinP prs (turnL (byOlds prs)) = (byOlds prs).map fun p => (p.1, some p.1) := by
    unfold joinP
    have : (byOlds (turnL (byOlds prs))).filter (fun p => decide (p.1 ∉ news prs)) = [] := by
      rw [List.filter_eq_nil_iff]
      intro p hp
      have := (hk p.1).mp (byOlds_key hp)
      simpa using this
    rw [this, List.append_nil]
    refine List.map_congr_left fun p hp => ?_
    have hm : p ∈ prs := pb.mem_iff.mp hp
    obtain ⟨o, v⟩ := p
    cases v with
    | none => exact absurd rfl (al _ hm)
    | some n =>
      have := toO_key pl.by.turn.ndo (p := (n, some o)) (mem_turn.mpr hp)
      show (o, toO (turnL (byOlds prs)) n) = (o, some o)
      rw [show toO (turnL (byOlds prs)) n = some o from this]
  have e2 : (byOlds prs).map (fun p => (p.1, some p.1)) = (srt (keys prs)).map fun o => (o, some o) := by
    unfold byOlds; rw [List.map_map]; rfl
  rw [e1, e2]
  unfold byOlds
  rw [nd2, show srt (srt (keys prs)) = srt (keys prs) from perm_sorted (srt_perm _) (srt_pw _) (srt_pw _)]
  refine List.map_congr_left fun o ho => ?_
  rw [lk_of_mem (v := some o) (by rw [nd2]; exact ndk) (List.mem_map.mpr ⟨o, ho, rfl⟩)]; rfl
theorem turn_by {prs : Pr} (pl : PlOk prs) : byOlds (turnL (byOlds prs)) = byOlds (turnL prs) := byOlds_perm (turn_perm (byOlds_self pl.ndo)) pl.turn.ndo
theorem turn_twice {prs : Pr} (pl : PlOk prs) (al : AllS prs) : byOlds (turnL (byOlds (turnL (byOlds prs)))) = byOlds prs := by
  rw [turn_by pl]
  have h1 : (turnL (byOlds (turnL prs))).Perm prs := by
    have := turn_perm (byOlds_self pl.turn.ndo)
    rwa [turn_turn al] at this
  exact byOlds_perm h1 pl.ndo
def toldT (a : Pr) : D := match turnE a with
  | none => .t [.v (.str "good"), encPs (byOlds (turnL (byOlds a)))]
  | some e => .t [.v (.str (wrdOf e.1)), e.2]
def spToldT (C : Addr) : Sp := fun vs H Q _ => ∃ (p : Addr) (a : Pr), vs = [.ref p] ∧ PlanAt [] C H p a ∧ PlOk a ∧
  ∀ r H', H r = none → Kp [] H H' → (∀ S, Live S H → At S H' (.ref r) (toldT a)) → Q (.ref r) H'
theorem told_allS {a : Pr} (nd : (keys a).Nodup) (al : AllS a) : toldT a = .t [.v (.str "good"), encPs (byOlds (turnL (byOlds a)))] := by
  unfold toldT; rw [(allS_none nd).mp al]
theorem told_gone {a : Pr} (nd : (keys a).Nodup) {o : Str} (h : (srt (gonesL a))[0]? = some o) : toldT a = .t [.v (.str "letgo"), .v (.str o)] := by
  have : turnE a = some (4, .v (.str o)) := by unfold turnE; rw [gone_srt nd]; show Option.map _ (srt (gonesL a))[0]? = _; rw [h]; rfl
  unfold toldT; rw [this]
  show D.t [.v (.str (wrdOf 4)), _] = _
  rw [show wrdOf 4 = "letgo" by decide +kernel]
end NN
/-! d.get(None, x) -/
namespace NN
open PySem PySem.Spec PyProof.Rows L2
theorem d_get2N {X : Cx} {pins : List (Addr × Obj)} {σ : L2.St} {H : Hp} {s : Shared} {a : Addr} {kvs : List (Key × V)} {d : V} {r : Value} {A : Around} {E Q : Value → Shared → Prop} (I : L2.Inv X pins σ H s) (e : Rd H a (.dK kvs)) (rd : RelV d r)
    (h : ∀ (w' : Value) (s' : Shared), L2.Inv X pins σ H s' → RelV d w' → Q w' s') : wpAny (model X.prog X.w) A (call (.builtin "dict.get") [.ref a, .none, r]) Q E s := by
  obtain ⟨_, hd, vs, rel, dd⟩ := dk_rd I.hok e
  obtain ⟨f, hm, hf⟩ := none_map dd
  exact call_meetsIn F.slot_dict_get (Heap.DictOf.typeIs dd) F.entry_dict_get (F.args_dict_get_3 (Value.ref a) .none r)
    (meets_dict_get_default (noneKind X.prog X.w) a (k := none) rfl hd r) ⟨f, hm, by rw [hf]; exact h r _ (I.tok _) rd⟩
def tDGet2N (td ty tx : TE) : TE := fun σ H Q => td σ H fun x H1 => ∃ a, x = V.ref a ∧ IsD H1 a ∧ ty σ H1 fun y H2 => tx σ H2 fun z H3 => (∃ o, DGet H3 a y o ∧ Q (o.getD z) H3) ∨ (y = .non ∧ (∃ kvs, Rd H3 a (.dK kvs)) ∧ Q z H3)
theorem pe_dget2N {X : Cx} {o e f : Expr} {apos cpos : Pos} {td ty tx : TE} (hu : X.A.units + 1 < cLine) (ho : PE X o td) (he : PE X e ty) (hf : PE X f tx) (m : M2 X o "get" apos e f cpos) :
    PE X ((o.Attribute "get" apos).Call [e, f] [] cpos) (tDGet2N td ty tx) := by
  refine ⟨fun pins s σ H Q I h => ?_⟩
  refine wpAny_Call_method m.base m.few m.line F.plainAttrs_dict F.slot_dict_get F.type_dict_get (thn (ho.run pins s σ H _ I h) fun u s1 x => ?_)
  obtain ⟨x, H1, I1, rx, a, ex, d, q1⟩ := x
  subst ex
  obtain rfl : u = Value.ref a := rx
  obtain ⟨t1, t2, _⟩ := isD_at I1 d
  refine ⟨t1, t2, ?_⟩
  rw [m.trees]
  refine Calls.callWith_builtin rfl (Calls.evalArgs_plain (Calls.spliced_cons (thn (he.run pins s1 σ H1 _ I1 q1) fun iv s2 x => ?_)))
  obtain ⟨y, H2, I2, ry, q2⟩ := x
  refine Calls.spliced_cons (thn (hf.run pins s2 σ H2 _ I2 q2) fun fv s3 x => ?_)
  obtain ⟨z, H3, I3, rz, q3⟩ := x
  refine Calls.spliced_nil ?_
  rcases q3 with ⟨ov, g, q3⟩ | ⟨rfl, ⟨kvs, g⟩, q3⟩
  · exact d_get2 hu I3 g ry rz fun w' s4 I4 rw' => ⟨_, H3, I4, rw', q3⟩
  · obtain rfl : iv = Value.none := ry
    exact d_get2N I3 g rz fun w' s4 I4 rw' => ⟨z, H3, I4, rw', q3⟩
theorem e_get2N {σ : L2.St} {H : Hp} {Q : VK} {td ty tx : TE} : tDGet2N td ty tx σ H Q = td σ H fun x H1 => ∃ a, x = V.ref a ∧ IsD H1 a ∧ ty σ H1 fun y H2 => tx σ H2 fun z H3 => (∃ o, DGet H3 a y o ∧ Q (o.getD z) H3) ∨ (y = .non ∧ (∃ kvs, Rd H3 a (.dK kvs)) ∧ Q z H3) := rfl
theorem g_get2N {σ : L2.St} {H : Hp} {Q : VK} {td ty tx : TE} (q : td σ H fun x H1 => ∃ a, x = V.ref a ∧ IsD H1 a ∧ ty σ H1 fun y H2 => tx σ H2 fun z H3 => (∃ o, DGet H3 a y o ∧ Q (o.getD z) H3) ∨ (y = .non ∧ (∃ kvs, Rd H3 a (.dK kvs)) ∧ Q z H3)) : tDGet2N td ty tx σ H Q := q
end NN
namespace NN
open PySem L2
def dueJ (a b : Pr) : D := match joinE a b with
  | none => .t [.v (.str "good"), encPs (byOlds (joinP a b))]
  | some e => .t [.v (.str (wrdOf e.1)), e.2]
def spDueJ : Sp := fun vs H Q _ => ∃ (ax bx : Addr) (a b : Pr), vs = [.ref ax, .ref bx] ∧ At [] H (.ref ax) (encPs a) ∧ At [] H (.ref bx) (encPs b) ∧ PlOk a ∧ PlOk b ∧ a.length + b.length ≤ 40 ∧
  ∀ r H', H r = none → Kp [] H H' → (∀ S, Live S H → At S H' (.ref r) (dueJ a b)) → Q (.ref r) H'
def spToldJ (C : Addr) : Sp := fun vs H Q _ => ∃ (p o : Addr) (a b : Pr), vs = [.ref p, .ref o] ∧ PlanAt [] C H p a ∧ PlanAt [] C H o b ∧ PlOk a ∧ PlOk b ∧ a.length + b.length ≤ 40 ∧
  ∀ r H', H r = none → Kp [] H H' → (∀ S, Live S H → At S H' (.ref r) (dueJ a b)) → Q (.ref r) H'
def joinL (a b : Pr) : Pr := (a.map fun p => (p.1, p.2.bind (toO b))) ++ b.filter fun p => decide (p.1 ∉ news a)
theorem joinL_perm {a b : Pr} (ha : (keys a).Nodup) (hb : (keys b).Nodup) : (joinL a b).Perm (joinP a b) :=
  (((byOlds_self ha).symm).map _).append (((byOlds_self hb).symm).filter _)
theorem joinL_by {a b : Pr} (ha : PlOk a) (hb : PlOk b) (h : joinE a b = none) (hl : a.length + b.length ≤ 40) : byOlds (joinL a b) = byOlds (joinP a b) := byOlds_perm (joinL_perm ha.ndo hb.ndo) (ha.join hb h hl).ndo
theorem joinL_ok {a b : Pr} (ha : PlOk a) (hb : PlOk b) (h : joinE a b = none) (hl : a.length + b.length ≤ 40) : PlOk (joinL a b) := (ha.join hb h hl).perm (joinL_perm ha.ndo hb.ndo)
theorem lost_join (a b : Pr) : ((srt (keys b)).find? fun o => decide (o ∈ keys a) && decide (o ∉ news a)) = (srt ((keys b).filter fun o => decide (o ∈ keys a) && decide (o ∉ news a)))[0]? := by
  rw [find_filter, srt_filter]
theorem held_join (a b : Pr) : ((srt (news b)).find? fun n => decide (n ∈ news a) && decide (n ∉ keys b)) = (srt ((news b).filter fun n => decide (n ∈ news a) && decide (n ∉ keys b)))[0]? := by
  rw [find_filter, srt_filter]
theorem joinE_fine {a b : Pr} {e : Err} (hb : PlOk b) (h : joinE a b = some e) (n : Nat) : FineN n e.2 := by
  unfold joinE at h
  cases h1 : (srt (keys b)).find? fun o => decide (o ∈ keys a) && decide (o ∉ news a) with
  | some o =>
    rw [h1] at h; cases h
    exact .str (name_fine (hb.olds o (mem_srt.mp (List.mem_of_find?_eq_some h1))))
  | none =>
    rw [h1] at h
    dsimp only at h
    cases h2 : (srt (news b)).find? fun n => decide (n ∈ news a) && decide (n ∉ keys b) with
    | some o => rw [h2] at h; cases h; exact .str (name_fine (hb.news o (mem_srt.mp (List.mem_of_find?_eq_some h2))))
    | none => rw [h2] at h; cases h
theorem dueJ_fine {a b : Pr} (ha : PlOk a) (hb : PlOk b) (hl : a.length + b.length ≤ 40) : fineD (dueJ a b) := by
  unfold dueJ
  cases h : joinE a b with
  | none =>
    refine FineN.fine (n := 3) (FineN.t (n := 2) fun d hd => ?_) (by decide)
    rcases List.mem_cons.mp hd with rfl | hd
    · exact .str (show PyData.strOk "good" = true by decide +kernel)
    · rw [List.mem_singleton.mp hd]; exact fine_Ps (ha.join hb h hl).by.sh
  | some e =>
    refine FineN.fine (n := 2) (FineN.t (n := 1) fun d hd => ?_) (by decide)
    rcases List.mem_cons.mp hd with rfl | hd
    · exact .str (wrd_fine _)
    · rw [List.mem_singleton.mp hd]; exact joinE_fine hb h 1
theorem behD_by (th : List (Str × V)) {p : Pr} (nd : (keys p).Nodup) : behD th (byOlds p) = behD th p := by unfold behD; rw [toO_by nd]
theorem beh_join {th : List (Str × V)} {a b : Pr} (ha : PlOk a) (hb : PlOk b) (nd : (keys th).Nodup) (hf : fitE a (keys th) = none) (hg : fitE b ((keys th).filterMap (toO a)) = none) : behD th (joinP a b) = behD (behD th a) b ∧ (keys th).filterMap (toO (joinP a b)) = keys (behD (behD th a) b) := by
  have n1 := to_nd ha nd hf
  have n2 := to_nd hb n1 hg
  have k1 := keys_behD n1
  have e := filterMap_join ha hb hf
  have n3 : ((keys th).filterMap (toO (joinP a b))).Nodup := by rw [e]; exact n2
  have n2' : ((keys (behD th a)).filterMap (toO b)).Nodup := by rw [k1]; exact n2
  refine ⟨?_, ?_⟩
  · rw [behD_eq n3, behD_eq n2', behD_eq n1, List.filterMap_filterMap]
    refine fm_congr fun kv hkv => ?_
    have h := toO_join ha hb hf (List.mem_map.mpr ⟨kv, hkv, rfl⟩)
    rw [h]
    cases toO a kv.1 <;> rfl
  · rw [e, keys_behD n2', k1]
theorem beh_val {th : List (Str × V)} {a : Pr} (n1 : ((keys th).filterMap (toO a)).Nodup) (h : ∀ kv ∈ th, ThingV kv.2) : ∀ kv ∈ behD th a, ThingV kv.2 := fun kv hkv => by
  rw [behD_eq n1] at hkv
  obtain ⟨q, hq, e⟩ := List.mem_filterMap.mp hkv
  obtain ⟨n, _, rfl⟩ := Option.map_eq_some_iff.mp e
  exact h q hq
theorem toO_name {a : Pr} (ha : PlOk a) {k n : Str} (hk : isName k = true) (e : toO a k = some n) : isName n = true := by
  unfold toO at e
  cases hl : lk a k with
  | none => rw [hl] at e; cases e; exact hk
  | some v =>
    rw [hl] at e
    have e : v = some n := e
    subst e
    exact ha.news n (List.mem_filterMap.mpr ⟨_, lk_mem hl, rfl⟩)
theorem beh_thG {th : List (Str × V)} {a : Pr} (ha : PlOk a) (ht : ThG th) (hf : fitE a (keys th) = none) : ThG (behD th a) := by
  have n1 := to_nd ha ht.nd hf
  refine ⟨by rw [keys_behD n1]; exact n1, fun k hk => ?_, Nat.le_trans (behD_len th a) ht.len⟩
  rw [keys_behD n1] at hk
  obtain ⟨m, hm, e⟩ := List.mem_filterMap.mp hk
  exact toO_name ha (ht.names m hm) e
theorem g_par {i j : Nat} {ta : TA} {D : Ends} {σ : L2.St} {H : Hp} (q : ta σ H fun vs H1 => ∃ v w, vs = [v, w] ∧ D.nx ((σ.set i (some v)).set j (some w)) H1) : tPar i j ta D σ H := q
end NN
/-! deeds that are played -/
namespace NN
open PySem L2
abbrev Mp := Str → Option V
def upf (m : Mp) (k : Str) (v : Option V) : Mp := fun x => if x = k then v else m x
def stepM (m : Mp) (d : Dd) : Option Mp := match m d.1 with
  | none => none
  | some v => match d.2 with
    | none => some (upf m d.1 none)
    | some n => if (m n).isSome = true then none else some (upf (upf m d.1 none) n (some v))
def playM (m : Mp) : List Dd → Option Mp
  | [] => some m
  | d :: r => (stepM m d).bind fun m' => playM m' r
theorem playM_append (m : Mp) : ∀ (a b : List Dd), playM m (a ++ b) = (playM m a).bind fun m' => playM m' b
  | [], b => rfl
  | d :: r, b => by
    show (stepM m d).bind (fun m' => playM m' (r ++ b)) = ((stepM m d).bind fun m' => playM m' r).bind _
    cases stepM m d with
    | none => rfl
    | some m' => exact playM_append m' r b
theorem step_drop1 {m : Mp} {o : Str} {v : V} (h : m o = some v) : stepM m (o, none) = some (upf m o none) := by unfold stepM; rw [h]
theorem step_move1 {m : Mp} {o n : Str} {v : V} (h : m o = some v) (hn : m n = none) : stepM m (o, some n) = some (upf (upf m o none) n (some v)) := by
  unfold stepM; rw [h]; show (if (m n).isSome = true then none else _) = _; rw [hn]; rfl
/-- where the things of X have gone, and nothing else has changed -/
def Gst (prs : Pr) (m0 : Mp) (X : List Str) : Mp := fun k => match src prs k with
  | some o => if o ∈ X then m0 o else if k ∈ X then none else m0 k
  | none => if k ∈ X then none else m0 k
theorem Gst_congr {prs : Pr} {m0 : Mp} {X Y : List Str} (h : ∀ x, x ∈ X ↔ x ∈ Y) : Gst prs m0 X = Gst prs m0 Y := by
  funext k; unfold Gst; simp only [h]
theorem Gst_nil (prs : Pr) (m0 : Mp) : Gst prs m0 [] = m0 := by
  funext k; unfold Gst; cases src prs k <;> simp
structure Wld (prs : Pr) (m0 : Mp) : Prop where
  pl : PlOk prs
  hold : ∀ o ∈ keys prs, ∃ v, m0 o = some v
  free : ∀ n ∈ news prs, n ∉ keys prs → m0 n = none
structure Clo (prs : Pr) (X : List Str) : Prop where
  key : ∀ o ∈ X, o ∈ keys prs
  nxt : ∀ o ∈ X, ∀ k, nx prs o = some k → k ∈ keys prs → k ∈ X
theorem src_nx {prs : Pr} (pl : PlOk prs) {n o : Str} : src prs n = some o ↔ nx prs o = some n := ⟨fun h => nx_of_mem pl.ndo (src_mem h), fun h => src_some pl.ndn (nx_mem h)⟩
theorem Clo.hold {prs : Pr} {m0 : Mp} {X : List Str} (c : Clo prs X) (w : Wld prs m0) {o : Str} (ho : o ∈ keys prs) (hX : o ∉ X) : ∃ v, m0 o = some v ∧ Gst prs m0 X o = some v := by
  obtain ⟨v, hv⟩ := w.hold o ho
  refine ⟨v, hv, ?_⟩
  unfold Gst
  cases h : src prs o with
  | none => dsimp only; rw [if_neg hX, hv]
  | some o' =>
    have : o' ∉ X := fun hx => hX (c.nxt o' hx o ((src_nx w.pl).mp h) ho)
    dsimp only; rw [if_neg this, if_neg hX, hv]
theorem step_drop {prs : Pr} {m0 : Mp} {X : List Str} (w : Wld prs m0) (c : Clo prs X) {o : Str} (ho : o ∈ keys prs) (hn : nx prs o = none) (hX : o ∉ X) : stepM (Gst prs m0 X) (o, none) = some (Gst prs m0 (o :: X)) ∧ Clo prs (o :: X) := by
  obtain ⟨v, _, hv⟩ := c.hold w ho hX
  refine ⟨?_, ⟨fun x hx => ?_, fun x hx k hk hkk => ?_⟩⟩
  · rw [step_drop1 hv]
    congr 1
    funext x
    unfold upf
    by_cases e : x = o
    · subst e
      rw [if_pos rfl]
      unfold Gst
      cases h : src prs x with
      | none => simp
      | some o' =>
        have h' := (src_nx w.pl).mp h
        have n1 : o' ∉ X := fun hx => hX (c.nxt o' hx x h' ho)
        have n2 : o' ≠ x := fun e => by rw [e, hn] at h'; cases h'
        simp [n1, n2]
    · rw [if_neg e]
      unfold Gst
      cases h : src prs x with
      | none => simp [e]
      | some o' =>
        have n2 : o' ≠ o := fun e2 => by have h' := (src_nx w.pl).mp h; rw [e2, hn] at h'; cases h'
        simp [n2, e]
  · rcases List.mem_cons.mp hx with rfl | hx
    · exact ho
    · exact c.key x hx
  · rcases List.mem_cons.mp hx with rfl | hx
    · rw [hn] at hk; cases hk
    · exact List.mem_cons_of_mem _ (c.nxt x hx k hk hkk)
theorem step_move {prs : Pr} {m0 : Mp} {X : List Str} (w : Wld prs m0) (c : Clo prs X) {o n : Str} (hs : src prs n = some o) (hX : o ∉ X) (hne : o ≠ n) (hn : n ∉ keys prs ∨ n ∈ X) : stepM (Gst prs m0 X) (o, some n) = some (Gst prs m0 (o :: X)) ∧ Clo prs (o :: X) := by
  have hnx := (src_nx w.pl).mp hs
  have ho : o ∈ keys prs := nx_key hnx
  obtain ⟨v, hv0, hv⟩ := c.hold w ho hX
  have hG : Gst prs m0 X n = none := by
    unfold Gst; rw [hs]; dsimp only; rw [if_neg hX]
    by_cases h : n ∈ X
    · rw [if_pos h]
    · rw [if_neg h]; exact w.free n (nx_new hnx) (hn.resolve_right h)
  refine ⟨?_, ⟨fun x hx => ?_, fun x hx k hk hkk => ?_⟩⟩
  · rw [step_move1 hv hG]
    congr 1
    funext x
    unfold upf
    by_cases e1 : x = n
    · subst e1
      rw [if_pos rfl]
      unfold Gst; rw [hs]; simp [hv0]
    · rw [if_neg e1]
      by_cases e : x = o
      · subst e
        rw [if_pos rfl]
        unfold Gst
        cases h : src prs x with
        | none => simp
        | some o' =>
          have h' := (src_nx w.pl).mp h
          have n1 : o' ∉ X := fun hx => hX (c.nxt o' hx x h' ho)
          have n2 : o' ≠ x := fun e2 => by rw [e2, hnx] at h'; exact e1 (Option.some.inj h').symm
          simp [n1, n2]
      · rw [if_neg e]
        unfold Gst
        cases h : src prs x with
        | none => simp [e]
        | some o' =>
          have n2 : o' ≠ o := fun e2 => by have h' := (src_nx w.pl).mp h; rw [e2, hnx] at h'; exact e1 (Option.some.inj h').symm
          simp [n2, e]
  · rcases List.mem_cons.mp hx with rfl | hx
    · exact ho
    · exact c.key x hx
  · rcases List.mem_cons.mp hx with rfl | hx
    · rw [hnx] at hk
      cases hk
      exact List.mem_cons_of_mem _ (hn.resolve_left fun h => h hkk)
    · exact List.mem_cons_of_mem _ (c.nxt x hx k hk hkk)
/-- what has been played -/
structure Plyd (prs : Pr) (m0 : Mp) (X : List Str) (ds : List Dd) (add : Str → Prop) (sps : Nat) (Y : List Str) : Prop where
  play : playM (Gst prs m0 X) ds = some (Gst prs m0 Y)
  clo : Clo prs Y
  nd : Y.Nodup
  len : Y.length + sps = X.length + ds.length
  mem : ∀ x, x ∈ Y ↔ x ∈ X ∨ add x
theorem Plyd.nil {prs : Pr} {m0 : Mp} {X : List Str} {add : Str → Prop} (c : Clo prs X) (nd : X.Nodup) (h : ∀ x, ¬ add x) : Plyd prs m0 X [] add 0 X := ⟨rfl, c, nd, rfl, fun x => ⟨.inl, fun z => z.resolve_right (h x)⟩⟩
theorem Plyd.append {prs : Pr} {m0 : Mp} {X Y Z : List Str} {a b : List Dd} {p q r : Str → Prop} {s t : Nat} (h1 : Plyd prs m0 X a p s Y) (h2 : Plyd prs m0 Y b q t Z) (e : ∀ x, r x ↔ p x ∨ q x) : Plyd prs m0 X (a ++ b) r (s + t) Z :=
  ⟨by rw [playM_append, h1.play]; exact h2.play, h2.clo, h2.nd, by rw [List.length_append]; have := h1.len; have := h2.len; omega, fun x => by rw [h2.mem, h1.mem, e, or_assoc]⟩
theorem drops_play {prs : Pr} {m0 : Mp} (w : Wld prs m0) : ∀ {os : List Str} {X : List Str}, Clo prs X → X.Nodup → os.Nodup → (∀ o ∈ os, o ∈ keys prs ∧ nx prs o = none ∧ o ∉ X) → ∃ Y, Plyd prs m0 X (os.map fun o => (o, none)) (· ∈ os) 0 Y
  | [], X, c, nd, _, _ => ⟨X, .nil c nd (by simp)⟩
  | o :: os, X, c, nd, no, h => by
    have ⟨n1, n2⟩ := List.nodup_cons.mp no
    have ⟨h1, h2, h3⟩ := h o (List.mem_cons_self ..)
    have ⟨s1, s2⟩ := step_drop w c h1 h2 h3
    obtain ⟨Y, hY⟩ := drops_play w (os := os) (X := o :: X) s2 (List.nodup_cons.mpr ⟨h3, nd⟩) n2 fun q hq => ⟨(h q (List.mem_cons_of_mem _ hq)).1, (h q (List.mem_cons_of_mem _ hq)).2.1, fun hx => by
      rcases List.mem_cons.mp hx with e | hx
      · exact n1 (e ▸ hq)
      · exact (h q (List.mem_cons_of_mem _ hq)).2.2 hx⟩
    refine ⟨Y, ?_, hY.clo, hY.nd, ?_, fun x => ?_⟩
    · show (stepM (Gst prs m0 X) (o, none)).bind _ = _
      rw [s1]; exact hY.play
    · have := hY.len; simp only [List.map_cons, List.length_cons] at this ⊢; omega
    · rw [hY.mem]; simp only [List.mem_cons]
      constructor
      · rintro ((h | h) | h)
        · exact .inr (.inl h)
        · exact .inl h
        · exact .inr (.inr h)
      · rintro (h | h | h)
        · exact .inl (.inr h)
        · exact .inl (.inl h)
        · exact .inr h
/-- the names that lead to one, nearest first -/
def backL (prs : Pr) (f : Nat) (n : Str) : List Str := (chainL prs f n).map (·.1)
theorem back_none {prs : Pr} {n : Str} (h : src prs n = none) (f : Nat) : backL prs f n = [] := by unfold backL; rw [chain_none h]; rfl
theorem back_some {prs : Pr} {n o : Str} (h : src prs n = some o) (f : Nat) : backL prs (f + 1) n = o :: backL prs f o := by unfold backL; rw [chain_some h]; rfl
theorem back_zero (prs : Pr) (n : Str) : backL prs 0 n = [] := rfl
theorem back_back {prs : Pr} (pl : PlOk prs) : ∀ (f : Nat) (h : Str) (B : List Str), Back prs (h :: B) → Back prs ((backL prs f h).reverse ++ h :: B)
  | 0, h, B, b => by rw [back_zero]; exact b
  | f + 1, h, B, b => by
    cases e : src prs h with
    | none => rw [back_none e]; exact b
    | some o =>
      rw [back_some e]
      have := back_back pl f o (h :: B) (b.cons ((src_nx pl).mp e))
      rwa [List.reverse_cons, List.append_assoc]
theorem back_nd {prs : Pr} (pl : PlOk prs) {n : Str} (hn : nx prs n = none) (f : Nat) : (n :: backL prs f n).Nodup := by
  have := (back_back pl f n [] (Back.one hn)).nd
  have h2 : ((backL prs f n).reverse ++ [n]).Perm (n :: backL prs f n) := (List.perm_append_comm).trans ((List.reverse_perm _).cons n)
  exact h2.nodup_iff.mp this
theorem back_nx {prs : Pr} (pl : PlOk prs) : ∀ (f : Nat) (n o : Str), o ∈ backL prs f n → ∃ k, nx prs o = some k
  | 0, n, o, h => nomatch h
  | f + 1, n, o, h => by
    cases e : src prs n with
    | none => rw [back_none e] at h; cases h
    | some p =>
      rw [back_some e] at h
      rcases List.mem_cons.mp h with rfl | h
      · exact ⟨n, (src_nx pl).mp e⟩
      · exact back_nx pl f p o h
/-- leads to, over some steps -/
inductive Lead (prs : Pr) : Str → Str → Prop
  | refl (n : Str) : Lead prs n n
  | step {o k n : Str} : nx prs o = some k → Lead prs k n → Lead prs o n
theorem Lead.uniq {prs : Pr} {o n n' : Str} (h : Lead prs o n) (hn : nx prs n = none) : Lead prs o n' → nx prs n' = none → n = n' := by
  induction h with
  | refl n =>
    intro h' hn'
    cases h' with
    | refl => rfl
    | step e _ => rw [hn] at e; cases e
  | step e l ih =>
    intro h' hn'
    cases h' with
    | refl => rw [hn'] at e; cases e
    | step e' l' => rw [e] at e'; cases e'; exact ih hn l' hn'
theorem Lead.noid {prs : Pr} {o n : Str} (h : Lead prs o n) (hn : nx prs n = none) : nx prs o ≠ some o := by
  induction h with
  | refl n => rw [hn]; simp
  | step e l ih => intro e2; rw [e] at e2; cases e2; exact ih hn e
theorem Lead.trans {prs : Pr} {a b c : Str} (h : Lead prs a b) (h' : Lead prs b c) : Lead prs a c := by
  induction h with
  | refl => exact h'
  | step e _ ih => exact .step e (ih h')
theorem back_lead {prs : Pr} (pl : PlOk prs) : ∀ (f : Nat) (n o : Str), o ∈ backL prs f n → Lead prs o n
  | 0, n, o, h => nomatch h
  | f + 1, n, o, h => by
    cases e : src prs n with
    | none => rw [back_none e] at h; cases h
    | some p =>
      have h1 : Lead prs p n := .step ((src_nx pl).mp e) (.refl n)
      rw [back_some e] at h
      rcases List.mem_cons.mp h with rfl | h
      · exact h1
      · exact (back_lead pl f p o h).trans h1
theorem chain_play {prs : Pr} {m0 : Mp} (w : Wld prs m0) : ∀ (f : Nat) (n : Str) (X : List Str), Clo prs X → X.Nodup → (n ∉ keys prs ∨ n ∈ X) → (n :: backL prs f n).Nodup → (∀ o ∈ backL prs f n, o ∉ X) → ∃ Y, Plyd prs m0 X (chainL prs f n) (· ∈ backL prs f n) 0 Y
  | 0, n, X, c, nd, _, _, _ => ⟨X, .nil c nd (by intro x hx; cases hx)⟩
  | f + 1, n, X, c, nd, hn, nb, dj => by
    cases e : src prs n with
    | none => rw [chain_none e, back_none e]; exact ⟨X, .nil c nd (by simp)⟩
    | some o =>
      rw [back_some e] at nb dj
      rw [chain_some e, back_some e]
      have ⟨nb1, nb2⟩ := List.nodup_cons.mp nb
      have ho := dj o (List.mem_cons_self ..)
      have hne : o ≠ n := fun h => nb1 (h ▸ List.mem_cons_self ..)
      have ⟨s1, s2⟩ := step_move w c e ho hne hn
      obtain ⟨Y, hY⟩ := chain_play w f o (o :: X) s2 (List.nodup_cons.mpr ⟨ho, nd⟩) (.inr (List.mem_cons_self ..)) nb2 fun q hq hx => by
        rcases List.mem_cons.mp hx with e | hx
        · exact (List.nodup_cons.mp nb2).1 (e ▸ hq)
        · exact dj q (List.mem_cons_of_mem _ hq) hx
      refine ⟨Y, ?_, hY.clo, hY.nd, ?_, fun x => ?_⟩
      · show (stepM (Gst prs m0 X) (o, some n)).bind _ = _
        rw [s1]; exact hY.play
      · have := hY.len; simp only [List.length_cons] at this ⊢; omega
      · rw [hY.mem]; simp only [List.mem_cons]
        constructor
        · rintro ((h | h) | h)
          · exact .inr (.inl h)
          · exact .inl h
          · exact .inr (.inr h)
        · rintro (h | h | h)
          · exact .inl (.inr h)
          · exact .inl (.inl h)
          · exact .inr h
theorem chains_play {prs : Pr} {m0 : Mp} (w : Wld prs m0) (f : Nat) : ∀ {ns : List Str} {X : List Str}, Clo prs X → X.Nodup → ns.Nodup → (∀ n ∈ ns, nx prs n = none ∧ (n ∉ keys prs ∨ n ∈ X) ∧ ∀ o ∈ backL prs f n, o ∉ X) → ∃ Y, Plyd prs m0 X (ns.flatMap (chainL prs f)) (fun x => ∃ n ∈ ns, x ∈ backL prs f n) 0 Y
  | [], X, c, nd, _, _ => ⟨X, .nil c nd (by simp)⟩
  | n :: ns, X, c, nd, no, h => by
    have ⟨n1, n2⟩ := List.nodup_cons.mp no
    have ⟨h1, h2, h3⟩ := h n (List.mem_cons_self ..)
    obtain ⟨Y, hY⟩ := chain_play w f n X c nd h2 (back_nd w.pl h1 f) h3
    obtain ⟨Z, hZ⟩ := chains_play w f (ns := ns) (X := Y) hY.clo hY.nd n2 fun q hq => ⟨(h q (List.mem_cons_of_mem _ hq)).1, (h q (List.mem_cons_of_mem _ hq)).2.1.imp id fun hx => (hY.mem q).mpr (.inl hx), fun o ho hx => by
      rcases (hY.mem o).mp hx with hx | hx
      · exact (h q (List.mem_cons_of_mem _ hq)).2.2 o ho hx
      · have e := (back_lead w.pl f n o hx).uniq h1 (back_lead w.pl f q o ho) (h q (List.mem_cons_of_mem _ hq)).1
        exact n1 (e ▸ hq)⟩
    refine ⟨Z, ?_⟩
    rw [List.flatMap_cons]
    exact hY.append hZ fun x => by
      constructor
      · rintro ⟨q, hq, hx⟩
        rcases List.mem_cons.mp hq with rfl | hq
        · exact .inl hx
        · exact .inr ⟨q, hq, hx⟩
      · rintro (hx | ⟨q, hq, hx⟩)
        · exact ⟨n, List.mem_cons_self .., hx⟩
        · exact ⟨q, List.mem_cons_of_mem _ hq, hx⟩
/-! ### rings -/
def shiftD : Str → List Str → List Dd
  | _, [] => []
  | a, b :: t => (b, some a) :: shiftD b t
def shiftM (m : Mp) : Str → List Str → Mp
  | _, [] => m
  | a, b :: t => shiftM (upf (upf m b none) a (m b)) b t
theorem shift_play : ∀ (l : List Str) (a : Str) (m : Mp), (a :: l).Nodup → m a = none → (∀ x ∈ l, ∃ v, m x = some v) → playM m (shiftD a l) = some (shiftM m a l)
  | [], _, _, _, _, _ => rfl
  | b :: t, a, m, nd, ha, h => by
    have ⟨n1, n2⟩ := List.nodup_cons.mp nd
    have ⟨n3, n4⟩ := List.nodup_cons.mp n2
    have hab : a ≠ b := fun e => n1 (e ▸ List.mem_cons_self ..)
    obtain ⟨v, hv⟩ := h b (List.mem_cons_self ..)
    show (stepM m (b, some a)).bind _ = _
    rw [step_move1 hv ha]
    show playM (upf (upf m b none) a (some v)) (shiftD b t) = some (shiftM (upf (upf m b none) a (m b)) b t)
    rw [hv]
    refine shift_play t b _ n2 ?_ fun x hx => ?_
    · unfold upf; rw [if_neg hab.symm, if_pos rfl]
    · have x1 : x ≠ a := fun e => n1 (e ▸ List.mem_cons_of_mem _ hx)
      have x2 : x ≠ b := fun e => n3 (e ▸ hx)
      unfold upf; rw [if_neg x1, if_neg x2]
      exact h x (List.mem_cons_of_mem _ hx)
theorem shift_off : ∀ (l : List Str) (a : Str) (m : Mp) (x : Str), x ∉ a :: l → shiftM m a l x = m x
  | [], _, _, _, _ => rfl
  | b :: t, a, m, x, h => by
    have x1 : x ≠ a := fun e => h (e ▸ List.mem_cons_self ..)
    have x2 : x ∉ b :: t := fun e => h (List.mem_cons_of_mem _ e)
    have x3 : x ≠ b := fun e => x2 (e ▸ List.mem_cons_self ..)
    show shiftM (upf (upf m b none) a (m b)) b t x = m x
    rw [shift_off t b _ x x2]
    unfold upf; rw [if_neg x1, if_neg x3]
theorem shift_at : ∀ (l : List Str) (a : Str) (m : Mp) (i : Nat) (y z : Str), (a :: l).Nodup → (a :: l)[i]? = some y → (a :: l)[i + 1]? = some z → shiftM m a l y = m z
  | [], _, _, i, y, z, _, _, hz => by simp at hz
  | b :: t, a, m, i, y, z, nd, hy, hz => by
    have ⟨n1, n2⟩ := List.nodup_cons.mp nd
    have ⟨n3, n4⟩ := List.nodup_cons.mp n2
    have hab : a ≠ b := fun e => n1 (e ▸ List.mem_cons_self ..)
    show shiftM (upf (upf m b none) a (m b)) b t y = m z
    cases i with
    | zero =>
      cases hy
      have hz : b = z := by simpa using hz
      subst hz
      rw [shift_off t b _ a n1]
      unfold upf; rw [if_pos rfl]
    | succ i =>
      rw [shift_at t b _ i y z n2 (by simpa using hy) (by simpa using hz)]
      have hzt : z ∈ t := by
        have : (b :: t)[i + 1]? = some z := by simpa using hz
        exact List.mem_of_getElem? (by simpa using this)
      have z1 : z ≠ a := fun e => n1 (e ▸ List.mem_cons_of_mem _ hzt)
      have z2 : z ≠ b := fun e => n3 (e ▸ hzt)
      unfold upf; rw [if_neg z1, if_neg z2]
theorem shift_last : ∀ (l : List Str) (a : Str) (m : Mp) (z : Str), (a :: l).Nodup → m a = none → (a :: l)[l.length]? = some z → shiftM m a l z = none
  | [], a, m, z, _, ha, hz => by cases hz; exact ha
  | b :: t, a, m, z, nd, ha, hz => by
    have ⟨n1, n2⟩ := List.nodup_cons.mp nd
    have hab : a ≠ b := fun e => n1 (e ▸ List.mem_cons_self ..)
    show shiftM (upf (upf m b none) a (m b)) b t z = none
    refine shift_last t b _ z n2 ?_ (by simpa using hz)
    unfold upf; rw [if_neg hab.symm, if_pos rfl]
theorem shiftD_map : ∀ (l : List Str) (a : Str), shiftD a l = (List.range l.length).map fun k => ((a :: l).getD (k + 1) "", some ((a :: l).getD k ""))
  | [], _ => rfl
  | b :: t, a => by
    show (b, some a) :: shiftD b t = _
    rw [shiftD_map t b, List.length_cons, List.range_succ_eq_map, List.map_cons, List.map_map]
    rfl
theorem rev_getD (r : List Str) (k : Nat) (h : k < r.length) : r.reverse.getD k "" = r.getD (r.length - 1 - k) "" := by
  rw [List.getD_eq_getElem?_getD, List.getD_eq_getElem?_getD, List.getElem?_reverse h]
theorem ringD_shift {r : List Str} {s : Str} (hl : 2 ≤ r.length) : ringD1 r s = shiftD s r.reverse ++ [(s, some (r.getD 0 ""))] := by
  rw [shiftD_map]
  unfold ringD1
  congr 1
  rw [List.length_reverse]
  obtain ⟨L, hL⟩ : ∃ L, r.length = L + 1 := ⟨r.length - 1, by omega⟩
  rw [show r.length - 1 = L by omega, show List.range r.length = List.range (L + 1) by rw [hL], List.range_succ_eq_map, List.map_cons, List.map_map, List.singleton_append]
  congr 1
  · show _ = (r.reverse.getD 0 "", some s)
    rw [rev_getD r 0 (by omega)]
    simp [show r.length - 1 - 0 = L by omega]
  · refine List.map_congr_left fun k hk => ?_
    have hk := List.mem_range.mp hk
    show _ = (r.reverse.getD (k + 1) "", some (r.reverse.getD k ""))
    rw [rev_getD r (k + 1) (by omega), rev_getD r k (by omega), show r.length - 2 - k = r.length - 1 - (k + 1) by omega, show L - k = r.length - 1 - k by omega]
theorem Cyc.fw {prs : Pr} {n : Str} {r : List Str} (h : Cyc prs n r) {x y : Str} (hx : x ∈ r) (e : nx prs x = some y) : y ∈ r := by
  obtain ⟨i, hi⟩ := List.mem_iff_getElem?.mp hx
  have hil := (List.getElem?_eq_some_iff.mp hi).1
  by_cases hl : i + 1 < r.length
  · have hj := List.getElem?_eq_getElem hl
    have := h.way.st i x _ hi hj
    rw [e] at this
    cases this
    exact List.getElem_mem hl
  · obtain ⟨z, hz, ez⟩ := h.up
    have : i = r.length - 1 := by omega
    rw [this, hz] at hi
    cases hi
    rw [e] at ez
    cases ez
    exact List.mem_of_getElem? h.hd
theorem ring_play {prs : Pr} {m0 : Mp} (w : Wld prs m0) {n s : Str} {r X : List Str} (c : Cyc prs n r) (hl : 2 ≤ r.length) (cX : Clo prs X) (ndX : X.Nodup) (dj : ∀ x ∈ r, x ∉ X) (hs : m0 s = none) (hsn : s ∉ news prs) : ∃ Y, Plyd prs m0 X (ringD1 r s) (· ∈ r) 1 Y := by
  have hk := c.keys
  have hsk : s ∉ keys prs := fun h => by obtain ⟨v, e⟩ := w.hold s h; rw [hs] at e; cases e
  have hsr : s ∉ r := fun h => hsk (hk s h)
  have hsX : s ∉ X := fun h => hsk (cX.key s h)
  have hsrc : src prs s = none := by
    cases e : src prs s with
    | none => rfl
    | some o => exact absurd (nx_new ((src_nx w.pl).mp e)) hsn
  have hGs : ∀ Y : List Str, s ∉ Y → Gst prs m0 Y s = none := fun Y hY => by unfold Gst; rw [hsrc]; dsimp only; rw [if_neg hY, hs]
  have hG : ∀ x ∈ r, ∃ v, m0 x = some v ∧ Gst prs m0 X x = some v := fun x hx => cX.hold w (hk x hx) (dj x hx)
  have ndl : (s :: r.reverse).Nodup := List.nodup_cons.mpr ⟨by simpa using hsr, (List.reverse_perm r).nodup_iff.mpr c.way.nd⟩
  have h1 := shift_play r.reverse s (Gst prs m0 X) ndl (hGs X hsX) fun x hx => let ⟨v, _, e⟩ := hG x (by simpa using hx); ⟨v, e⟩
  obtain ⟨z, hz, ez⟩ := c.up
  have rev : ∀ k, k < r.length → r.reverse[k]? = r[r.length - 1 - k]? := fun k h => List.getElem?_reverse h
  have h0 : r.getD 0 "" = n := by rw [List.getD_eq_getElem?_getD, c.hd]; rfl
  have hms : shiftM (Gst prs m0 X) s r.reverse s = Gst prs m0 X z := shift_at r.reverse s _ 0 s z ndl rfl (by
    show r.reverse[0]? = some z
    rw [rev 0 (by omega)]; simpa using hz)
  have hmn : shiftM (Gst prs m0 X) s r.reverse n = none := shift_last r.reverse s _ n ndl (hGs X hsX) (by
    rw [List.length_reverse, show r.length = (r.length - 1) + 1 by omega, List.getElem?_cons_succ, rev _ (by omega), show r.length - 1 - (r.length - 1) = 0 by omega]; exact c.hd)
  obtain ⟨v, hv0, hv⟩ := hG z (List.mem_of_getElem? hz)
  have cY : Clo prs (r ++ X) := ⟨fun x hx => (List.mem_append.mp hx).elim (hk x) (cX.key x), fun x hx k ek hkk => by
    rcases List.mem_append.mp hx with hx | hx
    · exact List.mem_append_left _ (c.fw hx ek)
    · exact List.mem_append_right _ (cX.nxt x hx k ek hkk)⟩
  refine ⟨r ++ X, ?_, cY, List.nodup_append.mpr ⟨c.way.nd, ndX, fun a ha b hb e => dj a ha (e ▸ hb)⟩, ?_, fun x => by rw [List.mem_append]; exact or_comm⟩
  · rw [ringD_shift hl, playM_append, h1, h0]
    show (stepM (shiftM (Gst prs m0 X) s r.reverse) (s, some n)).bind (fun m' => playM m' []) = _
    rw [step_move1 (hms.trans hv) hmn]
    show some (upf (upf (shiftM (Gst prs m0 X) s r.reverse) s none) n (some v)) = _
    congr 1
    funext x
    unfold upf
    by_cases e1 : x = n
    · subst e1
      rw [if_pos rfl]
      unfold Gst
      rw [(src_nx w.pl).mpr ez]
      dsimp only
      rw [if_pos (List.mem_append_left _ (List.mem_of_getElem? hz)), hv0]
    · rw [if_neg e1]
      by_cases e2 : x = s
      · subst e2
        rw [if_pos rfl, hGs _ (by simp [hsr, hsX])]
      · rw [if_neg e2]
        by_cases hx : x ∈ r
        · obtain ⟨i, hi⟩ := List.mem_iff_getElem?.mp hx
          have hil := (List.getElem?_eq_some_iff.mp hi).1
          obtain ⟨j, rfl⟩ : ∃ j, i = j + 1 := by
            cases i with
            | zero => rw [c.hd] at hi; cases hi; exact absurd rfl e1
            | succ j => exact ⟨j, rfl⟩
          obtain ⟨p, hp⟩ : ∃ p, r[j]? = some p := ⟨r[j]'(by omega), List.getElem?_eq_getElem _⟩
          have hnp := c.way.st j p x hp hi
          have hpr := List.mem_of_getElem? hp
          rw [shift_at r.reverse s _ (r.length - 1 - j) x p ndl (by
              rw [show r.length - 1 - j = (r.length - 1 - (j + 1)) + 1 by omega, List.getElem?_cons_succ, rev _ (by omega), show r.length - 1 - (r.length - 1 - (j + 1)) = j + 1 by omega]; exact hi) (by
              rw [List.getElem?_cons_succ, rev _ (by omega), show r.length - 1 - (r.length - 1 - j) = j by omega]; exact hp)]
          obtain ⟨u, hu0, hu⟩ := hG p hpr
          rw [hu]
          unfold Gst
          rw [(src_nx w.pl).mpr hnp]
          dsimp only
          rw [if_pos (List.mem_append_left _ hpr), hu0]
        · rw [shift_off r.reverse s _ x (by simp [e2, hx])]
          unfold Gst
          cases h : src prs x with
          | none => simp [hx]
          | some o =>
            have ho : o ∉ r := fun ho => hx (c.fw ho ((src_nx w.pl).mp h))
            simp [hx, ho]
  · rw [ring_dlen, List.length_append]; omega
theorem rings_play {prs : Pr} {m0 : Mp} (w : Wld prs m0) {s : Str} (hs : m0 s = none) (hsn : s ∉ news prs) : ∀ {rs : List (List Str)} {X : List Str}, Clo prs X → X.Nodup → (∀ r ∈ rs, 2 ≤ r.length ∧ (∃ n, Cyc prs n r) ∧ ∀ x ∈ r, x ∉ X) → rs.Pairwise (fun a b => ∀ x ∈ a, x ∉ b) → ∃ Y, Plyd prs m0 X (rs.flatMap fun r => ringD1 r s) (fun x => ∃ r ∈ rs, x ∈ r) rs.length Y
  | [], X, c, nd, _, _ => ⟨X, .nil c nd (by simp)⟩
  | r :: rs, X, c, nd, h, pw => by
    have ⟨p1, p2⟩ := List.pairwise_cons.mp pw
    have ⟨h1, ⟨n, h2⟩, h3⟩ := h r (List.mem_cons_self ..)
    obtain ⟨Y, hY⟩ := ring_play w h2 h1 c nd h3 hs hsn
    obtain ⟨Z, hZ⟩ := rings_play w hs hsn (rs := rs) (X := Y) hY.clo hY.nd (fun q hq => ⟨(h q (List.mem_cons_of_mem _ hq)).1, (h q (List.mem_cons_of_mem _ hq)).2.1, fun x hx hy => by
      rcases (hY.mem x).mp hy with hy | hy
      · exact (h q (List.mem_cons_of_mem _ hq)).2.2 x hx hy
      · exact p1 q hq x hy hx⟩) p2
    refine ⟨Z, ?_⟩
    rw [List.flatMap_cons, List.length_cons, Nat.add_comm]
    exact hY.append hZ fun x => by
      constructor
      · rintro ⟨q, hq, hx⟩
        rcases List.mem_cons.mp hq with rfl | hq
        · exact .inl hx
        · exact .inr ⟨q, hq, hx⟩
      · rintro (hx | ⟨q, hq, hx⟩)
        · exact ⟨r, List.mem_cons_self .., hx⟩
        · exact ⟨q, List.mem_cons_of_mem _ hq, hx⟩
end NN
/-! all deeds of a plan, played -/
namespace NN
open PySem L2
theorem way_grow {prs : Pr} (pl : PlOk prs) {o : Str} : ∀ (fuel : Nat) (r : List Str), Way prs r → r[0]? = some o → 43 ≤ r.length + fuel → ∃ r' z, Way prs r' ∧ r'[0]? = some o ∧ r'[r'.length - 1]? = some z ∧ (nx prs z = none ∨ nx prs z = some o)
  | 0, r, w, h0, hf => by
    have h1 := w.len
    have h : (news prs).length ≤ prs.length := List.length_filterMap_le ..
    have := pl.len; omega
  | fuel + 1, r, w, h0, hf => by
    have hp : 0 < r.length := (List.getElem?_eq_some_iff.mp h0).1
    have hz : r[r.length - 1]? = some r[r.length - 1] := List.getElem?_eq_getElem (by omega)
    generalize r[r.length - 1] = z at hz
    cases e : nx prs z with
    | none => exact ⟨r, z, w, h0, hz, .inl e⟩
    | some y =>
      by_cases hy : y ∈ r
      · obtain ⟨j, hj⟩ := List.mem_iff_getElem?.mp hy
        cases j with
        | zero => rw [h0] at hj; cases hj; exact ⟨r, z, w, h0, hz, .inr e⟩
        | succ j =>
          exfalso
          have hjl := (List.getElem?_eq_some_iff.mp hj).1
          have hc : r[j]? = some r[j] := List.getElem?_eq_getElem (by omega)
          have h2 := w.st j _ y hc hj
          have h3 := nx_inj pl.ndn h2 e
          have := nd_ix w.nd (i := j) (j := r.length - 1) (x := z) (by rw [hc, h3]) hz
          omega
      · exact way_grow pl fuel (r ++ [y]) (w.snoc hz e hy) (by rw [List.getElem?_append_left hp]; exact h0) (by simp; omega)
theorem way_back {prs : Pr} (pl : PlOk prs) {r : List Str} (w : Way prs r) : ∀ (d f j : Nat) (a b : Str), 1 ≤ d → d ≤ f → r[j]? = some a → r[j + d]? = some b → a ∈ backL prs f b
  | 0, _, _, _, _, h, _, _, _ => by omega
  | d + 1, 0, _, _, _, _, h, _, _ => by omega
  | d + 1, f + 1, j, a, b, _, hf, ha, hb => by
    have hbl := (List.getElem?_eq_some_iff.mp hb).1
    obtain ⟨c, hc⟩ : ∃ c, r[j + d]? = some c := ⟨_, List.getElem?_eq_getElem (by omega)⟩
    have e := w.st (j + d) c b hc (by rw [show j + d + 1 = j + (d + 1) by omega]; exact hb)
    rw [back_some ((src_nx pl).mpr e)]
    by_cases hd : d = 0
    · subst hd
      rw [Nat.add_zero] at hc
      rw [ha] at hc
      cases hc
      exact List.mem_cons_self ..
    · exact List.mem_cons_of_mem _ (way_back pl w d f j a _ (by omega) (by omega) ha hc)
theorem ring_of {prs : Pr} (pl : PlOk prs) {o : Str} {r : List Str} (c : Cyc prs o r) (hl : 2 ≤ r.length) : ∃ q ∈ rings prs, o ∈ q := by
  obtain ⟨x, xs, e⟩ : ∃ x xs, r = x :: xs := by
    cases r with
    | nil => simp at hl
    | cons x xs => exact ⟨x, xs, rfl⟩
  obtain ⟨M, hM, hmin⟩ : ∃ M, M ∈ x :: xs ∧ ∀ y ∈ x :: xs, ¬ sl y M := ⟨_, (minOf_is x xs).1, (minOf_is x xs).2⟩
  rw [← e] at hM hmin
  have hk := c.keys
  obtain ⟨r', z, w', h0, hz, hcase⟩ := way_grow pl 43 [M] (Way.one prs M) rfl (by simp)
  have sub : ∀ (i : Nat) (y : Str), r'[i]? = some y → y ∈ r := by
    intro i
    induction i with
    | zero => intro y hy; rw [h0] at hy; cases hy; exact hM
    | succ i ih =>
      intro y hy
      have hyl := (List.getElem?_eq_some_iff.mp hy).1
      have hc : r'[i]? = some r'[i] := List.getElem?_eq_getElem (by omega)
      exact c.fw (ih _ hc) (w'.st i _ y hc hy)
  have hzr := sub _ z hz
  have up : nx prs z = some M := by
    rcases hcase with h | h
    · exfalso
      obtain ⟨i, hi⟩ := List.mem_iff_getElem?.mp hzr
      have hil := (List.getElem?_eq_some_iff.mp hi).1
      by_cases hl2 : i + 1 < r.length
      · have := c.way.st i z _ hi (List.getElem?_eq_getElem hl2)
        rw [h] at this; cases this
      · obtain ⟨z2, hz2, ez2⟩ := c.up
        rw [show r.length - 1 = i by omega, hi] at hz2
        cases hz2
        rw [h] at ez2; cases ez2
    · exact h
  have c' : Cyc prs M r' := ⟨w', h0, z, hz, up⟩
  obtain ⟨i, hi⟩ := List.mem_iff_getElem?.mp hM
  have hMr' : M ∈ r' := List.mem_of_getElem? h0
  have ho : o ∈ r' := c'.backs pl.ndn c.way i o M hi hMr' c.hd
  have hl' : 1 < r'.length := by
    refine Nat.lt_of_not_le fun h => ?_
    have hp := c'.pos
    have e1 : r'.length = 1 := by omega
    rw [e1] at hz
    have hzM : z = M := by rw [h0] at hz; exact (Option.some.inj hz).symm
    subst hzM
    -- M leads to itself, but the ring has two
    by_cases hl2 : i + 1 < r.length
    · have h2 := c.way.st i z _ hi (List.getElem?_eq_getElem hl2)
      rw [up] at h2
      have h3 := Option.some.inj h2
      have := nd_ix c.way.nd hi (show r[i + 1]? = some z by rw [List.getElem?_eq_getElem hl2, ← h3])
      omega
    · obtain ⟨z2, hz2, ez2⟩ := c.up
      have hil := (List.getElem?_eq_some_iff.mp hi).1
      rw [show r.length - 1 = i by omega, hi] at hz2
      cases hz2
      rw [up] at ez2
      cases ez2
      have := nd_ix c.way.nd hi c.hd
      omega
  refine ⟨r', ?_, ho⟩
  unfold rings
  exact List.mem_filterMap.mpr ⟨M, mem_srt.mpr (hk M hM), ringAt_some ⟨c', hl', fun m hm => by
    obtain ⟨j, hj⟩ := List.mem_iff_getElem?.mp hm
    exact hmin m (sub j m hj)⟩⟩
theorem rings_pw {prs : Pr} (pl : PlOk prs) : (rings prs).Pairwise (fun a b => ∀ x ∈ a, x ∉ b) := by
  unfold rings
  rw [List.pairwise_filterMap]
  have nd : (srt (keys prs)).Nodup := (srt_perm (keys prs)).nodup_iff.mpr pl.ndo
  refine nd.imp fun {n1 n2} hne r1 h1 r2 h2 x hx1 hx2 => hne ?_
  have q1 := ringAt_is h1
  have q2 := ringAt_is h2
  obtain ⟨i, hi⟩ := List.mem_iff_getElem?.mp hx2
  obtain ⟨j, hj⟩ := List.mem_iff_getElem?.mp hx1
  have a1 : n2 ∈ r1 := q1.1.backs pl.ndn q2.1.way i n2 x hi hx1 q2.1.hd
  have a2 : n1 ∈ r2 := q2.1.backs pl.ndn q1.1.way j n1 x hj hx2 q1.1.hd
  by_cases e : n1 = n2
  · exact e
  · rcases sl_or e with h | h
    · exact absurd h (q2.2.2 n1 a2)
    · exact absurd h (q1.2.2 n2 a1)
def goneS (prs : Pr) : List Str := ((byOlds prs).filter fun p => p.2.isNone).map (·.1)
def freeS (prs : Pr) : List Str := (srt (news prs)).filter fun n => decide (n ∉ keys prs)
theorem mem_gone {prs : Pr} (pl : PlOk prs) {o : Str} : o ∈ goneS prs ↔ (o, none) ∈ prs := by
  unfold goneS
  constructor
  · intro h
    obtain ⟨p, hp, e⟩ := List.mem_map.mp h
    have ⟨h1, h2⟩ := List.mem_filter.mp hp
    obtain ⟨q, v⟩ := p
    cases v with
    | none => cases e; exact (byOlds_self pl.ndo).mem_iff.mp h1
    | some v => cases h2
  · intro h
    exact List.mem_map.mpr ⟨_, List.mem_filter.mpr ⟨(byOlds_self pl.ndo).mem_iff.mpr h, rfl⟩, rfl⟩
theorem gone_nx {prs : Pr} (pl : PlOk prs) {o : Str} (h : (o, none) ∈ prs) : nx prs o = none := by unfold nx; rw [lk_of_mem pl.ndo h]; rfl
theorem mem_free {prs : Pr} {n : Str} : n ∈ freeS prs ↔ n ∈ news prs ∧ n ∉ keys prs := by
  unfold freeS; rw [List.mem_filter, mem_srt]; simp
theorem free_nx {prs : Pr} {n : Str} (h : n ∉ keys prs) : nx prs n = none := by unfold nx; rw [lk_none.mpr h]; rfl
theorem gone_nd {prs : Pr} (pl : PlOk prs) : (goneS prs).Nodup := pl.by.ndo.sublist ((List.filter_sublist).map _)
theorem free_nd {prs : Pr} (pl : PlOk prs) : (freeS prs).Nodup := ((srt_perm _).nodup_iff.mpr pl.ndn).filter _
theorem deedsL_eq (prs : Pr) (sp : Option Str) : deedsL prs sp = (goneS prs).map (fun o => (o, none)) ++ (freeS prs ++ goneS prs).flatMap (chainL prs 50) ++ (rings prs).flatMap fun r => ringD1 r (spS sp) := by
  unfold deedsL dropsL goneS freeS
  rw [List.flatMap_append, List.map_map, ← List.append_assoc]
  rfl
/-- whose name changes, or who is let go -/
def Moved (prs : Pr) (o : Str) : Prop := o ∈ keys prs ∧ nx prs o ≠ some o
theorem moved_all {prs : Pr} (pl : PlOk prs) {o : Str} : Moved prs o ↔ o ∈ goneS prs ∨ (∃ n ∈ freeS prs ++ goneS prs, o ∈ backL prs 50 n) ∨ ∃ r ∈ rings prs, o ∈ r := by
  have term : ∀ n ∈ freeS prs ++ goneS prs, nx prs n = none := fun n hn => by
    rcases List.mem_append.mp hn with h | h
    · exact free_nx (mem_free.mp h).2
    · exact gone_nx pl ((mem_gone pl).mp h)
  constructor
  · rintro ⟨hk, hne⟩
    cases e : nx prs o with
    | none =>
      obtain ⟨v, hv⟩ := lk_of_key hk
      unfold nx at e
      rw [hv] at e
      have e : v = none := e
      subst e
      exact .inl ((mem_gone pl).mpr (lk_mem hv))
    | some k =>
      have hko : k ≠ o := fun h => hne (by rw [e, h])
      obtain ⟨r, z, w, h0, hz, hcase⟩ := way_grow pl 43 [o] (Way.one prs o) rfl (by simp)
      have hp : 0 < r.length := (List.getElem?_eq_some_iff.mp h0).1
      have hl : 2 ≤ r.length := by
        refine Nat.le_of_not_lt fun h => ?_
        have e1 : r.length = 1 := by omega
        rw [e1] at hz
        have : z = o := by rw [h0] at hz; exact (Option.some.inj hz).symm
        subst this
        rw [e] at hcase
        rcases hcase with h | h
        · cases h
        · exact hko (Option.some.inj h)
      refine .inr ?_
      rcases hcase with h | h
      · refine .inl ⟨z, ?_, ?_⟩
        · have hq : r[r.length - 2]? = some r[r.length - 2] := List.getElem?_eq_getElem (by omega)
          have hzn := nx_new (w.st (r.length - 2) _ z hq (by rw [show r.length - 2 + 1 = r.length - 1 by omega]; exact hz))
          by_cases hzk : z ∈ keys prs
          · obtain ⟨v, hv⟩ := lk_of_key hzk
            unfold nx at h
            rw [hv] at h
            have h : v = none := h
            subst h
            exact List.mem_append_right _ ((mem_gone pl).mpr (lk_mem hv))
          · exact List.mem_append_left _ (mem_free.mpr ⟨hzn, hzk⟩)
        · have hw := w.len
          have h : (news prs).length ≤ prs.length := List.length_filterMap_le ..
          have := pl.len
          exact way_back pl w (r.length - 1) 50 0 o z (by omega) (by omega) h0 (by rw [Nat.zero_add]; exact hz)
      · exact .inr (ring_of pl ⟨w, h0, z, hz, h⟩ hl)
  · rintro (h | ⟨n, hn, h⟩ | ⟨r, hr, h⟩)
    · have h := (mem_gone pl).mp h
      exact ⟨List.mem_map.mpr ⟨_, h, rfl⟩, by rw [gone_nx pl h]; simp⟩
    · obtain ⟨k, e⟩ := back_nx pl 50 n o h
      exact ⟨nx_key e, (back_lead pl 50 n o h).noid (term n hn)⟩
    · obtain ⟨m, c, hl, _⟩ := rings_mem hr
      refine ⟨c.keys o h, fun e => ?_⟩
      obtain ⟨i, hi⟩ := List.mem_iff_getElem?.mp h
      have hil := (List.getElem?_eq_some_iff.mp hi).1
      by_cases hl2 : i + 1 < r.length
      · have h2 := c.way.st i o _ hi (List.getElem?_eq_getElem hl2)
        rw [e] at h2
        have h3 := Option.some.inj h2
        have := nd_ix c.way.nd hi (show r[i + 1]? = some o by rw [List.getElem?_eq_getElem hl2, ← h3])
        omega
      · obtain ⟨z2, hz2, ez2⟩ := c.up
        rw [show r.length - 1 = i by omega, hi] at hz2
        cases hz2
        rw [e] at ez2
        cases ez2
        have := nd_ix c.way.nd hi c.hd
        omega
theorem lead_ring {prs : Pr} {m : Str} {r : List Str} (c : Cyc prs m r) {o n : Str} (h : Lead prs o n) (ho : o ∈ r) : n ∈ r := by
  induction h with
  | refl => exact ho
  | step e _ ih => exact ih (c.fw ho e)
theorem ring_nx {prs : Pr} {m : Str} {r : List Str} (c : Cyc prs m r) {o : Str} (ho : o ∈ r) : nx prs o ≠ none := by
  obtain ⟨i, hi⟩ := List.mem_iff_getElem?.mp ho
  have hil := (List.getElem?_eq_some_iff.mp hi).1
  by_cases hl2 : i + 1 < r.length
  · rw [c.way.st i o _ hi (List.getElem?_eq_getElem hl2)]; simp
  · obtain ⟨z2, hz2, ez2⟩ := c.up
    rw [show r.length - 1 = i by omega, hi] at hz2
    cases hz2
    rw [ez2]; simp
/-- the whole -/
theorem whole_play {prs : Pr} {m0 : Mp} (w : Wld prs m0) {sp : Option Str} (hs : rings prs ≠ [] → m0 (spS sp) = none ∧ spS sp ∉ news prs) : ∃ Y, Plyd prs m0 [] (deedsL prs sp) (Moved prs) (rings prs).length Y := by
  have pl := w.pl
  rw [deedsL_eq]
  obtain ⟨A, hA⟩ := drops_play w (os := goneS prs) (X := []) ⟨(fun _ h => by cases h), (fun _ h => by cases h)⟩ List.nodup_nil (gone_nd pl) fun o ho => by
    have h := (mem_gone pl).mp ho
    exact ⟨List.mem_map.mpr ⟨_, h, rfl⟩, gone_nx pl h, by simp⟩
  have hAm : ∀ x, x ∈ A ↔ x ∈ goneS prs := fun x => by rw [hA.mem]; simp
  have term : ∀ n ∈ freeS prs ++ goneS prs, nx prs n = none := fun n hn => by
    rcases List.mem_append.mp hn with h | h
    · exact free_nx (mem_free.mp h).2
    · exact gone_nx pl ((mem_gone pl).mp h)
  obtain ⟨B, hB⟩ := chains_play w 50 (ns := freeS prs ++ goneS prs) (X := A) hA.clo hA.nd (List.nodup_append.mpr ⟨free_nd pl, gone_nd pl, fun a ha b hb e => by
      subst e
      exact (mem_free.mp ha).2 (List.mem_map.mpr ⟨_, (mem_gone pl).mp hb, rfl⟩)⟩) fun n hn => ⟨term n hn, by
    rcases List.mem_append.mp hn with h | h
    · exact .inl (mem_free.mp h).2
    · exact .inr ((hAm n).mpr h), fun o ho hx => by
    obtain ⟨k, e⟩ := back_nx pl 50 n o ho
    rw [gone_nx pl ((mem_gone pl).mp ((hAm o).mp hx))] at e
    cases e⟩
  have hAB := hA.append hB (r := fun x => x ∈ goneS prs ∨ ∃ n ∈ freeS prs ++ goneS prs, x ∈ backL prs 50 n) fun x => Iff.rfl
  by_cases hr : rings prs = []
  · refine ⟨B, ?_⟩
    rw [hr, List.flatMap_nil, List.append_nil]
    exact ⟨hAB.play, hAB.clo, hAB.nd, hAB.len, fun x => by rw [hAB.mem, moved_all pl, hr]; simp [or_assoc]⟩
  · have ⟨h1, h2⟩ := hs hr
    obtain ⟨Y, hY⟩ := rings_play w h1 h2 (rs := rings prs) (X := B) hB.clo hB.nd (fun r hr => by
      obtain ⟨m, c, hl, _⟩ := rings_mem hr
      refine ⟨hl, ⟨m, c⟩, fun x hx hxB => ?_⟩
      rcases (hAB.mem x).mp hxB with h | h | ⟨n, hn, h⟩
      · cases h
      · exact ring_nx c hx (gone_nx pl ((mem_gone pl).mp h))
      · exact ring_nx c (lead_ring c (back_lead pl 50 n x h) hx) (term n hn)) (rings_pw pl)
    refine ⟨Y, ?_⟩
    have := hAB.append hY (r := Moved prs) fun x => by rw [moved_all pl, or_assoc]
    rw [show 0 + 0 + (rings prs).length = (rings prs).length by omega] at this
    exact this
/-- what a name holds in the end -/
theorem whole_at {prs : Pr} {m0 : Mp} (w : Wld prs m0) {Y : List Str} (hY : ∀ x, x ∈ Y ↔ Moved prs x) (k : Str) : Gst prs m0 Y k = match src prs k with | some o => m0 o | none => if k ∈ keys prs then none else m0 k := by
  unfold Gst
  cases h : src prs k with
  | some o =>
    have e := (src_nx w.pl).mp h
    dsimp only
    by_cases ho : o ∈ Y
    · rw [if_pos ho]
    · rw [if_neg ho]
      have hne : nx prs o = some o := Classical.byContradiction fun h => ho ((hY o).mpr ⟨nx_key e, h⟩)
      rw [e] at hne
      have e2 := Option.some.inj hne
      subst e2
      rw [if_neg ho]
  | none =>
    dsimp only
    by_cases hk : k ∈ keys prs
    · rw [if_pos hk, if_pos ((hY k).mpr ⟨hk, fun e => by rw [(src_nx w.pl).mpr e] at h; cases h⟩)]
    · rw [if_neg hk, if_neg (fun h => hk ((hY k).mp h).1)]
theorem whole_len {prs : Pr} {Y : List Str} (pl : PlOk prs) (nd : Y.Nodup) (hY : ∀ x, x ∈ Y ↔ Moved prs x) : Y.length = (prs.filter fun p => decide (p.2 ≠ some p.1)).length := by
  have h : Y.Perm ((prs.filter fun p => decide (p.2 ≠ some p.1)).map (·.1)) := by
    refine (List.perm_ext_iff_of_nodup nd (pl.ndo.sublist ((List.filter_sublist).map _))).mpr fun x => ?_
    rw [hY]
    constructor
    · rintro ⟨hk, hne⟩
      obtain ⟨v, hv⟩ := lk_of_key hk
      refine List.mem_map.mpr ⟨(x, v), List.mem_filter.mpr ⟨lk_mem hv, ?_⟩, rfl⟩
      have : nx prs x = v := by unfold nx; rw [hv]; rfl
      rw [this] at hne
      simpa using hne
    · intro h
      obtain ⟨⟨o, v⟩, hp, rfl⟩ := List.mem_map.mp h
      have ⟨h1, h2⟩ := List.mem_filter.mp hp
      refine ⟨List.mem_map.mpr ⟨_, h1, rfl⟩, ?_⟩
      have : nx prs o = v := by unfold nx; rw [lk_of_mem pl.ndo h1]; rfl
      rw [this]
      simpa using h2
  rw [h.length_eq, List.length_map]
end NN
/-! what the law does with deeds -/
namespace NN
open PySem L2
abbrev Th := List (Str × V)
def stepT (th : Th) (d : Dd) : Option Th := match lk th d.1 with
  | none => none
  | some v => match d.2 with
    | none => some (drop th d.1)
    | some n => if n ∈ keys th then none else some (put (drop th d.1) n v)
def playT (th : Th) : List Dd → Option Th
  | [] => some th
  | d :: r => (stepT th d).bind fun t => playT t r
theorem lk_drop_upf (th : Th) (o : Str) : lk (drop th o) = upf (lk th) o none := by funext j; rw [lk_drop]; rfl
theorem lk_put_upf (th : Th) (o n : Str) (v : V) : lk (put (drop th o) n v) = upf (upf (lk th) o none) n (some v) := by
  funext j; rw [lk_put, lk_drop_upf]; rfl
theorem stepT_map {th : Th} {m : Mp} {d : Dd} (nd : (keys th).Nodup) (h : stepM (lk th) d = some m) : ∃ t, stepT th d = some t ∧ lk t = m ∧ (keys t).Nodup := by
  obtain ⟨o, n⟩ := d
  unfold stepM at h
  unfold stepT
  cases e : lk th o with
  | none => rw [e] at h; cases h
  | some v =>
    rw [e] at h
    cases n with
    | none =>
      cases h
      exact ⟨_, rfl, lk_drop_upf th o, nd_keys_drop nd⟩
    | some n =>
      have h : (if (lk th n).isSome = true then none else some (upf (upf (lk th) o none) n (some v))) = some m := h
      rw [lk_isSome] at h
      by_cases hn : n ∈ keys th
      · rw [if_pos (decide_eq_true hn)] at h; cases h
      · rw [if_neg (by simpa using hn)] at h
        cases h
        refine ⟨_, ?_, lk_put_upf th o n v, nd_keys_put (nd_keys_drop nd)⟩
        show (if n ∈ keys th then none else some (put (drop th o) n v)) = _
        rw [if_neg hn]
theorem playT_map : ∀ {ds : List Dd} {th : Th} {m : Mp}, (keys th).Nodup → playM (lk th) ds = some m → ∃ t, playT th ds = some t ∧ lk t = m ∧ (keys t).Nodup
  | [], th, m, nd, h => by cases h; exact ⟨th, rfl, rfl, nd⟩
  | d :: r, th, m, nd, h => by
    have h : (stepM (lk th) d).bind (fun m' => playM m' r) = some m := h
    obtain ⟨m', h1, h2⟩ := Option.bind_eq_some_iff.mp h
    obtain ⟨t, e1, e2, e3⟩ := stepT_map nd h1
    subst e2
    obtain ⟨t', f1, f2, f3⟩ := playT_map e3 h2
    refine ⟨t', ?_, f2, f3⟩
    show (stepT th d).bind _ = _
    rw [e1]; exact f1
theorem lk_behD {th : Th} {prs : Pr} (pl : PlOk prs) (nd : (keys th).Nodup) (hf : fitE prs (keys th) = none) (k : Str) : lk (behD th prs) k = match src prs k with | some o => lk th o | none => if k ∈ keys prs then none else lk th k := by
  have ⟨f1, f2⟩ := fit_none hf
  have n1 := to_nd pl nd hf
  have ndb : (keys (behD th prs)).Nodup := by rw [keys_behD n1]; exact n1
  have mem : ∀ v, (k, v) ∈ behD th prs ↔ ∃ o, (o, v) ∈ th ∧ toO prs o = some k := fun v => by
    rw [behD_eq n1, List.mem_filterMap]
    constructor
    · rintro ⟨⟨o, u⟩, hm, e⟩
      obtain ⟨n, hn, e2⟩ := Option.map_eq_some_iff.mp e
      cases e2
      exact ⟨o, hm, hn⟩
    · rintro ⟨o, hm, hn⟩
      exact ⟨(o, v), hm, by show Option.map _ (toO prs o) = _; rw [hn]; rfl⟩
  refine Option.ext fun v => ?_
  rw [lk_iff ndb, mem]
  cases hs : src prs k with
  | some o =>
    have hnx := (src_nx pl).mp hs
    have hto : toO prs o = some k := toO_key pl.ndo (p := (o, some k)) (nx_mem hnx)
    dsimp only
    rw [lk_iff nd]
    constructor
    · rintro ⟨o', hm, e⟩
      have : o' = o := by
        by_cases ho : o' ∈ keys prs
        · obtain ⟨u, hu⟩ := lk_of_key ho
          unfold toO at e
          rw [hu] at e
          have e : u = some k := e
          subst e
          exact nx_inj pl.ndn (nx_of_mem pl.ndo (lk_mem hu)) hnx
        · rw [toO_free ho] at e
          cases e
          exact absurd (f2 k (nx_new hnx) (List.mem_map.mpr ⟨_, hm, rfl⟩)) ho
      rw [← this]; exact hm
    · intro hm
      exact ⟨o, hm, hto⟩
  | none =>
    dsimp only
    have key : ∀ o, toO prs o = some k → o = k ∧ k ∉ keys prs := fun o e => by
      by_cases ho : o ∈ keys prs
      · obtain ⟨u, hu⟩ := lk_of_key ho
        unfold toO at e
        rw [hu] at e
        have e : u = some k := e
        subst e
        rw [(src_nx pl).mpr (nx_of_mem pl.ndo (lk_mem hu))] at hs
        cases hs
      · rw [toO_free ho] at e
        cases e
        exact ⟨rfl, ho⟩
    by_cases hk : k ∈ keys prs
    · rw [if_pos hk]
      exact ⟨fun ⟨o, _, e⟩ => absurd hk (key o e).2, fun h => by cases h⟩
    · rw [if_neg hk, lk_iff nd]
      constructor
      · rintro ⟨o, hm, e⟩
        rw [← (key o e).1]; exact hm
      · intro hm
        exact ⟨k, hm, toO_free hk⟩
theorem same_lk {a b : Th} (ha : (keys a).Nodup) (hb : (keys b).Nodup) (h : ∀ k, lk a k = lk b k) : a.length = b.length ∧ ∀ kv ∈ a, kv ∈ b := by
  have pk : (keys a).Perm (keys b) := by
    refine (List.perm_ext_iff_of_nodup ha hb).mpr fun k => ?_
    have h1 := lk_isSome a k
    have h2 := lk_isSome b k
    rw [h k] at h1
    exact decide_eq_decide.mp (h1.symm.trans h2)
  refine ⟨by have := pk.length_eq; simpa [keys] using this, fun kv hkv => ?_⟩
  have := lk_of_mem ha (k := kv.1) (v := kv.2) hkv
  rw [h] at this
  exact lk_mem this
/-- the deeds do the plan, one by one -/
theorem deeds_do {th : Th} {prs : Pr} {sp : Option Str} (pl : PlOk prs) (nd : (keys th).Nodup) (hf : fitE prs (keys th) = none) (hs : rings prs ≠ [] → spS sp ∉ keys th ∧ spS sp ∉ news prs) :
    ∃ t, playT th (deedsL prs sp) = some t ∧ (keys t).Nodup ∧ (∀ k, lk t k = lk (behD th prs) k) ∧ (deedsL prs sp).length = (prs.filter fun p => decide (p.2 ≠ some p.1)).length + (rings prs).length := by
  have ⟨f1, f2⟩ := fit_none hf
  have w : Wld prs (lk th) := ⟨pl, fun o ho => lk_of_key (f1 o ho), fun n hn hk => lk_none.mpr fun h => hk (f2 n hn h)⟩
  obtain ⟨Y, hY⟩ := whole_play w (sp := sp) fun hr => ⟨lk_none.mpr (hs hr).1, (hs hr).2⟩
  have hp := hY.play
  rw [Gst_nil] at hp
  obtain ⟨t, e1, e2, e3⟩ := playT_map nd hp
  have hm : ∀ x, x ∈ Y ↔ Moved prs x := fun x => by rw [hY.mem]; simp
  refine ⟨t, e1, e3, fun k => ?_, ?_⟩
  · (rw [e2, whole_at w hm, lk_behD pl nd hf]) <;> (cases src prs k <;> rfl)
  · have h1 := hY.len
    have h2 := whole_len pl hY.nd hm
    simp at h1
    omega
theorem playT_append (th : Th) : ∀ (a b : List Dd), playT th (a ++ b) = (playT th a).bind fun m' => playT m' b
  | [], b => rfl
  | d :: r, b => by
    show (stepT th d).bind (fun m' => playT m' (r ++ b)) = ((stepT th d).bind fun m' => playT m' r).bind _
    cases stepT th d with
    | none => rfl
    | some m' => exact playT_append m' r b
/-- a row of deeds that can be played, cut at i -/
theorem playT_cut {th t : Th} {ds : List Dd} (h : playT th ds = some t) {i : Nat} {d : Dd} (hd : ds[i]? = some d) : ∃ u w, playT th (ds.take i) = some u ∧ stepT u d = some w ∧ playT th (ds.take (i + 1)) = some w := by
  have hl := (List.getElem?_eq_some_iff.mp hd).1
  have e : ds = ds.take i ++ d :: ds.drop (i + 1) := by
    rw [← (List.getElem?_eq_some_iff.mp hd).2, ← List.drop_eq_getElem_cons hl, List.take_append_drop]
  rw [e, playT_append] at h
  obtain ⟨u, h1, h2⟩ := Option.bind_eq_some_iff.mp h
  have h2 : (stepT u d).bind (fun m' => playT m' (ds.drop (i + 1))) = some t := h2
  obtain ⟨w, h3, _⟩ := Option.bind_eq_some_iff.mp h2
  refine ⟨u, w, h1, h3, ?_⟩
  rw [List.take_add_one, hd, playT_append, h1]
  show (stepT u d).bind (fun m' => some m') = _
  rw [h3]; rfl
/-! ### the spare name -/
abbrev SpSt := Option (List (List Str)) × Nat
def spStep (rs : List (List Str)) (s : Str) (st : SpSt) (d : Dd) : Option SpSt :=
  if d.1 ≠ s ∧ d.2 ≠ some s then some st else match d.2 with
  | none => none
  | some n => match st.1 with
    | none => some (some (rs.filter fun r => decide (d.1 ∈ r) && decide (n = s)), st.2 + 1)
    | some fs => if (fs.filter fun r => decide (d.1 = s) && decide (n ∈ r)) = [] then none else some (none, st.2 + 1)
def spRun (rs : List (List Str)) (s : Str) (st : SpSt) : List Dd → Option SpSt
  | [] => some st
  | d :: r => (spStep rs s st d).bind fun t => spRun rs s t r
theorem spRun_append (rs : List (List Str)) (s : Str) (st : SpSt) : ∀ (a b : List Dd), spRun rs s st (a ++ b) = (spRun rs s st a).bind fun t => spRun rs s t b
  | [], b => rfl
  | d :: r, b => by
    show (spStep rs s st d).bind (fun m' => spRun rs s m' (r ++ b)) = ((spStep rs s st d).bind fun m' => spRun rs s m' r).bind _
    cases spStep rs s st d with
    | none => rfl
    | some m' => exact spRun_append rs s m' r b
theorem spRun_cut {rs : List (List Str)} {s : Str} {st t : SpSt} {ds : List Dd} (h : spRun rs s st ds = some t) {i : Nat} {d : Dd} (hd : ds[i]? = some d) : ∃ u w, spRun rs s st (ds.take i) = some u ∧ spStep rs s u d = some w ∧ spRun rs s st (ds.take (i + 1)) = some w := by
  have hl := (List.getElem?_eq_some_iff.mp hd).1
  have e : ds = ds.take i ++ d :: ds.drop (i + 1) := by
    rw [← (List.getElem?_eq_some_iff.mp hd).2, ← List.drop_eq_getElem_cons hl, List.take_append_drop]
  rw [e, spRun_append] at h
  obtain ⟨u, h1, h2⟩ := Option.bind_eq_some_iff.mp h
  have h2 : (spStep rs s u d).bind (fun m' => spRun rs s m' (ds.drop (i + 1))) = some t := h2
  obtain ⟨w, h3, _⟩ := Option.bind_eq_some_iff.mp h2
  refine ⟨u, w, h1, h3, ?_⟩
  rw [List.take_add_one, hd, spRun_append, h1]
  show (spStep rs s u d).bind (fun m' => some m') = _
  rw [h3]; rfl
theorem spRun_skip {rs : List (List Str)} {s : Str} : ∀ {ds : List Dd} (st : SpSt), (∀ d ∈ ds, d.1 ≠ s ∧ d.2 ≠ some s) → spRun rs s st ds = some st
  | [], _, _ => rfl
  | d :: r, st, h => by
    show (spStep rs s st d).bind _ = _
    unfold spStep
    rw [if_pos (h d (List.mem_cons_self ..))]
    exact spRun_skip st fun q hq => h q (List.mem_cons_of_mem _ hq)
theorem ddIn_skip {N : List Str} {s : Str} (hs : s ∉ N) {d : Dd} (h : DdIn N d) : d.1 ≠ s ∧ d.2 ≠ some s := ⟨fun e => hs (e ▸ h.1), fun e => hs (h.2 s e)⟩
theorem spRun_ring {rs : List (List Str)} {s : Str} {r : List Str} (hr : r ∈ rs) (hl : 2 ≤ r.length) (hs : s ∉ r) (c : Nat) : spRun rs s (none, c) (ringD1 r s) = some (none, c + 2) := by
  have gm : ∀ i, i < r.length → r.getD i "" ∈ r := fun i hi => getD_mem hi
  unfold ringD1
  rw [spRun_append, spRun_append]
  have e1 : spRun rs s (none, c) [(r.getD (r.length - 1) "", some s)] = some (some (rs.filter fun q => decide (r.getD (r.length - 1) "" ∈ q) && decide (s = s)), c + 1) := by
    show (spStep rs s (none, c) (r.getD (r.length - 1) "", some s)).bind (fun t => some t) = _
    unfold spStep
    rw [if_neg (by simp)]; rfl
  rw [e1]
  show ((spRun rs s _ _).bind _) = _
  rw [spRun_skip _ fun d hd => ?_]
  · show (spStep rs s _ (s, some (r.getD 0 ""))).bind (fun t => some t) = _
    unfold spStep
    rw [if_neg (by simp)]
    show Option.bind (if ((rs.filter fun q => decide (r.getD (r.length - 1) "" ∈ q) && decide (s = s)).filter fun q => decide (s = s) && decide (r.getD 0 "" ∈ q)) = [] then none else some (none, c + 1 + 1)) _ = _
    rw [if_neg (fun e => ?_)]
    · rfl
    · have : r ∈ ((rs.filter fun q => decide (r.getD (r.length - 1) "" ∈ q) && decide (s = s)).filter fun q => decide (s = s) && decide (r.getD 0 "" ∈ q)) := by
        refine List.mem_filter.mpr ⟨List.mem_filter.mpr ⟨hr, ?_⟩, ?_⟩
        · simp only [decide_true, Bool.and_true, decide_eq_true_eq]; exact gm _ (by omega)
        · simp only [decide_true, Bool.true_and, decide_eq_true_eq]; exact gm _ (by omega)
      rw [e] at this; cases this
  · obtain ⟨k, hk, rfl⟩ := List.mem_map.mp hd
    have := List.mem_range.mp hk
    exact ⟨fun e => hs (by rw [← e]; exact gm _ (by omega)), fun e => hs (by rw [← Option.some.inj e]; exact gm _ (by omega))⟩
theorem spRun_rings {all : List (List Str)} {s : Str} : ∀ {rs : List (List Str)} (c : Nat), (∀ r ∈ rs, r ∈ all ∧ 2 ≤ r.length ∧ s ∉ r) → spRun all s (none, c) (rs.flatMap fun r => ringD1 r s) = some (none, c + 2 * rs.length)
  | [], c, _ => rfl
  | r :: rs, c, h => by
    have ⟨h1, h2, h3⟩ := h r (List.mem_cons_self ..)
    rw [List.flatMap_cons, spRun_append, spRun_ring h1 h2 h3]
    show spRun all s (none, c + 2) _ = _
    rw [spRun_rings (c + 2) fun q hq => h q (List.mem_cons_of_mem _ hq), List.length_cons]
    congr 2
    omega
theorem spare_run {prs : Pr} {sp : Option Str} {s : Str} (h1 : s ∉ keys prs) (h2 : s ∉ news prs) (hs : rings prs ≠ [] → sp = some s) : spRun (rings prs) s (none, 0) (deedsL prs sp) = some (none, 2 * (rings prs).length) := by
  rw [deedsL_eq, spRun_append, spRun_skip _ fun d hd => ddIn_skip (N := keys prs ++ news prs) (by simp [h1, h2]) ?_]
  · show spRun _ s (none, 0) _ = _
    by_cases hr : rings prs = []
    · rw [hr]; rfl
    · rw [hs hr]
      have := spRun_rings (all := rings prs) (s := s) (rs := rings prs) 0 fun r hr => ⟨hr, (rings_shape hr).1, fun h => h1 ((rings_shape hr).2 s h)⟩
      rw [Nat.zero_add] at this
      exact this
  · have k1 : ∀ o ∈ keys prs, o ∈ keys prs ++ news prs := fun o ho => List.mem_append_left _ ho
    have gk : ∀ o ∈ goneS prs, o ∈ keys prs := fun o ho => by
      obtain ⟨p, hp, e⟩ := List.mem_map.mp ho
      rw [← e]; exact byOlds_key (p := p) (List.mem_filter.mp hp).1
    rcases List.mem_append.mp hd with hd | hd
    · obtain ⟨o, ho, rfl⟩ := List.mem_map.mp hd
      exact ⟨k1 o (gk o ho), fun m hm => nomatch hm⟩
    · obtain ⟨n, hn, hd⟩ := List.mem_flatMap.mp hd
      refine chain_in k1 50 n ?_ d hd
      rcases List.mem_append.mp hn with hn | hn
      · exact List.mem_append_right _ (mem_free.mp hn).1
      · exact k1 n (gk n hn)
theorem deeds_len {prs : Pr} (pl : PlOk prs) (sp : Option Str) : (deedsL prs sp).length ≤ 6040 := by
  have hbl : (byOlds prs).length ≤ 40 := by have := (byOlds_self pl.ndo).length_eq; have := pl.len; omega
  have hnl : (srt (news prs)).length ≤ 40 := by have := pl.len; rw [len_srt]; have h : (news prs).length ≤ prs.length := List.length_filterMap_le ..; omega
  have hrl := rings_len pl
  rw [deedsL_parts sp (Nat.le_refl _) (Nat.le_refl _) (Nat.le_refl _), List.length_append, List.length_append, List.length_append]
  have h1 := dropP_len prs (byOlds prs).length
  have h2 := newP_len prs (srt (news prs)).length
  have h3 := goneP_len prs (byOlds prs).length
  have h4 := ringP_len pl sp (rings prs).length
  omega
theorem stepT_nd {th t : Th} {d : Dd} (nd : (keys th).Nodup) (h : stepT th d = some t) : (keys t).Nodup ∧ t.length ≤ th.length + 1 := by
  unfold stepT at h
  have dl : (drop th d.1).length ≤ th.length := List.length_filter_le ..
  cases e : lk th d.1 with
  | none => rw [e] at h; cases h
  | some v =>
    rw [e] at h
    cases hn : d.2 with
    | none => rw [hn] at h; cases h; exact ⟨nd_keys_drop nd, by omega⟩
    | some n =>
      rw [hn] at h
      have h : (if n ∈ keys th then none else some (put (drop th d.1) n v)) = some t := h
      split at h
      · cases h
      · cases h
        refine ⟨nd_keys_put (nd_keys_drop nd), ?_⟩
        have := put_len (drop th d.1) n v
        omega
theorem playT_nd : ∀ {ds : List Dd} {th t : Th}, (keys th).Nodup → playT th ds = some t → (keys t).Nodup ∧ t.length ≤ th.length + ds.length
  | [], th, t, nd, h => by cases h; exact ⟨nd, Nat.le_refl _⟩
  | d :: r, th, t, nd, h => by
    have h : (stepT th d).bind (fun m' => playT m' r) = some t := h
    obtain ⟨m', h1, h2⟩ := Option.bind_eq_some_iff.mp h
    have ⟨n1, l1⟩ := stepT_nd nd h1
    have ⟨n2, l2⟩ := playT_nd n1 h2
    exact ⟨n2, by rw [List.length_cons]; omega⟩
theorem item_D {S S' : List Addr} {H H' : Hp} {vx : List V} {ds : List Dd} {i : Nat} {z : V} (hvx : AtL S H vx (ds.map encDd)) (hz : vx[i]? = some z) (k : Kp S' H H') (hs : ∀ a ∈ S', a ∈ S) : ∃ t d, z = .ref t ∧ ds[i]? = some d ∧ H' t = some (.tup (ddV d)) := by
  obtain ⟨d, hd, hzd⟩ := (hvx.kp k hs).get' hz
  rw [List.getElem?_map] at hd
  obtain ⟨⟨o, n⟩, hpp, rfl⟩ := Option.map_eq_some_iff.mp hd
  cases n with
  | none =>
    obtain ⟨t, ws, rfl, _, ht, hws⟩ := At.isT (ds := [.v (.str "drop"), .v (.str o)]) hzd
    have e : ws = [.str "drop", .str o] := AtL.vals_eq (ws := [.str "drop", .str o]) hws
    subst e
    exact ⟨t, (o, none), rfl, hpp, ht⟩
  | some n =>
    obtain ⟨t, ws, rfl, _, ht, hws⟩ := At.isT (ds := [.v (.str "move"), .v (.str o), .v (.str n)]) hzd
    have e : ws = [.str "move", .str o, .str n] := AtL.vals_eq (ws := [.str "move", .str o, .str n]) hws
    subst e
    exact ⟨t, (o, some n), rfl, hpp, ht⟩
theorem g_dpop {σ : L2.St} {H : Hp} {Q : VK} {td ty : TE} (q : td σ H fun x H1 => ∃ a, x = V.ref a ∧ IsD H1 a ∧ ty σ H1 fun y H2 => ∃ kvs k v, H2 a = some (.dK kvs) ∧ y = kV k ∧ valV kvs k = some v ∧ Q v (upd H2 a (.dK (dropK kvs k)))) : tDPop1 td ty σ H Q := q
def rEqDE : R2 := fun x y H Q => ∃ a b ks, x = V.ref a ∧ y = V.ref b ∧ H a = some (HO.dK ks) ∧ H b = some (HO.dK []) ∧ Q (.bl ks.isEmpty) H
theorem op_eqDE {X : Cx} (hu : X.A.units + 1 < cLine) : OpR X (PySem.compareOp .Eq) rEqDE := by
  intro pins s σ H x y v u Q I rx ry h
  obtain ⟨a, b, ks, rfl, rfl, ea, eb, q⟩ := h
  obtain rfl : v = PySem.Value.ref a := rx
  obtain rfl : u = PySem.Value.ref b := ry
  have h1 := I.hok a (HO.dK ks) ea
  have h2 := I.hok b (HO.dK []) eb
  obtain ⟨_, ya, va, ra, da⟩ := h1
  obtain ⟨_, yb, vb, rb, db⟩ := h2
  have l1 := KV.length ra
  have l2 : 0 = vb.length := KV.length rb
  refine PySem.W.keq_eq (r := true) ya yb da db (by omega) (fun e => hits_all rb ra fun p hp => ?_) (fin_bl I q ?_)
  · exfalso
    have : ks.length = 0 := by omega
    rw [List.length_eq_zero_iff] at this
    rw [this] at hp; cases hp
  · rw [Bool.and_true]
    cases ks with
    | nil => have : va.length = vb.length := by rw [← l1, ← l2]; rfl
             rw [this]; simp
    | cons k ks => have : va.length ≠ vb.length := by rw [← l1, ← l2]; simp
                   simp [this]
def spDone : Sp := fun vs H Q _ => ∃ (d a : Addr) (th t : Th) (ds : List Dd) (ws : List V), vs = [.ref d, .ref a] ∧ H d = some (.dK (dS th)) ∧ (keys th).Nodup ∧ th.length ≤ 40 ∧ H a = some (.lst ws) ∧ AtL [] H ws (ds.map encDd) ∧ ds.length ≤ 10000 ∧ playT th ds = some t ∧
  ∀ q H', H q = none → Kp [] H H' → H' q = some (.dK (dS t)) → Q (.ref q) H'
def spSpareRight : Sp := fun vs H Q _ => ∃ (a rl : Addr) (s : Str) (ds : List Dd) (ws rws : List V) (rs : List (List Str)), vs = [.ref a, .str s, .ref rl] ∧ H a = some (.lst ws) ∧ AtL [] H ws (ds.map encDd) ∧ H rl = some (.lst rws) ∧ AtL [] H rws (ringsD rs) ∧
  s.length = 2 ∧ rs.length ≤ 40 ∧ (∀ r ∈ rs, ∀ n ∈ r, fineS n) ∧ ds.length ≤ 10000 ∧ spRun rs s (none, 0) ds = some (none, 2 * rs.length) ∧ ∀ H', Kp [] H H' → Q (.bl true) H'
def spAsked (C : Addr) : Sp := fun vs H Q _ => ∃ (p a : Addr) (prs : Pr) (nm : List Str) (sp : Option Str), vs = [.ref p, .ref a, oV sp] ∧ PlanAt [] C H p prs ∧ PlOk prs ∧ H a = some (.lst (nm.map V.str)) ∧ SpF sp ∧ deedsE prs nm sp = none ∧
  ∀ q ws H', H q = none → Kp [] H H' → H' q = some (.lst ws) → (∀ S, Live S H → AtL (q :: S) H' ws ((deedsL prs sp).map encDd)) → Q (.ref q) H'
theorem inV_dd {s : Str} (hs : s.length = 2) (d : Dd) : inV (.str s) (ddV d) = !(decide (d.1 ≠ s) && decide (d.2 ≠ some s)) := by
  have e1 : s ≠ "move" := fun e => by rw [e] at hs; revert hs; decide +kernel
  have e2 : s ≠ "drop" := fun e => by rw [e] at hs; revert hs; decide +kernel
  obtain ⟨o, n⟩ := d
  cases n with
  | none =>
    have : ddV (o, none) = [("drop" : Str), o].map V.str := rfl
    rw [this, inV_strs]
    by_cases h : o = s
    · simp [h]
    · have h' : s ≠ o := fun e => h e.symm
      simp [e2, h, h']
  | some n =>
    have : ddV (o, some n) = [("move" : Str), o, n].map V.str := rfl
    rw [this, inV_strs]
    by_cases h : o = s
    · simp [h]
    · have h' : s ≠ o := fun e => h e.symm
      by_cases h2 : n = s
      · simp [h2]
      · have h2' : s ≠ n := fun e => h2 e.symm
        simp [e1, h', h2', h, h2]
theorem ddV_flat (d : Dd) : (ddV d).all flatV = true := by
  obtain ⟨o, n⟩ := d
  cases n <;> rfl
theorem g_eqNilD {K : PySem.W.Frag} {S : List Addr} {H : Hp} {Q : VK} {x : V} {b : Addr} {ds : List D} (h1 : At S H x (.l ds)) (hb : H b = some (.lst [])) (f : fineD (.l ds)) (q : Q (.bl ds.isEmpty) H) : rEqU K x (.ref b) H Q := by
  obtain ⟨p, e, c, dd⟩ := f
  have h2 : At [] H (.ref b) (.l []) := .l (by simp) hb .nil
  refine g_eqD (h1.dp e) (h2.dp (p := .list []) rfl) (shaped_of c dd) (shaped_of (p := .list []) rfl (by decide)) ?_
  cases ds with
  | nil => cases e; exact q
  | cons d ds => obtain ⟨x, xs, rfl⟩ := pys_ne e; exact q
theorem fine_ringsL {rs : List (List Str)} (h : ∀ r ∈ rs, ∀ n ∈ r, fineS n) : FineN 2 (.l (ringsD rs)) := FineN.l (n := 1) fun d hd => by
  obtain ⟨r, hr, rfl⟩ := List.mem_map.mp hd
  refine FineN.t (n := 0) fun d hd => ?_
  obtain ⟨n, hn, rfl⟩ := List.mem_map.mp hd
  exact FineN.str (h r hr n hn)
end NN
/-! a walk over a dict in a def that raises: the dict is free again where the error leaves -/
namespace NN
open PySem PySem.Spec PyProof.Rows L2
def UW (d : Addr) (od : Obj) (u : HO) (W : WX) : WX := fun c dd σ H => H d = some (.frz od u) ∧ W c dd σ (L2.upd H d u)
theorem takes_unlock {X : Cx} {W : WX} {d : Addr} {od : Obj} {u : HO} (hn : ∀ o' u', X.H_0 d ≠ some (.frz o' u')) (tk : Takes X W) : Takes X (UW d od u W) := fun v s' ⟨a, B, sI, pins, σ, H, cls, dd, e, I, nb, up, sky, na, os, ag, hf, w⟩ =>
  tk v s' ⟨a, B, sI, pins, σ, L2.upd H d u, cls, dd, e, I.unlock hf hn, nb, up, sky, by rw [upd_ne (fun z => by rw [z, hf] at na; cases na)]; exact na, os, ag, w⟩
def tLockX (t : WX → TS) (W : WX) : TS := fun D σ H => ∃ d u, H d = some u ∧ Mut (some u) ∧ ∀ od, t (UW d od u W) ⟨fun σ' H' => H' d = some (.frz od u) ∧ D.nx σ' (L2.upd H' d u), fun v H' => H' d = some (.frz od u) ∧ D.rt v (L2.upd H' d u), fun σ' H' => H' d = some (.frz od u) ∧ D.bk σ' (L2.upd H' d u), fun σ' H' => H' d = some (.frz od u) ∧ D.ct σ' (L2.upd H' d u)⟩ σ (L2.upd H d (.frz od u))
theorem ps_lockX {X : Cx} {st : Stmt} {t : WX → TS} {W : WX} (tk : Takes X W) (h : ∀ W', Takes X W' → PS X st (t W')) : PS X st (tLockX t W) := by
  refine ⟨fun pins s σ H D I hw => ?_⟩
  obtain ⟨d, u, hd, mu, hw⟩ := hw
  have hn := I.nofrz hd mu
  obtain ⟨od, I1⟩ := I.lock hd mu
  refine thn ((h (UW d od u W) (takes_unlock hn tk)).run pins s σ _ _ I1 (hw od)) fun f s1 q => ?_
  cases f with
  | next => obtain ⟨σ', H', I2, e, q⟩ := q; exact ⟨σ', _, I2.unlock e hn, q⟩
  | brk => obtain ⟨σ', H', I2, e, q⟩ := q; exact ⟨σ', _, I2.unlock e hn, q⟩
  | cont => obtain ⟨σ', H', I2, e, q⟩ := q; exact ⟨σ', _, I2.unlock e hn, q⟩
  | ret v => obtain ⟨x, σ', H', I2, r, e, q⟩ := q; exact ⟨x, σ', _, I2.unlock e hn, r, q⟩
theorem g_lockX {t : WX → TS} {W : WX} {D : Ends} {σ : L2.St} {H : Hp} {d : Addr} {u : HO} (h : H d = some u) (m : Mut (some u)) (q : ∀ od, t (UW d od u W) ⟨fun σ' H' => H' d = some (.frz od u) ∧ D.nx σ' (L2.upd H' d u), fun v H' => H' d = some (.frz od u) ∧ D.rt v (L2.upd H' d u), fun σ' H' => H' d = some (.frz od u) ∧ D.bk σ' (L2.upd H' d u), fun σ' H' => H' d = some (.frz od u) ∧ D.ct σ' (L2.upd H' d u)⟩ σ (L2.upd H d (.frz od u))) : tLockX t W D σ H := ⟨d, u, h, m, q⟩
end NN
/-! shelves -/
namespace NN
open PySem L2
def shF (d : Addr) : List (Str × V) := [("things", .ref d)]
theorem shF_no {d : Addr} {m : Str} (h : m ≠ "things") : (shF d).lookup m = none := by
  unfold shF
  have e1 : (m == ("things" : Str)) = false := by simpa using h
  simp [List.lookup, e1]
/-- a Shelf of the class C at s, its things at d -/
structure ShAt (S : List Addr) (C : Addr) (H : Hp) (s d : Addr) (th : Th) : Prop where
  ob : ∃ dx, H s = some (.ins C dx (shF d))
  at_ : H d = some (.dK (dS th))
  n1 : s ∉ S
  n2 : d ∉ S
theorem ShAt.kp {S S' : List Addr} {C s d : Addr} {H H' : Hp} {th : Th} (h : ShAt S C H s d th) (k : Kp S' H H') (hs : ∀ a ∈ S', a ∈ S) : ShAt S C H' s d th :=
  ⟨let ⟨dx, e⟩ := h.ob; ⟨dx, k.at e fun z => h.n1 (hs _ z)⟩, k.at h.at_ fun z => h.n2 (hs _ z), h.n1, h.n2⟩
theorem ShAt.kp' {S S' : List Addr} {C s d : Addr} {H H' : Hp} {th : Th} (h : ShAt S C H s d th) (k : Kp S' H H') (h1 : s ∉ S') (h2 : d ∉ S') : ShAt S C H' s d th :=
  ⟨let ⟨dx, e⟩ := h.ob; ⟨dx, k.at e h1⟩, k.at h.at_ h2, h.n1, h.n2⟩
theorem ShAt.sub {S S' : List Addr} {C s d : Addr} {H : Hp} {th : Th} (h : ShAt S C H s d th) (hs : ∀ a ∈ S', a ∈ S) : ShAt S' C H s d th := ⟨h.ob, h.at_, fun z => h.n1 (hs _ z), fun z => h.n2 (hs _ z)⟩
theorem ShAt.ne {S : List Addr} {C s d : Addr} {H : Hp} {th : Th} (h : ShAt S C H s d th) : s ≠ d := fun e => by
  obtain ⟨dx, h1⟩ := h.ob
  have h2 := h.at_
  rw [← e, h1] at h2
  cases h2
/-- new things on it -/
theorem ShAt.put {S S' : List Addr} {C s d : Addr} {H H' : Hp} {th t : Th} (h : ShAt S C H s d th) (k : Kp S' H H') (h1 : s ∉ S') (e : H' d = some (.dK (dS t))) : ShAt S C H' s d t :=
  ⟨let ⟨dx, q⟩ := h.ob; ⟨dx, k.at q h1⟩, e, h.n1, h.n2⟩
def risT (th : Th) : Th := (srt (keys th)).map fun k => (k, (lk th k).getD .non)
theorem keys_risT (th : Th) : keys (risT th) = srt (keys th) := by unfold keys risT; rw [List.map_map]; exact List.map_id _
def spShInitQ (C : Addr) : Sp := fun vs H Q _ => ∃ (x dx a : Addr) (th : Th), vs = [.ref x, .ref a] ∧ H x = some (.ins C dx []) ∧ H a = some (.dK (dS th)) ∧ (∀ k ∈ keys th, isName k = true) ∧
  ∀ d H', Kp [x] H H' → H d = none → H' x = some (.ins C dx (shF d)) → H' d = some (.dK (dS th)) → Q .non H'
def spShInit (C : Addr) (L : List Addr) : Sp := fun vs H Q E => ∃ (x dx a : Addr) (th : Th), vs = [.ref x, .ref a] ∧ H x = some (.ins C dx []) ∧ H a = some (.dK (dS th)) ∧ (∀ k ∈ keys th, k.length ≤ 1000) ∧
  ((∀ k ∈ keys th, isName k = true) → ∀ d H', Kp [x] H H' → H d = none → H' x = some (.ins C dx (shF d)) → H' d = some (.dK (dS th)) → Q .non H') ∧ ((∃ k ∈ keys th, isName k = false) → Leave L (0, .v .non) [x] E H)
theorem sh_init_q {C : Addr} {L : List Addr} {vs : List V} {H : Hp} {Q : VK} {E : XK} (h : spShInitQ C vs H Q E) : qt (spShInit C L) vs H Q E := by
  obtain ⟨x, dx, a, th, rfl, h1, h2, h3, q⟩ := h
  exact ⟨x, dx, a, th, rfl, h1, h2, fun k hk => by have := name_len (h3 k hk); omega, fun _ => q, fun ⟨k, hk, e⟩ => by rw [h3 k hk] at e; cases e⟩
def spShNames (C : Addr) : Sp := fun vs H Q _ => ∃ (s d : Addr) (th : Th), vs = [.ref s] ∧ ShAt [] C H s d th ∧ th.length < 64 ∧
  ∀ q H', H q = none → Kp [] H H' → H' q = some (.lst ((srt (keys th)).map V.str)) → Q (.ref q) H'
def spShTold (C : Addr) : Sp := fun vs H Q _ => ∃ (s d : Addr) (th : Th), vs = [.ref s] ∧ ShAt [] C H s d th ∧ (keys th).Nodup ∧ th.length < 64 ∧
  ∀ q H', H q = none → Kp [] H H' → H' q = some (.dK (dS (risT th))) → Q (.ref q) H'
def spRising : Sp := fun vs H Q _ => ∃ (d : Addr) (th : Th), vs = [.ref d] ∧ H d = some (.dK (dS th)) ∧ (keys th).Nodup ∧ th.length < 64 ∧
  ∀ q H', H q = none → Kp [] H H' → H' q = some (.dK (dS (risT th))) → Q (.ref q) H'
def needE (th : Th) (n : Str) : Option Err := if isName n = true then (if n ∈ keys th then none else some (2, .v (.str n))) else some (0, .v .non)
def moveE (th : Th) (o n : Str) : Option Err := if isName n = true then (match needE th o with | some e => some e | none => if n ∈ keys th then some (3, .v (.str n)) else none) else some (0, .v .non)
theorem needE_none {th : Th} {n : Str} (h : needE th n = none) : isName n = true ∧ n ∈ keys th := by
  unfold needE at h
  split at h
  · rename_i h1
    split at h
    · rename_i h2; exact ⟨h1, h2⟩
    · cases h
  · cases h
theorem needE_ok {th : Th} {n : Str} (h1 : isName n = true) (h2 : n ∈ keys th) : needE th n = none := by unfold needE; rw [if_pos h1, if_pos h2]
theorem moveE_none {th : Th} {o n : Str} (h : moveE th o n = none) : isName n = true ∧ isName o = true ∧ o ∈ keys th ∧ n ∉ keys th := by
  unfold moveE at h
  split at h
  · rename_i h1
    cases e : needE th o with
    | some e' => rw [e] at h; cases h
    | none =>
      rw [e] at h
      have h : (if n ∈ keys th then some ((3, .v (.str n)) : Err) else none) = none := h
      split at h
      · cases h
      · rename_i h2; exact ⟨h1, (needE_none e).1, (needE_none e).2, h2⟩
  · cases h
theorem moveE_ok {th : Th} {o n : Str} (h1 : isName n = true) (h2 : isName o = true) (h3 : o ∈ keys th) (h4 : n ∉ keys th) : moveE th o n = none := by unfold moveE; rw [if_pos h1, needE_ok h2 h3]; dsimp only; rw [if_neg h4]
def spShNeed (C : Addr) (L : List Addr) : Sp := fun vs H Q E => ∃ (s d : Addr) (th : Th) (n : Str), vs = [.ref s, .str n] ∧ ShAt [] C H s d th ∧ n.length ≤ 1000 ∧
  (needE th n = none → ∀ H', Kp [] H H' → Q .non H') ∧ ∀ e, needE th n = some e → Leave L e [] E H
def spShThing (C : Addr) (L : List Addr) : Sp := fun vs H Q E => ∃ (s d : Addr) (th : Th) (n : Str), vs = [.ref s, .str n] ∧ ShAt [] C H s d th ∧ n.length ≤ 1000 ∧
  (∀ v, needE th n = none → lk th n = some v → ∀ H', Kp [] H H' → Q v H') ∧ ∀ e, needE th n = some e → Leave L e [] E H
def spShMove (C : Addr) (L : List Addr) : Sp := fun vs H Q E => ∃ (s d : Addr) (th : Th) (o n : Str), vs = [.ref s, .str o, .str n] ∧ ShAt [] C H s d th ∧ o.length ≤ 1000 ∧ n.length ≤ 1000 ∧ th.length ≤ 1000 ∧
  (moveE th o n = none → ∀ t H', stepT th (o, some n) = some t → Kp [d] H H' → H' d = some (.dK (dS t)) → Q .non H') ∧ ∀ e, moveE th o n = some e → Leave L e [] E H
def spShDrop (C : Addr) (L : List Addr) : Sp := fun vs H Q E => ∃ (s d : Addr) (th : Th) (o : Str), vs = [.ref s, .str o] ∧ ShAt [] C H s d th ∧ o.length ≤ 1000 ∧
  (needE th o = none → ∀ t H', stepT th (o, none) = some t → Kp [d] H H' → H' d = some (.dK (dS t)) → Q .non H') ∧ ∀ e, needE th o = some e → Leave L e [] E H
/-- a new Shelf's place -/
theorem sh_new {C px dx d : Addr} {H H6 H7 : Hp} {th : Th} {S : List Addr} (l : Live S H) (hpx : H px = none) (k6 : Kp [] H H6) (fd : H6 d = none) (e1 : H7 px = some (.ins C dx (shF d))) (e2 : H7 d = some (.dK (dS th))) : ShAt S C H7 px d th :=
  ⟨⟨dx, e1⟩, e2, l.fresh hpx, l.fresh (k6.free fd (by simp))⟩
end NN
/-! tuples that are walked and cut -/
namespace NN
open PySem PySem.Spec PyProof.Rows L2
theorem pi_tupK {X : Cx} {K : PySem.W.Frag} {tg l : Expr} {tl : TE} (h : X.K = K) (hl : PE X l tl) : PI X tg l (iTup K tl) := by subst h; exact pi_tup hl
theorem slT_K {X : Cx} {K : PySem.W.Frag} (h : X.K = K) : SlR X (rSlT K) := by subst h; exact sl_tup
end NN
namespace NN
open PySem L2
section
variable {K : PySem.W.Frag} {σ : St} {H : Hp} {Q : VK}
theorem g_iTup {tl : TE} {R : It → Hp → Prop} (q : tl σ H fun x H1 => ∃ a, x = .ref a ∧ (∃ xs, SqT K H1 a xs) ∧ R (Itt K a) H1) : iTup K tl σ H R := q
theorem g_iT1 {a : Addr} {xs : List V} {R : Addr → Prop} (h : H a = some (.tup xs)) (q : R a) : ∃ b, V.ref a = .ref b ∧ (∃ xs, SqT K H b xs) ∧ R b := ⟨a, rfl, ⟨xs, SqT.of h⟩, q⟩
theorem g_slT {a : Addr} {xs : List V} {lo hi : Option Int} (h : H a = some (.tup xs)) (hn : ¬ (HT.sIx xs.length 0 lo = 0 ∧ HT.sIx xs.length xs.length hi = xs.length)) (q : ∀ p, H p = none → Q (.ref p) (upd H p (.tup (cutV xs lo hi)))) : rSlT K (.ref a) lo hi H Q := ⟨a, xs, rfl, SqT.of h, hn, q⟩
end
/-! ### what is asked of a shelf: 0 move, 1 drop, 2 thing -/
def kindW : Nat → Str
  | 0 => "move"
  | 1 => "drop"
  | _ => "thing"
def askV (k : Nat) (o n : Str) : List V := if k = 0 then [.str "move", .str o, .str n] else [.str (kindW k), .str o]
def askE (th : Th) (k : Nat) (o n : Str) : Option Err := if k = 0 then moveE th o n else needE th o
def askD (th : Th) (k : Nat) (o n : Str) : D := match askE th k o n with
  | some e => .t [.v (.str (wrdOf e.1)), e.2]
  | none => .t [.v (.str "told"), .v (if k = 2 then (lk th o).getD .non else .non)]
def askT (th : Th) (k : Nat) (o n : Str) : Th := match askE th k o n with
  | some _ => th
  | none => if k = 2 then th else (stepT th (o, if k = 0 then some n else none)).getD th
/-- a text of a name's kind -/
def TxS (o : Str) : Prop := o.length ≤ 100 ∧ fineS o
def spDueA : Sp := fun vs H Q _ => ∃ (m t : Addr) (th : Th) (k : Nat) (o n : Str), vs = [.ref m, .ref t] ∧ H m = some (.dK (dS th)) ∧ H t = some (.tup (askV k o n)) ∧ k ≤ 2 ∧ TxS o ∧ TxS n ∧ th.length ≤ 100 ∧
  ∀ r H', H r = none → Kp [m] H H' → H' m = some (.dK (dS (askT th k o n))) → (∀ S, Live S H → At S H' (.ref r) (askD th k o n)) → Q (.ref r) H'
def spToldA (C : Addr) : Sp := fun vs H Q _ => ∃ (s d t : Addr) (th : Th) (k : Nat) (o n : Str), vs = [.ref s, .ref t] ∧ ShAt [] C H s d th ∧ H t = some (.tup (askV k o n)) ∧ k ≤ 2 ∧ TxS o ∧ TxS n ∧ th.length ≤ 100 ∧
  ∀ r H', H r = none → Kp [d] H H' → H' d = some (.dK (dS (askT th k o n))) → (∀ S, Live S H → At S H' (.ref r) (askD th k o n)) → Q (.ref r) H'
/-- things that may be told -/
structure ThA (th : Th) : Prop where
  nd : (keys th).Nodup
  names : ∀ k ∈ keys th, isName k = true
  len : th.length ≤ 20
  val : ∀ kv ∈ th, ThingV kv.2
def spSameA (C : Addr) : Sp := fun vs H Q _ => ∃ (s d m : Addr) (th : Th) (f : Int), vs = [.ref s, .ref m, .int f] ∧ ShAt [] C H s d th ∧ H m = some (.dK (dS th)) ∧ ThA th ∧ ∀ H', Kp [] H H' → Q (.bl true) H'
def spBegunA (C : Addr) : Sp := fun vs H Q _ => ∃ (st pl : Addr) (nn : List Str), vs = [.ref st, .ref pl] ∧ St1 H st ∧ H pl = some (.lst (nn.map V.str)) ∧ PoolOk nn ∧
  ∀ t s d m th H', H t = none → H s = none → H d = none → H m = none → Kp [st] H H' → St1 H' st → H' t = some (.tup [.ref s, .ref m]) → ShAt [] C H' s d th → H' m = some (.dK (dS th)) → d ≠ m → ThA th → th.length ≤ 7 → Q (.ref t) H'
theorem thing_okV {v : V} (h : ThingV v) : okV v := by
  rcases h with ⟨n, rfl⟩ | ⟨s, rfl, hs⟩
  · exact .inr (.inr (.inl ⟨n, rfl⟩))
  · exact .inr (.inr (.inr ⟨s, rfl, hs⟩))
def risV (th : Th) : List V := (srt (keys th)).map fun k => (lk th k).getD .non
theorem risT_zip (th : Th) : dS (risT th) = zipK (srt (keys th)) (risV th) := by
  rw [zipK_dS]
  congr 1
  unfold risT risV
  induction srt (keys th) with
  | nil => rfl
  | cons k r ih => rw [List.map_cons, List.map_cons, List.zip_cons_cons, ih]
def risD (th : Th) : D := .d (srt (keys th)) ((risV th).map D.v)
theorem risD_at {S : List Addr} {H : Hp} {a : Addr} {th : Th} (n : a ∉ S) (h : H a = some (.dK (dS (risT th)))) : At S H (.ref a) (risD th) :=
  .d n (by rw [← risT_zip]; exact h) (by rw [List.length_map]; unfold risV; rw [List.length_map]) (AtL.vals _)
theorem risD_ok {th : Th} (h : ThA th) (n : Nat) : okD (n + 1) (risD th) :=
  .d (by unfold risV; rw [List.length_map]) (by rw [len_srt]; have := h.len; simp [keys]; omega) ((srt_perm _).nodup_iff.mpr h.nd) (fun k hk => name_fine (h.names k (mem_srt.mp hk))) fun w hw => by
    unfold risV at hw
    obtain ⟨k, hk, rfl⟩ := List.mem_map.mp hw
    obtain ⟨v, hv⟩ := lk_of_key (mem_srt.mp hk)
    rw [hv]
    exact thing_okV (h.val _ (lk_mem hv))
theorem strs_okD {xs : List Str} (hl : xs.length ≤ 1000) (h : ∀ x ∈ xs, fineS x) (n : Nat) : okD (n + 1) (.l (xs.map fun x => D.v (.str x))) := .l (by rw [List.length_map]; exact hl) fun d hd => by
  obtain ⟨x, hx, rfl⟩ := List.mem_map.mp hd
  exact .v (.inr (.inr (.inr ⟨x, rfl, h x hx⟩)))
theorem strs_At {S : List Addr} {H : Hp} {a : Addr} {xs : List Str} (n : a ∉ S) (h : H a = some (.lst (xs.map V.str))) : At S H (.ref a) (.l (xs.map fun x => D.v (.str x))) := .l n h (by
  have := AtL.vals (S := S) (H := H) (xs.map V.str)
  rwa [List.map_map] at this)
theorem stepT_ok {th t : Th} {d : Dd} (h : ThA th) (hn : ∀ n, d.2 = some n → isName n = true) (e : stepT th d = some t) : ThA t ∧ t.length ≤ th.length := by
  obtain ⟨o, n⟩ := d
  unfold stepT at e
  cases hv : lk th o with
  | none => rw [hv] at e; cases e
  | some v =>
    rw [hv] at e
    have hm := lk_mem hv
    have dl : (drop th o).length + 1 ≤ th.length := by
      have h1 : (drop th o).length < th.length := by
        refine Nat.lt_of_le_of_ne (List.length_filter_le ..) fun h2 => ?_
        have := List.length_filter_eq_length_iff.mp h2 _ hm
        simp at this
      omega
    have hd : ThA (drop th o) := ⟨nd_keys_drop h.nd, fun k hk => h.names k (mem_keys_drop.mp hk).1, by have := h.len; omega, fun kv hkv => h.val kv (List.mem_filter.mp hkv).1⟩
    cases n with
    | none => cases e; exact ⟨hd, by show (drop th o).length ≤ th.length; omega⟩
    | some n =>
      have e : (if n ∈ keys th then none else some (put (drop th o) n v)) = some t := e
      split at e
      · cases e
      · rename_i hnk
        cases e
        have hnd : n ∉ keys (drop th o) := fun hk => hnk (mem_keys_drop.mp hk).1
        have hp : put (drop th o) n v = drop th o ++ [(n, v)] := put_new _ hnd
        rw [hp]
        refine ⟨⟨?_, fun k hk => ?_, ?_, fun kv hkv => ?_⟩, ?_⟩
        · rw [← hp]; exact nd_keys_put hd.nd
        · unfold keys at hk
          rw [List.map_append] at hk
          rcases List.mem_append.mp hk with hk | hk
          · exact hd.names k hk
          · simp at hk; rw [hk]; exact hn n rfl
        · rw [List.length_append, List.length_singleton]; have := h.len; omega
        · rcases List.mem_append.mp hkv with hkv | hkv
          · exact hd.val kv hkv
          · rw [List.mem_singleton.mp hkv]; exact (h.val (o, v) hm : ThingV v)
        · rw [List.length_append, List.length_singleton]; omega
theorem askT_ok {th : Th} {k : Nat} {o n : Str} (h : ThA th) : ThA (askT th k o n) ∧ (askT th k o n).length ≤ th.length := by
  unfold askT
  cases e : askE th k o n with
  | some _ => exact ⟨h, Nat.le_refl _⟩
  | none =>
    dsimp only
    by_cases h2 : k = 2
    · rw [if_pos h2]; exact ⟨h, Nat.le_refl _⟩
    · rw [if_neg h2]
      cases hs : stepT th (o, if k = 0 then some n else none) with
      | none => exact ⟨h, Nat.le_refl _⟩
      | some t =>
        refine stepT_ok h (fun m hm => ?_) hs
        by_cases h0 : k = 0
        · subst h0
          have hm : some n = some m := hm
          cases hm
          unfold askE at e
          rw [if_pos rfl] at e
          exact (moveE_none e).1
        · have hm : (if k = 0 then some n else none) = some m := hm
          rw [if_neg h0] at hm; cases hm
theorem askE_fine {th : Th} {k : Nat} {o n : Str} {e : Err} (h1 : fineS o) (h2 : fineS n) (h : askE th k o n = some e) : ∃ v, e.2 = .v v ∧ okV v := by
  have sv : ∀ {s : Str}, fineS s → okV (.str s) := fun h => .inr (.inr (.inr ⟨_, rfl, h⟩))
  have nd : ∀ {e : Err}, needE th o = some e → ∃ v, e.2 = .v v ∧ okV v := fun {e} h => by
    unfold needE at h
    split at h
    · split at h
      · cases h
      · cases h; exact ⟨_, rfl, sv h1⟩
    · cases h; exact ⟨_, rfl, .inl rfl⟩
  unfold askE at h
  split at h
  · unfold moveE at h
    split at h
    · cases e' : needE th o with
      | some e2 => rw [e'] at h; cases h; exact nd e'
      | none =>
        rw [e'] at h
        have h : (if n ∈ keys th then some ((3, .v (.str n)) : Err) else none) = some e := h
        split at h
        · cases h; exact ⟨_, rfl, sv h2⟩
        · cases h
    · cases h; exact ⟨_, rfl, .inl rfl⟩
  · exact nd h
theorem askD_ok {th : Th} {k : Nat} {o n : Str} (h : ThA th) (h1 : fineS o) (h2 : fineS n) : okD 3 (askD th k o n) := by
  unfold askD
  have sv : ∀ {s : Str}, fineS s → okD 2 (.v (.str s)) := fun h => .v (.inr (.inr (.inr ⟨_, rfl, h⟩)))
  cases e : askE th k o n with
  | some e' =>
    obtain ⟨v, hv, ok⟩ := askE_fine h1 h2 e
    refine .t (by simp) fun d hd => ?_
    rcases List.mem_cons.mp hd with rfl | hd
    · exact sv (wrd_fine _)
    · rw [List.mem_singleton.mp hd, hv]; exact .v ok
  | none =>
    refine .t (by simp) fun d hd => ?_
    rcases List.mem_cons.mp hd with rfl | hd
    · exact sv (show PyData.strOk "told" = true by decide +kernel)
    · rw [List.mem_singleton.mp hd]
      refine .v ?_
      split
      · cases hv : lk th o with
        | none => exact .inl rfl
        | some v => exact thing_okV (h.val _ (lk_mem hv))
      · exact .inl rfl
end NN
/-! works -/
namespace NN
open PySem L2
theorem hne {H : Hp} {a b : Addr} {o u : HO} (h : H a = some o) (h' : H b = some u) (d : o ≠ u) : a ≠ b := fun e => by rw [e, h'] at h; exact d (Option.some.inj h).symm
theorem Kp.dropAll {S : List Addr} {H H1 H' : Hp} (k0 : Kp [] H H1) (hf : ∀ a ∈ S, H a = none) (k : Kp S H1 H') : Kp [] H H' := fun a o e n => k a o (k0 a o e n) fun z => by rw [hf a z] at e; cases e
theorem putF_lt {f : Str} {v : V} {fs : List (Str × V)} {n : Nat} (h : 0 < n) : fs.length < n → (putF f v fs).length < n + 1 := by
  have key : ∀ fs : List (Str × V), (putF f v fs).length ≤ fs.length + 1 := by
    intro fs
    induction fs with
    | nil => exact Nat.le_refl _
    | cons p r ih =>
      obtain ⟨g, x⟩ := p
      unfold putF
      split
      · simp
      · simp only [List.length_cons]; omega
  intro h2
  have := key fs
  omega
def ddS (d : Dd) : List Str := match d.2 with
  | none => ["drop", d.1]
  | some n => ["move", d.1, n]
theorem ddV_S (d : Dd) : ddV d = (ddS d).map V.str := by
  obtain ⟨o, n⟩ := d
  cases n <;> rfl
/-- a deed's row -/
def rowD (d : Dd) : Str := Txt.join " " (ddS d)
def firstL (sp : Option Str) : Str := match sp with
  | none => "plan"
  | some s => "plan " ++ s
noncomputable def headL (prs : Pr) (sp : Option Str) : List Str := firstL sp :: ((byOlds prs).map rowS ++ [("begin" : Str)])
/-- places that are no tuples -/
def NoT (H : Hp) (S : List Addr) : Prop := ∀ a ∈ S, ∀ xs, H a ≠ some (.tup xs)
theorem NoT.nil (H : Hp) : NoT H [] := fun _ h => nomatch h
theorem NoT.cons {H : Hp} {S : List Addr} {a : Addr} {o : HO} (h : H a = some o) (d : ∀ xs, o ≠ .tup xs) (n : NoT H S) : NoT H (a :: S) := fun b hb xs => by
  rcases List.mem_cons.mp hb with rfl | hb
  · rw [h]; exact fun e => d xs (Option.some.inj e)
  · exact n b hb xs
theorem NoT.consF {H : Hp} {S : List Addr} {a : Addr} (h : H a = none) (n : NoT H S) : NoT H (a :: S) := fun b hb xs => by
  rcases List.mem_cons.mp hb with rfl | hb
  · rw [h]; exact fun e => nomatch e
  · exact n b hb xs
theorem NoT.st {H : Hp} {st : Addr} (h : St1 H st) : NoT H [st] := let ⟨_, e⟩ := h; .cons e (fun _ q => by cases q) (.nil H)
/-- deeds as tuples, in a list at t -/
structure TdAt (H : Hp) (t : Addr) (ds : List Dd) : Prop where
  ex : ∃ ps : List Addr, H t = some (.lst (ps.map V.ref)) ∧ ps.length = ds.length ∧ ∀ (i : Nat) (p : Addr) (d : Dd), ps[i]? = some p → ds[i]? = some d → H p = some (.tup (ddV d))
theorem TdAt.kp {S : List Addr} {H H' : Hp} {t : Addr} {ds : List Dd} (h : TdAt H t ds) (k : Kp S H H') (ht : t ∉ S) (n : NoT H S) : TdAt H' t ds := by
  obtain ⟨ps, h1, h2, h3⟩ := h.ex
  refine ⟨ps, k.at h1 ht, h2, fun i p d hp hd => ?_⟩
  have := h3 i p d hp hd
  exact k.at this fun z => n p z _ this
theorem TdAt.kp0 {H H' : Hp} {t : Addr} {ds : List Dd} (h : TdAt H t ds) (k : Kp [] H H') : TdAt H' t ds := h.kp k (by simp) (.nil H)
theorem TdAt.of {S : List Addr} {H : Hp} {t : Addr} {ws : List V} : ∀ {ds : List Dd}, H t = some (.lst ws) → AtL S H ws (ds.map encDd) → TdAt H t ds := by
  have key : ∀ (ds : List Dd) (ws : List V), AtL S H ws (ds.map encDd) → ∃ ps : List Addr, ws = ps.map V.ref ∧ ps.length = ds.length ∧ ∀ (i : Nat) (p : Addr) (d : Dd), ps[i]? = some p → ds[i]? = some d → H p = some (.tup (ddV d)) := by
    intro ds
    induction ds with
    | nil => intro ws h; cases h; exact ⟨[], rfl, rfl, fun i p d hp => by simp at hp⟩
    | cons d ds ih =>
      intro ws h
      cases h with
      | @cons x0 _ _ _ h1 h2 =>
        obtain ⟨ps, rfl, hl, hp⟩ := ih _ h2
        obtain ⟨o, n⟩ := d
        have : ∃ p, x0 = V.ref p ∧ H p = some (.tup (ddV (o, n))) := by
          cases n with
          | none =>
            obtain ⟨t, ws, rfl, _, ht, hws⟩ := At.isT (ds := [.v (.str "drop"), .v (.str o)]) h1
            have e : ws = [.str "drop", .str o] := AtL.vals_eq (ws := [.str "drop", .str o]) hws
            subst e
            exact ⟨t, rfl, ht⟩
          | some n =>
            obtain ⟨t, ws, rfl, _, ht, hws⟩ := At.isT (ds := [.v (.str "move"), .v (.str o), .v (.str n)]) h1
            have e : ws = [.str "move", .str o, .str n] := AtL.vals_eq (ws := [.str "move", .str o, .str n]) hws
            subst e
            exact ⟨t, rfl, ht⟩
        obtain ⟨p, rfl, hpp⟩ := this
        refine ⟨p :: ps, rfl, by simp [hl], fun i q d hq hd => ?_⟩
        cases i with
        | zero => cases hq; cases hd; exact hpp
        | succ i => exact hp i q d (by simpa using hq) (by simpa using hd)
  intro ds ht h
  obtain ⟨ps, rfl, hl, hp⟩ := key ds ws h
  exact ⟨ps, ht, hl, hp⟩
theorem TdAt.get {H : Hp} {t : Addr} {ds : List Dd} (h : TdAt H t ds) {i : Nat} {d : Dd} (hd : ds[i]? = some d) : ∃ (ws : List V) (p : Addr), H t = some (.lst ws) ∧ ws.length = ds.length ∧ ws[i]? = some (.ref p) ∧ H p = some (.tup (ddV d)) := by
  obtain ⟨ps, h1, h2, h3⟩ := h.ex
  have hi := (List.getElem?_eq_some_iff.mp hd).1
  have hp : ps[i]? = some (ps[i]'(by omega)) := List.getElem?_eq_getElem _
  exact ⟨_, _, h1, by rw [List.length_map]; exact h2, by rw [List.getElem?_map, hp]; rfl, h3 i _ d hp hd⟩
theorem TdAt.lst {H : Hp} {t : Addr} {ds : List Dd} (h : TdAt H t ds) : ∃ ws : List V, H t = some (.lst ws) ∧ ws.length = ds.length := by
  obtain ⟨ps, h1, h2, _⟩ := h.ex
  exact ⟨_, h1, by rw [List.length_map]; exact h2⟩
def wkF (s t r : Addr) (i : Nat) (b : Bool) : List (Str × V) := [("shelf", .ref s), ("todo", .ref t), ("rows", .ref r), ("place", .int i), ("is_written", .bl b)]
structure WkAt (C : Addr) (H : Hp) (w s t r : Addr) (ds : List Dd) (rows : List Str) (i : Nat) (b : Bool) : Prop where
  ob : ∃ dx, H w = some (.ins C dx (wkF s t r i b))
  td : TdAt H t ds
  rw : H r = some (.lst (rows.map V.str))
theorem WkAt.kp {C : Addr} {S : List Addr} {H H' : Hp} {w s t r : Addr} {ds : List Dd} {rows : List Str} {i : Nat} {b : Bool} (h : WkAt C H w s t r ds rows i b) (k : Kp S H H') (hw : w ∉ S) (ht : t ∉ S) (hr : r ∉ S) (n : NoT H S) : WkAt C H' w s t r ds rows i b :=
  ⟨let ⟨dx, e⟩ := h.ob; ⟨dx, k.at e hw⟩, h.td.kp k ht n, k.at h.rw hr⟩
theorem WkAt.kp0 {C : Addr} {H H' : Hp} {w s t r : Addr} {ds : List Dd} {rows : List Str} {i : Nat} {b : Bool} (h : WkAt C H w s t r ds rows i b) (k : Kp [] H H') : WkAt C H' w s t r ds rows i b := h.kp k (by simp) (by simp) (by simp) (.nil H)
/-- deeds of names -/
def DdN (ds : List Dd) : Prop := ∀ d ∈ ds, isName d.1 = true ∧ ∀ n, d.2 = some n → isName n = true
/-- a work's state -/
structure Wst where
  rows : List Str
  i : Nat
  b : Bool
  th : Th
def halfW (ds : List Dd) (x : Wst) : Option (Str × Wst) := match ds[x.i]? with
  | none => some ("end", x)
  | some d => if x.b = true then (stepT x.th d).map fun t => ("deed", ⟨x.rows, x.i + 1, false, t⟩) else some ("row", ⟨x.rows ++ [rowD d], x.i, true, x.th⟩)
def spWkInit (C : Addr) : Sp := fun vs H Q _ => ∃ (x dx s t r : Addr) (i : Nat), vs = [.ref x, .ref s, .ref t, .ref r, .int i] ∧ H x = some (.ins C dx []) ∧
  ∀ H', Kp [x] H H' → H' x = some (.ins C dx (wkF s t r i false)) → Q .non H'
def spWkLog (C : Addr) : Sp := fun vs H Q _ => ∃ (w s t r : Addr) (ds : List Dd) (rows : List Str) (i : Nat) (b : Bool), vs = [.ref w] ∧ WkAt C H w s t r ds rows i b ∧
  ∀ q H', H q = none → Kp [] H H' → H' q = some (.lst (rows.map V.str)) → Q (.ref q) H'
structure WkLim (ds : List Dd) (x : Wst) : Prop where
  nm : DdN ds
  dl : ds.length ≤ 7000
  il : x.i ≤ ds.length
  rl : x.rows.length ≤ 20000
  tl : x.th.length ≤ 100
def spHalf (CW CS : Addr) : Sp := fun vs H Q _ => ∃ (w s d t r : Addr) (ds : List Dd) (x y : Wst) (wd : Str), vs = [.ref w] ∧ WkAt CW H w s t r ds x.rows x.i x.b ∧ ShAt [] CS H s d x.th ∧ WkLim ds x ∧ r ≠ t ∧ halfW ds x = some (wd, y) ∧
  ∀ H', Kp [w, r, d] H H' → WkAt CW H' w s t r ds y.rows y.i y.b → ShAt [] CS H' s d y.th → Q (.str wd) H'
def spDoDeed (CS : Addr) : Sp := fun vs H Q _ => ∃ (s d p : Addr) (th t : Th) (dd : Dd), vs = [.ref s, .ref p] ∧ ShAt [] CS H s d th ∧ H p = some (.tup (ddV dd)) ∧ isName dd.1 = true ∧ (∀ n, dd.2 = some n → isName n = true) ∧ th.length ≤ 1000 ∧ stepT th dd = some t ∧
  ∀ H', Kp [d] H H' → H' d = some (.dK (dS t)) → Q .non H'
def spHeadOf (CP : Addr) : Sp := fun vs H Q _ => ∃ (p : Addr) (prs : Pr) (sp : Option Str), vs = [.ref p, oV sp] ∧ PlanAt [] CP H p prs ∧ PlOk prs ∧ (∀ s, sp = some s → s.length ≤ 1000) ∧
  ∀ q H', H q = none → Kp [] H H' → H' q = some (.lst ((headL prs sp).map V.str)) → Q (.ref q) H'
def spBegun (CW CP CS : Addr) (L : List Addr) : Sp := fun vs H Q E => ∃ (s d p : Addr) (th : Th) (prs : Pr) (sp : Option Str), vs = [.ref s, .ref p, oV sp] ∧ ShAt [] CS H s d th ∧ th.length < 64 ∧ PlanAt [] CP H p prs ∧ PlOk prs ∧ (∀ s, sp = some s → s.length ≤ 1000) ∧
  (deedsE prs (srt (keys th)) sp = none → ∀ w t r H', H w = none → H t = none → H r = none → Kp [] H H' → w ≠ t → w ≠ r → t ≠ r → WkAt CW H' w s t r (deedsL prs sp) (headL prs sp) 0 false → Q (.ref w) H') ∧ ∀ e, deedsE prs (srt (keys th)) sp = some e → Leave L e [] E H
theorem step_key {th t : Th} {dd : Dd} (h : stepT th dd = some t) : dd.1 ∈ keys th ∧ ∀ n, dd.2 = some n → n ∉ keys th := by
  obtain ⟨o, n⟩ := dd
  unfold stepT at h
  cases hv : lk th o with
  | none => rw [hv] at h; cases h
  | some v =>
    rw [hv] at h
    refine ⟨lk_some_key hv, ?_⟩
    cases n with
    | none => intro m hm; cases hm
    | some n =>
      have h : (if n ∈ keys th then none else some (put (drop th o) n v)) = some t := h
      intro m hm
      cases hm
      intro hk
      rw [if_pos hk] at h
      cases h
end NN
/-! works that go half by half -/
namespace NN
open PySem L2
def spHeadL : Sp := fun vs H Q _ => ∃ (ax : Addr) (prs : Pr) (sp : Option Str), vs = [.ref ax, oV sp] ∧ At [] H (.ref ax) (encPs prs) ∧ PlOk prs ∧ (∀ s, sp = some s → s.length ≤ 1000) ∧
  ∀ q H', H q = none → Kp [] H H' → H' q = some (.lst ((headL prs sp).map V.str)) → Q (.ref q) H'
def spLooks (CW CS : Addr) : Sp := fun vs H Q _ => ∃ (wk s d t r l m : Addr) (ds : List Dd) (rows : List Str) (i : Nat) (b : Bool) (th : Th), vs = [.ref wk, .ref s, .ref l, .ref m] ∧ WkAt CW H wk s t r ds rows i b ∧ ShAt [] CS H s d th ∧
  H l = some (.lst (rows.map V.str)) ∧ H m = some (.dK (dS th)) ∧ ThA th ∧ rows.length ≤ 1000 ∧ (∀ x ∈ rows, fineS x) ∧ ∀ H', Kp [] H H' → Q (.bl true) H'
def spGoes (CW CS : Addr) : Sp := fun vs H Q _ => ∃ (wk s d t r ax m rl : Addr) (ds : List Dd) (prs : Pr) (sp : Option Str) (th te : Th), vs = [.ref wk, .ref s, .ref ax, oV sp, .ref m, .ref rl] ∧ WkAt CW H wk s t r ds (headL prs sp) 0 false ∧ ShAt [] CS H s d th ∧ r ≠ t ∧ m ≠ d ∧ rl ≠ r ∧
  At [] H (.ref ax) (encPs prs) ∧ PlOk prs ∧ SpF sp ∧ H m = some (.dK (dS th)) ∧ TdAt H rl ds ∧ ThA th ∧ th.length ≤ 12 ∧ DdN ds ∧ ds.length ≤ 400 ∧ playT th ds = some te ∧
  ∀ H', Kp [wk, r, d] H H' → Q (.bl true) H'
theorem cps_sp : (" " : Str).cps.toList = [32] := by decide +kernel
theorem rowD_eq (d : Dd) : rowD d = match d.2 with | none => ("drop " : Str) ++ d.1 | some n => (("move " : Str) ++ d.1) ++ (" " ++ n) := by
  obtain ⟨o, n⟩ := d
  cases n with
  | none =>
    show Builtin.Str.glued " " ["drop", o] = _
    rw [StrLaws.glued_eq_join]
    show (("drop" : Str) ++ " ") ++ o = ("drop " : Str) ++ o
    have : (("drop" : Str) ++ " ") = "drop " := by decide +kernel
    rw [this]
  | some n =>
    show Builtin.Str.glued " " ["move", o, n] = _
    rw [StrLaws.glued_eq_join]
    show (("move" : Str) ++ " ") ++ ((o ++ " ") ++ n) = (("move " : Str) ++ o) ++ (" " ++ n)
    have : (("move" : Str) ++ " ") = "move " := by decide +kernel
    rw [this]
    apply str_ext
    simp [app_list]
theorem rowD_fine {d : Dd} (h1 : isName d.1 = true) (h2 : ∀ n, d.2 = some n → isName n = true) : fineS (rowD d) := fine_of fun c hc => by
  have hd : ("drop " : Str).cps.toList = [100, 114, 111, 112, 32] := by decide +kernel
  have hm : ("move " : Str).cps.toList = [109, 111, 118, 101, 32] := by decide +kernel
  have name : ∀ {z : Str}, isName z = true → ∀ c ∈ z.cps.toList, c < 1114112 := fun hz c hc => fine_lt (name_fine hz) c hc
  rw [rowD_eq] at hc
  obtain ⟨o, n⟩ := d
  cases n with
  | none =>
    rw [app_list, hd] at hc
    rcases List.mem_append.mp hc with hc | hc
    · simp at hc; omega
    · exact name h1 c hc
  | some n =>
    rw [app_list, app_list, app_list, hm, cps_sp] at hc
    rcases List.mem_append.mp hc with hc | hc
    · rcases List.mem_append.mp hc with hc | hc
      · simp at hc; omega
      · exact name h1 c hc
    · rcases List.mem_append.mp hc with hc | hc
      · simp at hc; omega
      · exact name (h2 n rfl) c hc
theorem rowS_fine' {p : Str × Option Str} (h1 : isName p.1 = true) (h2 : ∀ n, p.2 = some n → isName n = true) : fineS (rowS p) := fine_of fun c hc => fine_lt (rowS_fine h1 h2) c (by rw [app_list]; exact List.mem_append_left _ hc)
theorem first_fine {sp : Option Str} (h : ∀ s, sp = some s → fineS s) : fineS (firstL sp) := by
  cases sp with
  | none => exact (show PyData.strOk "plan" = true by decide +kernel)
  | some s =>
    refine fine_of fun c hc => ?_
    rw [show firstL (some s) = "plan " ++ s from rfl, app_list, show ("plan " : Str).cps.toList = [112, 108, 97, 110, 32] by decide +kernel] at hc
    rcases List.mem_append.mp hc with hc | hc
    · simp at hc; omega
    · exact fine_lt (h s rfl) c hc
theorem headL_fine {prs : Pr} {sp : Option Str} (pl : PlOk prs) (h : SpF sp) : ∀ x ∈ headL prs sp, fineS x := fun x hx => by
  unfold headL at hx
  rcases List.mem_cons.mp hx with rfl | hx
  · exact first_fine fun s hs => (h s hs).2
  · rcases List.mem_append.mp hx with hx | hx
    · obtain ⟨p, hp, rfl⟩ := List.mem_map.mp hx
      exact rowS_fine' (byOlds_names pl p hp).1 (byOlds_names pl p hp).2
    · rw [List.mem_singleton.mp hx]; exact (show PyData.strOk "begin" = true by decide +kernel)
theorem headL_len {prs : Pr} {sp : Option Str} (pl : PlOk prs) : (headL prs sp).length ≤ 42 := by
  unfold headL
  rw [List.length_cons, List.length_append, List.length_map, (byOlds_self pl.ndo).length_eq, List.length_singleton]
  have := pl.len
  omega
theorem deeds_ddN {prs : Pr} {sp : Option Str} (pl : PlOk prs) (h : rings prs ≠ [] → ∃ s, sp = some s ∧ isName s = true) : DdN (deedsL prs sp) := fun d hd => by
  have hin : ∀ x ∈ deedsL prs sp, DdIn (keys prs ++ news prs ++ (if rings prs = [] then [] else [spS sp])) x := deeds_in (fun o ho => by simp [ho]) (fun n hn => by simp [hn]) (fun hr => by simp [hr])
  have hN : ∀ n ∈ keys prs ++ news prs ++ (if rings prs = [] then [] else [spS sp]), isName n = true := fun n hn => by
    rcases List.mem_append.mp hn with hn | hn
    · rcases List.mem_append.mp hn with hn | hn
      · exact pl.olds n hn
      · exact pl.news n hn
    · split at hn
      · cases hn
      · rename_i hr
        obtain ⟨s, rfl, hs⟩ := h hr
        rw [List.mem_singleton.mp hn]; exact hs
  have := hin d hd
  exact ⟨hN _ this.1, fun n hn => hN n (this.2 n hn)⟩
theorem playT_one {th t : Th} {d : Dd} (h : stepT th d = some t) : playT th [d] = some t := by
  show (stepT th d).bind (fun t => some t) = some t
  rw [h]; rfl
theorem playT_ok : ∀ {ds : List Dd} {th t : Th}, ThA th → DdN ds → playT th ds = some t → ThA t ∧ t.length ≤ th.length
  | [], th, t, h, _, e => by cases e; exact ⟨h, Nat.le_refl _⟩
  | d :: r, th, t, h, hn, e => by
    have e : (stepT th d).bind (fun t => playT t r) = some t := e
    obtain ⟨m, h1, h2⟩ := Option.bind_eq_some_iff.mp e
    have ⟨a1, a2⟩ := stepT_ok h (hn d (List.mem_cons_self ..)).2 h1
    have ⟨b1, b2⟩ := playT_ok a1 (fun x hx => hn x (List.mem_cons_of_mem _ hx)) h2
    exact ⟨b1, Nat.le_trans b2 a2⟩
theorem DdN.take {ds : List Dd} (h : DdN ds) (i : Nat) : DdN (ds.take i) := fun d hd => h d (List.mem_of_mem_take hd)
end NN
/-! what is refused of works -/
namespace NN
open PySem L2
noncomputable def dueK (prs : Pr) (nm : List Str) (sp : Option Str) : D := match deedsE prs nm sp with
  | none => .v .non
  | some e => .t [.v (.str (wrdOf e.1)), .l [e.2]]
def spDueK : Sp := fun vs H Q _ => ∃ (ax b : Addr) (prs : Pr) (nm : List Str) (sp : Option Str), vs = [.ref ax, .ref b, oV sp] ∧ At [] H (.ref ax) (encPs prs) ∧ PlOk prs ∧ H b = some (.lst (nm.map V.str)) ∧ Nms nm ∧ SpF sp ∧
  ∀ x H', Kp [] H H' → (∀ S, Live S H → At S H' x (dueK prs nm sp)) → Q x H'
def spToldK (CP CS : Addr) : Sp := fun vs H Q _ => ∃ (s d p : Addr) (th : Th) (prs : Pr) (sp : Option Str), vs = [.ref s, .ref p, oV sp] ∧ ShAt [] CS H s d th ∧ th.length < 64 ∧ PlanAt [] CP H p prs ∧ PlOk prs ∧ SpF sp ∧
  ∀ x H', Kp [] H H' → (∀ S, Live S H → At S H' x (dueK prs (srt (keys th)) sp)) → Q x H'
theorem deedsE_same {prs : Pr} {a b : List Str} {sp : Option Str} (h : ∀ x, x ∈ a ↔ x ∈ b) : deedsE prs a sp = deedsE prs b sp := by
  unfold deedsE fitE lostOf takenOf spareE
  simp only [h]
theorem dueK_same {prs : Pr} {a b : List Str} {sp : Option Str} (h : ∀ x, x ∈ a ↔ x ∈ b) : dueK prs a sp = dueK prs b sp := by unfold dueK; rw [deedsE_same h]
theorem dueK_fine {prs : Pr} {nm : List Str} {sp : Option Str} (pl : PlOk prs) (hs : SpF sp) : fineD (dueK prs nm sp) := by
  unfold dueK
  cases h : deedsE prs nm sp with
  | none => exact FineN.fine (n := 0) .non (by decide)
  | some e =>
    refine FineN.fine (n := 3) (FineN.t (n := 2) fun d hd => ?_) (by decide)
    rcases List.mem_cons.mp hd with rfl | hd
    · exact .str (wrd_fine _)
    · rw [List.mem_singleton.mp hd]
      exact FineN.l (n := 1) fun d hd => by rw [List.mem_singleton.mp hd]; exact deedsE_fine pl hs h
/-- the first name of two letters that is none of some -/
def spareN (nm : List Str) : Str := ⟨#[97]⟩ ++ ⟨#[(letters.cps.toList.find? fun b => decide ((⟨#[97]⟩ ++ ⟨#[b]⟩ : Str) ∉ nm)).getD 0]⟩
def spSpare2 : Sp := fun vs H Q _ => ∃ (a : Addr) (nm : List Str), vs = [.ref a] ∧ H a = some (.lst (nm.map V.str)) ∧ nm.length ≤ 25 ∧ ∀ z, isName z = true → z.length = 2 → z ∉ nm → z = spareN nm → Q (.str z) H
theorem spare_weak {vs : List V} {H : Hp} {Q : VK} {E : XK} (h : spSpare vs H Q E) : spSpare2 vs H Q E := by
  obtain ⟨a, nm, rfl, ha, hl, q⟩ := h
  exact ⟨a, nm, rfl, ha, hl, fun z h1 h2 h3 _ => q z h1 h2 h3⟩
theorem spareN_at {nm : List Str} {j b : Nat} (hb : letters.cps.toList[j]? = some b) (hin : ∀ b ∈ letters.cps.toList.take j, (⟨#[97]⟩ ++ ⟨#[b]⟩ : Str) ∈ nm) (hz : (⟨#[97]⟩ ++ ⟨#[b]⟩ : Str) ∉ nm) : (⟨#[97]⟩ ++ ⟨#[b]⟩ : Str) = spareN nm := by
  unfold spareN
  have : letters.cps.toList.find? (fun b => decide ((⟨#[97]⟩ ++ ⟨#[b]⟩ : Str) ∉ nm)) = some b := find_at (fun i y hi hy => by
    have : y ∈ letters.cps.toList.take j := List.mem_of_getElem? (i := i) (by rw [List.getElem?_take_of_lt hi]; exact hy)
    simpa using hin y this) hb (by simpa using hz)
  rw [this]; rfl
def spRefused : Sp := fun vs H Q _ => ∃ (st pl ax m : Addr) (nn : List Str) (prs : Pr) (th : Th), vs = [.ref st, .ref pl, .ref ax, .ref m] ∧ St1 H st ∧ H pl = some (.lst (nn.map V.str)) ∧ PoolOk nn ∧ At [st] H (.ref ax) (encPs prs) ∧ PlOk prs ∧ H m = some (.dK (dS th)) ∧ ThA th ∧ th.length ≤ 7 ∧
  ∀ H', Kp [st] H H' → St1 H' st → Q (.bl true) H'
theorem ThA.drop {th : Th} (h : ThA th) (o : Str) : ThA (drop th o) ∧ (NN.drop th o).length ≤ th.length :=
  ⟨⟨nd_keys_drop h.nd, fun k hk => h.names k (mem_keys_drop.mp hk).1, Nat.le_trans (List.length_filter_le ..) h.len, fun kv hkv => h.val kv (List.mem_filter.mp hkv).1⟩, List.length_filter_le ..⟩
theorem ThA.put {th : Th} (h : ThA th) {o : Str} (ho : isName o = true) (hn : o ∉ keys th) {v : V} (hv : ThingV v) (hl : th.length < 20) : ThA (put th o v) ∧ (NN.put th o v).length = th.length + 1 := by
  have hp : NN.put th o v = th ++ [(o, v)] := put_new _ hn
  rw [hp]
  refine ⟨⟨?_, fun k hk => ?_, ?_, fun kv hkv => ?_⟩, by simp⟩
  · rw [← hp]; exact nd_keys_put h.nd
  · unfold keys at hk
    rw [List.map_append] at hk
    rcases List.mem_append.mp hk with hk | hk
    · exact h.names k hk
    · simp at hk; rw [hk]; exact ho
  · rw [List.length_append, List.length_singleton]; omega
  · rcases List.mem_append.mp hkv with hkv | hkv
    · exact h.val kv hkv
    · rw [List.mem_singleton.mp hkv]; exact hv
theorem eqNil_strs {K : PySem.W.Frag} {H : Hp} {Q : VK} {a b : Addr} {xs : List Str} (ha : H a = some (.lst (xs.map V.str))) (hb : H b = some (.lst [])) (fx : ∀ y ∈ xs, fineS y) (q : Q (.bl xs.isEmpty) H) : rEqU K (.ref a) (.ref b) H Q :=
  g_eqStrs (ys := []) ha hb fx (by simp) (by cases xs <;> exact q)
end NN
/-! logs that are read -/
namespace NN
open PySem L2
def spareOf (row : Str) : Option (Option Str) := if row = "plan" then some none else match spl 32 row with
  | [a, b] => if a = "plan" ∧ isName b = true then some (some b) else none
  | _ => none
def beginAt (log : List Str) : Nat := log.findIdx fun r => decide (r = ("begin" : Str))
def badAt (ds : List Dd) (rows : List Str) : Option Nat := (List.range rows.length).find? fun i => !decide (rows[i]? = (ds[i]?).map rowD)
noncomputable def readL (log : List Str) : (Pr × Option Str × Nat) ⊕ Nat := match log[0]? with
  | none => .inr 0
  | some r0 => match spareOf r0 with
    | none => .inr 0
    | some sp => match rdL sp [] ((log.take (beginAt log)).drop 1) with
      | .inr k => .inr (1 + k)
      | .inl prs => if beginAt log = log.length ∨ (sp = none ∧ rings prs ≠ []) then .inr (beginAt log) else match badAt (deedsL prs sp) (log.drop (beginAt log + 1)) with
        | some k => .inr (beginAt log + 1 + k)
        | none => .inl (prs, sp, beginAt log)
structure LogOk (log : List Str) : Prop where
  len : log.length ≤ 40
  row : ∀ r ∈ log, r.length ≤ 1000 ∧ fineS r
def rdF (t : Addr) (m : Int) : List (Str × V) := [("todo", .ref t), ("many", .int m)]
def spSpareOf (L : List Addr) : Sp := fun vs H Q E => ∃ row : Str, vs = [.str row] ∧ row.length ≤ 1000 ∧ fineS row ∧ (∀ sp, spareOf row = some sp → ∀ H', Kp [] H H' → Q (oV sp) H') ∧ (spareOf row = none → Leave L (6, .v (.int 0)) [] E H)
def spReadInit (C : Addr) (L : List Addr) : Sp := fun vs H Q E => ∃ (x dx l : Addr) (log : List Str), vs = [.ref x, .ref l] ∧ H x = some (.ins C dx []) ∧ H l = some (.lst (log.map V.str)) ∧ LogOk log ∧
  (∀ prs sp e, readL log = .inl (prs, sp, e) → ∀ t H', H t = none → Kp [x] H H' → TdAt H' t (deedsL prs sp) → H' x = some (.ins C dx (rdF t ((log.length : Int) - e - 1))) → Q .non H') ∧ ∀ k : Nat, readL log = .inr k → Leave L (6, .v (.int k)) [x] E H
/-- how many of the m deeds that are written are done, where these names are held -/
noncomputable def doneN (ds : List Dd) (m : Nat) (nm : List Str) : Nat := match (if m = 0 then none else ds[m - 1]?) with
  | none => m
  | some d => if d.1 ∈ nm then m - 1 else m
theorem doneN_zero (ds : List Dd) (nm : List Str) : doneN ds 0 nm = 0 := rfl
theorem doneN_at {ds : List Dd} {m : Nat} {d : Dd} {nm : List Str} (h0 : m ≠ 0) (hd : ds[m - 1]? = some d) : doneN ds m nm = if d.1 ∈ nm then m - 1 else m := by unfold doneN; rw [if_neg h0, hd]
theorem doneN_le (ds : List Dd) (m : Nat) (nm : List Str) : doneN ds m nm ≤ m := by
  unfold doneN
  split
  · exact Nat.le_refl _
  · split <;> omega
def spDoneOn (C CS : Addr) : Sp := fun vs H Q _ => ∃ (x dx t s d : Addr) (ds : List Dd) (m : Nat) (th : Th), vs = [.ref x, .ref s] ∧ H x = some (.ins C dx (rdF t m)) ∧ TdAt H t ds ∧ m ≤ ds.length ∧ ds.length ≤ 7000 ∧ ShAt [] CS H s d th ∧ th.length < 64 ∧
  ∀ H', Kp [] H H' → Q (.int (doneN ds m (keys th))) H'
noncomputable def manyL (log : List Str) (e : Nat) : Nat := log.length - e - 1
def spGoneOn (CW CS : Addr) (L : List Addr) : Sp := fun vs H Q E => ∃ (s d l : Addr) (th : Th) (log : List Str), vs = [.ref s, .ref l] ∧ ShAt [] CS H s d th ∧ th.length < 64 ∧ H l = some (.lst (log.map V.str)) ∧ LogOk log ∧
  (∀ prs sp e, readL log = .inl (prs, sp, e) → ∀ w t r H', H w = none → H t = none → H r = none → Kp [] H H' → w ≠ t → w ≠ r → t ≠ r →
    WkAt CW H' w s t r (deedsL prs sp) log (doneN (deedsL prs sp) (manyL log e) (keys th)) (decide (doneN (deedsL prs sp) (manyL log e) (keys th) < manyL log e)) → Q (.ref w) H') ∧ ∀ k : Nat, readL log = .inr k → Leave L (6, .v (.int k)) [] E H
/-- the moves that take deeds back -/
def backs (ds : List Dd) : List Dd := ds.reverse.map fun d => (d.2.getD "", some d.1)
def firstDrop (ds : List Dd) : Option Str := (ds.find? fun d => d.2.isNone).map (·.1)
def spGoneBack (CS : Addr) (L : List Addr) : Sp := fun vs H Q E => ∃ (s d l : Addr) (th : Th) (log : List Str), vs = [.ref s, .ref l] ∧ ShAt [] CS H s d th ∧ ThA th ∧ H l = some (.lst (log.map V.str)) ∧ LogOk log ∧
  (∀ prs sp e, readL log = .inl (prs, sp, e) → (∀ o, firstDrop ((deedsL prs sp).take (doneN (deedsL prs sp) (manyL log e) (keys th))) = some o → Leave L (4, .v (.str o)) [] E H) ∧
    (firstDrop ((deedsL prs sp).take (doneN (deedsL prs sp) (manyL log e) (keys th))) = none → DdN (deedsL prs sp) ∧ ∃ t, playT th (backs ((deedsL prs sp).take (doneN (deedsL prs sp) (manyL log e) (keys th)))) = some t ∧
      ∀ q H', H q = none → Kp [d] H H' → H' d = some (.dK (dS t)) → TdAt H' q (backs ((deedsL prs sp).take (doneN (deedsL prs sp) (manyL log e) (keys th)))) → Q (.ref q) H')) ∧ ∀ k : Nat, readL log = .inr k → Leave L (6, .v (.int k)) [] E H
theorem deeds_len7 {prs : Pr} (pl : PlOk prs) (sp : Option Str) : (deedsL prs sp).length ≤ 7000 := by have := deeds_len pl sp; omega
/-- the first bad row, found one by one -/
theorem badAt_some {ds : List Dd} {rows : List Str} {i : Nat} (hj : ∀ j, j < i → rows[j]? = (ds[j]?).map rowD) (hi : i < rows.length) (h : rows[i]? ≠ (ds[i]?).map rowD) : badAt ds rows = some i := by
  unfold badAt
  refine find_at (i := i) (fun j y hy e => ?_) (by rw [List.getElem?_range hi]) (by simpa using h)
  have hyl := (List.getElem?_eq_some_iff.mp e).1
  rw [List.length_range] at hyl
  rw [List.getElem?_range hyl] at e
  cases e
  simpa using hj j hy
theorem badAt_none {ds : List Dd} {rows : List Str} (hj : ∀ j, j < rows.length → rows[j]? = (ds[j]?).map rowD) : badAt ds rows = none := by
  unfold badAt
  rw [List.find?_eq_none]
  intro j hjm
  simpa using hj j (List.mem_range.mp hjm)
theorem badAt_all {ds : List Dd} {rows : List Str} (h : badAt ds rows = none) : rows.length ≤ ds.length ∧ rows = (ds.take rows.length).map rowD := by
  unfold badAt at h
  rw [List.find?_eq_none] at h
  have hj : ∀ j, j < rows.length → rows[j]? = (ds[j]?).map rowD := fun j hj => by simpa using h j (List.mem_range.mpr hj)
  have hl : rows.length ≤ ds.length := by
    refine Nat.le_of_not_lt fun hlt => ?_
    have := hj ds.length hlt
    rw [List.getElem?_eq_none (Nat.le_refl _), List.getElem?_eq_getElem hlt] at this
    cases this
  refine ⟨hl, List.ext_getElem? fun j => ?_⟩
  rw [List.getElem?_map]
  by_cases h1 : j < rows.length
  · rw [hj j h1, List.getElem?_take_of_lt h1]
  · rw [List.getElem?_eq_none (by omega), List.getElem?_eq_none (by rw [List.length_take]; omega)]; rfl
theorem begin_lt {log : List Str} (h : ("begin" : Str) ∈ log) : beginAt log < log.length ∧ log[beginAt log]? = some ("begin" : Str) ∧ ∀ j, j < beginAt log → log[j]? ≠ some ("begin" : Str) := by
  have h1 : beginAt log < log.length := List.findIdx_lt_length_of_exists ⟨_, h, by simp⟩
  refine ⟨h1, ?_, fun j hj e => ?_⟩
  · have := List.findIdx_getElem (w := h1)
    rw [List.getElem?_eq_getElem h1]
    exact congrArg some (of_decide_eq_true this)
  · have h2 := List.not_of_lt_findIdx hj
    have hjl : j < log.length := by omega
    rw [List.getElem?_eq_getElem hjl] at e
    have := Option.some.inj e
    simp [this] at h2
theorem begin_no {log : List Str} (h : ("begin" : Str) ∉ log) : beginAt log = log.length := List.findIdx_eq_length_of_false fun x hx => by
  have : x ≠ ("begin" : Str) := fun e => h (e ▸ hx)
  simpa using this
theorem rdL_len {sp : Option Str} {rows : List Str} {prs : Pr} (h : rdL sp [] rows = .inl prs) (hl : rows.length ≤ 40) : PlOk prs := by
  have := rdL_ok (SeenOk.nil sp) h
  exact this.1.pl (by rw [this.2]; simpa using hl)
theorem TdAt.take {H : Hp} {t : Addr} {ws : List V} {ds : List Dd} (h : TdAt H t ds) (n : Nat) {t2 : Addr} {H' : Hp} (hw : H t = some (.lst ws)) (k : Kp [] H H') (e : H' t2 = some (.lst (ws.take n))) : TdAt H' t2 (ds.take n) := by
  obtain ⟨ps, h1, h2, h3⟩ := h.ex
  rw [hw] at h1
  have e1 : ws = ps.map V.ref := by cases h1; rfl
  subst e1
  refine ⟨ps.take n, by rw [List.map_take]; exact e, by rw [List.length_take, List.length_take, h2], fun i p d hp hd => ?_⟩
  by_cases hi : i < n
  · rw [List.getElem?_take_of_lt hi] at hp hd
    exact k.at (h3 i p d hp hd) (by simp)
  · rw [List.getElem?_eq_none (by rw [List.length_take]; omega)] at hp
    cases hp
theorem Leave.weak {L : List Addr} {e : Err} {S S' : List Addr} {E : XK} {H : Hp} (h : Leave L e S E H) (hs : ∀ a ∈ S', a ∈ S) : Leave L e S' E H := fun C d fs H' hC k hf hv => h C d fs H' hC (k.sub hs) hf hv
theorem g_noRow {L : List Addr} {S : List Addr} {E : XK} {H H' : Hp} {C : Addr} {i : Int} (hC : L[6]? = some C) (h : Leave L (6, .v (.int i)) S E H) (k : Kp S H H') (h0 : 0 ≤ i) (h1 : i < 2 ^ 20) :
    ∃ y, [V.int i] = [y] ∧ (∀ a : Addr, H' a = none → okRow y (upd H' a (exo a C none))) ∧ ∀ dx : Addr, H' dx = none → E (.ref C) (some dx) (upd H' dx (.xd [("row", y)])) :=
  ⟨_, rfl, fun a _ => ⟨i, rfl, log_lt (by omega)⟩, fun dx hdx => h.one (Nat.succ_ne_zero 5) rfl hC k hdx fun _ _ => .v _⟩
theorem cutV_mid {xs : List V} {i j : Nat} (h1 : i ≤ j) (h2 : j ≤ xs.length) : cutV xs (some i) (some j) = (xs.take j).drop i := by
  unfold cutV
  have e1 : HT.sIx xs.length 0 (some (i : Int)) = i := by show (if (i : Int) < 0 then ((i : Int) + (xs.length : Int)).toNat else min (i : Int).toNat xs.length) = _; rw [if_neg (by omega)]; omega
  have e2 : HT.sIx xs.length xs.length (some (j : Int)) = j := by show (if (j : Int) < 0 then ((j : Int) + (xs.length : Int)).toNat else min (j : Int).toNat xs.length) = _; rw [if_neg (by omega)]; omega
  rw [e1, e2, List.drop_take]
theorem readL_nil : readL [] = .inr 0 := rfl
theorem spareOf_fine {row : Str} {sp : Option Str} (h : spareOf row = some sp) : ∀ s, sp = some s → isName s = true := by
  unfold spareOf at h
  split at h
  · cases h; intro s hs; cases hs
  · split at h
    · split at h
      · rename_i hc; cases h; intro s hs; cases hs; exact hc.2
      · cases h
    · cases h
theorem readL_inl {log : List Str} {prs : Pr} {sp : Option Str} {e : Nat} (h : readL log = .inl (prs, sp, e)) : ∃ r0, log[0]? = some r0 ∧ spareOf r0 = some sp ∧ e = beginAt log ∧ rdL sp [] ((log.take (beginAt log)).drop 1) = .inl prs ∧ ¬ (beginAt log = log.length ∨ (sp = none ∧ rings prs ≠ [])) ∧ badAt (deedsL prs sp) (log.drop (beginAt log + 1)) = none := by
  unfold readL at h
  cases h0 : log[0]? with
  | none => rw [h0] at h; cases h
  | some r0 =>
    rw [h0] at h
    dsimp only at h
    cases h1 : spareOf r0 with
    | none => rw [h1] at h; cases h
    | some sp' =>
      rw [h1] at h
      dsimp only at h
      cases h2 : rdL sp' [] ((log.take (beginAt log)).drop 1) with
      | inr k => rw [h2] at h; cases h
      | inl prs' =>
        rw [h2] at h
        dsimp only at h
        split at h
        · cases h
        · rename_i hc
          cases h3 : badAt (deedsL prs' sp') (log.drop (beginAt log + 1)) with
          | some k => rw [h3] at h; cases h
          | none => rw [h3] at h; cases h; exact ⟨r0, rfl, h1, rfl, h2, hc, h3⟩
structure ReadOk (log : List Str) (prs : Pr) (sp : Option Str) (e : Nat) : Prop where
  pl : PlOk prs
  sn : ∀ s, sp = some s → isName s = true
  lt : e < log.length
  ring : rings prs ≠ [] → ∃ s, sp = some s ∧ isName s = true
  many : manyL log e ≤ (deedsL prs sp).length
theorem read_ok {log : List Str} {prs : Pr} {sp : Option Str} {e : Nat} (h : readL log = .inl (prs, sp, e)) (hl : log.length ≤ 40) : ReadOk log prs sp e := by
  obtain ⟨r0, h0, h1, h2, h3, h4, h5⟩ := readL_inl h
  have hb : beginAt log ≤ log.length := List.findIdx_le_length
  have hsn := spareOf_fine h1
  have hlt : e < log.length := by
    rw [h2]
    rcases Nat.lt_or_ge (beginAt log) log.length with h | h
    · exact h
    · exact absurd (.inl (by omega)) h4
  refine ⟨rdL_len h3 (by rw [List.length_drop, List.length_take]; omega), hsn, hlt, fun hr => ?_, ?_⟩
  · cases sp with
    | none => exact absurd (.inr ⟨rfl, hr⟩) h4
    | some s => exact ⟨s, rfl, hsn s rfl⟩
  · have := (badAt_all h5).1
    unfold manyL
    rw [List.length_drop] at this
    rw [h2]; omega
theorem many_int {log : List Str} {e : Nat} (h : e < log.length) : (log.length : Int) - e - 1 = ((manyL log e : Nat) : Int) := by unfold manyL; omega
theorem ddV_1 (d : Dd) : (ddV d)[1]? = some (.str d.1) := by obtain ⟨o, n⟩ := d; cases n <;> rfl
theorem firstDrop_at {ds : List Dd} {i : Nat} {d : Dd} (hj : ∀ j y, j < i → ds[j]? = some y → y.2.isNone = false) (hd : ds[i]? = some d) (h : d.2 = none) : firstDrop ds = some d.1 := by
  unfold firstDrop; rw [find_at hj hd (by rw [h]; rfl)]; rfl
theorem firstDrop_no {ds : List Dd} (hj : ∀ j y, j < ds.length → ds[j]? = some y → y.2.isNone = false) : firstDrop ds = none := by
  unfold firstDrop; rw [find_no hj]; rfl
theorem firstDrop_all {ds : List Dd} (h : firstDrop ds = none) : ∀ d ∈ ds, ∃ n, d.2 = some n := fun d hd => by
  unfold firstDrop at h
  have h1 : (ds.find? fun d => d.2.isNone) = none := by cases e : ds.find? fun d => d.2.isNone with | none => rfl | some x => rw [e] at h; cases h
  have := (List.find?_eq_none.mp h1) d hd
  cases e : d.2 with
  | none => rw [e] at this; exact absurd rfl this
  | some n => exact ⟨n, rfl⟩
end NN
/-! t != u, two tuples whose items are equal, dicts among them -/
namespace PySem.SeqAt
open AutoSeq1 (wpAny_loadPart')
open MeetsSeq MeetsSeq2 MeetsSeq3 SeqRoads2
section
variable {pr : Program} {wo : World}
theorem nn_tup_ne (a c : Addr) (us ws : Array Value) (m k : Nat) (d1 d2 : Option Addr) (s1 s2 : Array (Option Value)) (hz : us.size = ws.size) :
    MeetsIn pr wo (Builtin.«tuple.__ne__» ⟨[.ref a, .ref c], []⟩) (fun A R sh =>
      sh.heap.get? a = some ⟨.type "tuple", d1, .seq us m, s1⟩ ∧ sh.heap.get? c = some ⟨.type "tuple", d2, .seq ws k, s2⟩ ∧
        (∀ j (p : j < us.size) (q : j < ws.size), EqP pr wo A.in1 sh us[j] ws[j] true) ∧ R (.ok (.ret (.bool false))) sh) := by
  intro A R sh z
  obtain ⟨hp, gg, dd, tk, oo⟩ := sh
  obtain ⟨ga, gc, eqs, z⟩ := z
  have tt := AutoSeq1.sub_tuple_tuple
  have len : (us.toList.zip ws.toList).length = us.size := by simp [hz]
  wp_walk using wpAny_loadPart' ga, wpAny_loadPart' gc, wpAny_forIn_list _ (fun rest b s' => b.1 = none ∧ s' = ⟨hp, gg, dd, tk, oo⟩ ∧ ∃ i, rest = (us.toList.zip ws.toList).drop i) _
  case turn =>
    rintro ⟨y, x⟩ rest b s' ⟨hb, rfl, i, hr⟩
    have lt : i < (us.toList.zip ws.toList).length := Nat.lt_of_not_le fun g => by rw [List.drop_of_length_le g] at hr; cases hr
    have l1 : i < us.size := by omega
    have l2 : i < ws.size := by omega
    rw [List.drop_eq_getElem_cons lt] at hr
    obtain ⟨e1, e2⟩ := List.cons.inj hr
    have ey : y = us[i] := by have := congrArg Prod.fst e1; simpa using this
    have ex : x = ws[i] := by have := congrArg Prod.snd e1; simpa using this
    subst ey ex
    refine wpAny_bind (eqs i l1 l2 _ _ ?_)
    wp_walk
    exact ⟨rfl, rfl, i + 1, e2⟩
  case fin =>
    rintro ⟨b1, b2⟩ s' ⟨hb, rfl, _⟩
    have hb : b1 = none := hb
    subst hb
    wp_walk
    simpa [Builtin.Tuple.tupleCompareSizes, hz] using z
  case h =>
    exact ⟨rfl, rfl, 0, rfl⟩
theorem nn_rc_ne {A : Around} {sh : Shared} {a c : Addr} {us ws : Array Value} (ha : sh.heap.IsTuple a us) (hc : sh.heap.IsTuple c ws) (hz : us.size = ws.size) (hu : A.units < cLine)
    (eqs : ∀ j (p : j < us.size) (q : j < ws.size), EqP pr wo A.in1 sh us[j] ws[j] true) (E Q : Value → Shared → Prop) (z : Q (.bool false) sh) : wpAny (model pr wo) A (richCompare .NotEq (.ref a) (.ref c)) Q E sh := by
  obtain ⟨⟨c1, d1, t1, l1⟩, g1, k1, n1, e1⟩ := id ha
  obtain ⟨⟨c2, d2, t2, l2⟩, g2, k2, n2, e2⟩ := id hc
  dsimp only at k1 e1 k2 e2
  subst k1 e1 k2 e2
  have ta : sh.TypeIs (.ref a) "tuple" := ⟨_, g1, rfl⟩
  have tc : sh.TypeIs (.ref c) "tuple" := ⟨_, g2, rfl⟩
  refine wpAny_richCompare_same_room (op := .NotEq) ta tc F.slot_tuple_ne (call_meetsIn F.slot_tuple_ne ta F.entry_tuple_ne (F.args_tuple_ne_2 _ _) (nn_tup_ne a c us ws n1 n2 d1 d2 l1 l2 hz) ⟨g1, g2, eqs, ?_⟩) hu
  exact ⟨(fun e => nomatch e), z⟩
end
end PySem.SeqAt
namespace NN
open PySem PySem.Spec PyProof.Rows L2
/-- two tuples of equal items -/
def rNeTV (K : PySem.W.Frag) : R2 := fun x y H Q => ∃ a b xs ys, x = V.ref a ∧ y = V.ref b ∧ SqT K H a xs ∧ SqT K H b ys ∧ Paired (EqV K H 20) xs ys ∧ Q (.bl false) H
theorem op_neTV {X : Cx} {K : PySem.W.Frag} (h : X.K = K) (hu : X.A.units + 64 < cLine) : OpR X (compareOp .NotEq) (rNeTV K) := by
  subst h
  intro pins s σ H x y v u Q I rx ry z
  obtain ⟨a, b, xs, ys, rfl, rfl, ha, hb, hp, q⟩ := z
  cases rx
  cases ry
  obtain ⟨us, r1, p1, _⟩ := I.tuple ha
  obtain ⟨ws, r2, p2, _⟩ := I.tuple hb
  have hz : us.toArray.size = ws.toArray.size := by
    rw [List.size_toArray, List.size_toArray, ← r1.length, ← r2.length]
    exact Paired.length hp
  refine PySem.SeqAt.nn_rc_ne p1 p2 hz (by omega) (fun j h1 h2 => ?_) _ _ ⟨.bl false, H, I, rfl, q⟩
  have ih : ∀ x y v u, EqV X.K H 20 x y → RelV x v → RelV y u → SeqAt.EqP X.prog X.w X.A.in1 s v u true := eqV_run I 20 X.A.in1 (by show X.A.units + 1 + 20 < cLine; omega)
  have := items_run ih hp r1 r2 j (by simpa using h1) (by simpa using h2)
  simpa using this
theorem g_neTV {K : PySem.W.Frag} {H : Hp} {Q : VK} {a b : Addr} {xs ys : List V} (ha : H a = some (.tup xs)) (hb : H b = some (.tup ys)) (hp : Paired (EqV K H 20) xs ys) (q : Q (.bl false) H) : rNeTV K (.ref a) (.ref b) H Q := ⟨a, b, xs, ys, rfl, rfl, SqT.of ha, SqT.of hb, hp, q⟩
theorem eqV_flat {K : PySem.W.Frag} {H : Hp} {x : V} {n : Nat} (h : flatB x = true) : EqV K H (n + 1) x x := .inl ⟨rfl, h⟩
theorem eqV_strs {K : PySem.W.Frag} {H : Hp} {a b : Addr} {xs : List Str} {n : Nat} (ha : H a = some (.lst (xs.map V.str))) (hb : H b = some (.lst (xs.map V.str))) : EqV K H (n + 2) (.ref a) (.ref b) := by
  refine .inr (.inr (.inl ⟨a, b, _, _, rfl, rfl, SqL.of ha, SqL.of hb, ?_⟩))
  clear ha hb
  induction xs with
  | nil => exact .nil
  | cons x r ih => exact .cons (eqV_flat rfl) ih
theorem eqV_dict {K : PySem.W.Frag} {H : Hp} {a b : Addr} {th : Th} {n : Nat} (ha : H a = some (.dK (dS th))) (hb : H b = some (.dK (dS th))) (nd : (keys th).Nodup) (hv : ∀ kv ∈ th, ThingV kv.2) : EqV K H (n + 2) (.ref a) (.ref b) := by
  refine .inr (.inr (.inr ⟨a, b, _, _, rfl, rfl, ha, hb, rfl, fun p hp => ?_⟩))
  obtain ⟨kv, hkv, rfl⟩ := List.mem_map.mp hp
  exact ⟨kv.2, (valV_dS th kv.1).trans (lk_of_mem nd hkv), eqV_flat (thing_flat (hv kv hkv))⟩
theorem pe_revK {X : Cx} {K : PySem.W.Frag} (h : X.K = K) {e : Expr} {te : TE} {k : Nat} {p1 p2 p3 pos : Pos} (he : PE X e te) : PE X (.Subscript e (.Slice none none (some (.UnaryOp .USub (.Constant (.int 1) k p1) p2)) p3) pos) (tRevL K te) := by subst h; exact pe_revL he
theorem g_revL {K : PySem.W.Frag} {σ : L2.St} {H : Hp} {Q : VK} {te : TE} (q : te σ H fun x H1 => ∃ a xs, x = .ref a ∧ SqL K H1 a xs ∧ ∀ p, H1 p = none → Q (.ref p) (L2.upd H1 p (.lst xs.reverse))) : tRevL K te σ H Q := q
end NN
/-! logs as the law reads them -/
namespace NN
open PySem L2
theorem nx_perm {a b : Pr} (p : a.Perm b) (nd : (keys b).Nodup) : nx a = nx b := funext fun n => by unfold nx; rw [lk_perm p nd]
theorem isRing_nx {a b : Pr} (e : nx a = nx b) {n : Str} {r : List Str} (h : IsRing a n r) : IsRing b n r := by
  obtain ⟨⟨⟨nd, st⟩, hd, up⟩, h2, h3⟩ := h
  rw [e] at st up
  exact ⟨⟨⟨nd, st⟩, hd, up⟩, h2, h3⟩
theorem ringAt_nx {a b : Pr} (e : nx a = nx b) : ringAt a = ringAt b := funext fun n => by
  cases h : ringAt b n with
  | some r => exact ringAt_some (isRing_nx e.symm (ringAt_is h))
  | none => exact ringAt_none fun r hr => by rw [ringAt_some (isRing_nx e hr)] at h; cases h
theorem rings_perm {a b : Pr} (p : a.Perm b) (nd : (keys b).Nodup) : rings a = rings b := by
  unfold rings
  rw [srt_eq (keys_perm p), ringAt_nx (nx_perm p nd)]
theorem src_perm {a b : Pr} (p : a.Perm b) (h : PlOk b) : src a = src b := funext fun n => by
  have h1 := h.perm p
  cases e : src a n with
  | some o => exact (src_some h.ndn (p.mem_iff.mp (src_mem e))).symm
  | none =>
    cases e2 : src b n with
    | none => rfl
    | some o => rw [src_some h1.ndn (p.mem_iff.mpr (src_mem e2))] at e; cases e
theorem chainL_src {a b : Pr} (e : src a = src b) : ∀ f, chainL a f = chainL b f
  | 0 => rfl
  | f + 1 => funext fun n => by unfold chainL; rw [e, chainL_src e f]
theorem deedsL_perm {a b : Pr} (p : a.Perm b) (h : PlOk b) (sp : Option Str) : deedsL a sp = deedsL b sp := by
  unfold deedsL dropsL
  rw [byOlds_perm p h.ndo, srt_eq (news_perm p), rings_perm p h.ndo, chainL_src (src_perm p h)]
  have : (fun n => decide (n ∉ keys a)) = fun n => decide (n ∉ keys b) := funext fun n => decide_eq_decide.mpr (not_congr (keys_perm p).mem_iff)
  rw [this]
theorem cutL_one {c : Nat} : ∀ {l p : List Nat}, cutL c l = [p] → l = p
  | [], p, h => by cases h; rfl
  | y :: r, p, h => by
    by_cases e : y = c
    · subst e
      rw [cutL_hit] at h
      exact absurd (List.cons.inj h).2 (cutL_ne y r)
    · cases hq : cutL c r with
      | nil => exact absurd hq (cutL_ne c r)
      | cons a q =>
        rw [cutL_miss e hq] at h
        obtain ⟨rfl, rfl⟩ := List.cons.inj h
        rw [cutL_one hq]
theorem cutL_two {c : Nat} : ∀ {l p q : List Nat}, cutL c l = [p, q] → l = p ++ c :: q
  | [], p, q, h => by cases h
  | y :: r, p, q, h => by
    by_cases e : y = c
    · subst e
      rw [cutL_hit] at h
      obtain ⟨rfl, h2⟩ := List.cons.inj h
      rw [cutL_one h2]; rfl
    · cases hq : cutL c r with
      | nil => exact absurd hq (cutL_ne c r)
      | cons a z =>
        rw [cutL_miss e hq] at h
        obtain ⟨rfl, rfl⟩ := List.cons.inj h
        rw [cutL_two hq]; rfl
theorem spl_two {c : Nat} {x a b : Str} (h : spl c x = [a, b]) : x.cps.toList = a.cps.toList ++ c :: b.cps.toList := by
  unfold spl at h
  match h2 : cutL c x.cps.toList with
  | [p, q] =>
    rw [h2] at h
    have e1 : tx p = a := (List.cons.inj h).1
    have e2 : tx q = b := (List.cons.inj (List.cons.inj h).2).1
    rw [← e1, ← e2, tx_cps, tx_cps]
    exact cutL_two h2
  | [] => rw [h2] at h; cases h
  | [_] => rw [h2] at h; cases h
  | _ :: _ :: _ :: _ => rw [h2] at h; cases h
theorem plan_cps : ("plan" : Str).cps.toList = [112, 108, 97, 110] := by decide +kernel
theorem plan5_cps : ("plan " : Str).cps.toList = [112, 108, 97, 110, 32] := by decide +kernel
/-- a log's first row, as the law has it -/
theorem spareOf_yes {r0 : Str} (h : cutS r0 none (some 5) = "plan ") (hn : isName (cutS r0 (some 5) none) = true) : r0 ≠ "plan" ∧ spareOf r0 = some (some (cutS r0 (some 5) none)) := by
  rw [cut_from (by decide)] at hn ⊢
  rw [cut_to (by decide)] at h
  have h1 : r0.cps.toList.take 5 = [112, 108, 97, 110, 32] := by rw [← plan5_cps, ← h, tx_cps]; rfl
  have hr : r0.cps.toList = [112, 108, 97, 110] ++ 32 :: r0.cps.toList.drop 5 := by
    conv => lhs; rw [← List.take_append_drop 5 r0.cps.toList, h1]
    rfl
  have hno : 32 ∉ r0.cps.toList.drop 5 := by
    have := no_sp hn 32 (by decide)
    rw [tx_cps] at this; exact this
  have h5 : (5 : Int).toNat = 5 := rfl
  rw [h5] at hn ⊢
  have hne : r0 ≠ "plan" := fun e => by
    rw [e, plan_cps] at hr
    have := congrArg List.length hr
    simp at this
  refine ⟨hne, ?_⟩
  unfold spareOf
  rw [if_neg hne]
  have e2 : spl 32 r0 = [("plan" : Str), tx (r0.cps.toList.drop 5)] := by
    unfold spl
    have := cutL_app (c := 32) (r := r0.cps.toList.drop 5) (l := [112, 108, 97, 110]) (by decide)
    have hc : cutL 32 r0.cps.toList = [[112, 108, 97, 110], r0.cps.toList.drop 5] := (congrArg (cutL 32) hr).trans (this.trans (by rw [cutL_none hno]))
    rw [hc]
    show [tx [112, 108, 97, 110], tx (r0.cps.toList.drop 5)] = _
    rw [← plan_cps, tx_list]
  rw [e2]
  show (if ("plan" : Str) = "plan" ∧ isName (tx (r0.cps.toList.drop 5)) = true then some (some (tx (r0.cps.toList.drop 5))) else none) = _
  rw [if_pos ⟨rfl, hn⟩]
theorem spareOf_no {r0 : Str} (h0 : r0 ≠ "plan") (h : ¬ (cutS r0 none (some 5) = "plan " ∧ isName (cutS r0 (some 5) none) = true)) : spareOf r0 = none := by
  cases e : spareOf r0 with
  | none => rfl
  | some sp =>
    refine absurd ?_ h
    unfold spareOf at e
    rw [if_neg h0] at e
    match h2 : spl 32 r0 with
    | [a, b] =>
      rw [h2] at e
      dsimp only at e
      split at e
      · rename_i hc
        obtain ⟨ha, hb⟩ := hc
        have := spl_two h2
        rw [ha, plan_cps] at this
        have d5 : r0.cps.toList.drop 5 = b.cps.toList := by rw [this]; rfl
        have t5 : r0.cps.toList.take 5 = [112, 108, 97, 110, 32] := by rw [this]; rfl
        rw [cut_from (by decide), cut_to (by decide), show (5 : Int).toNat = 5 from rfl, d5, t5, tx_list, ← plan5_cps, tx_list]
        exact ⟨rfl, hb⟩
      · cases e
    | [] => rw [h2] at e; cases e
    | [_] => rw [h2] at e; cases e
    | _ :: _ :: _ :: _ => rw [h2] at e; cases e
theorem spareOf_plan : spareOf "plan" = some none := by unfold spareOf; rw [if_pos rfl]
theorem plan_from : cutS "plan" (some 5) none = "" := by
  rw [cut_from (by decide), plan_cps]; decide +kernel
/-! rows one by one -/
theorem rdL_atS {sp : Option Str} {rows : List Str} {i : Nat} {prs : Pr} {row : Str} (h : rdL sp [] rows = rdL sp prs (rows.drop i)) (hr : rows[i]? = some row) :
    (pairOf row = none → rdL sp [] rows = .inr prs.length) ∧ ∀ p, pairOf row = some p → (clash prs sp p = true → rdL sp [] rows = .inr prs.length) ∧ (clash prs sp p = false → rdL sp [] rows = rdL sp (prs ++ [p]) (rows.drop (i + 1))) := by
  have hd : rows.drop i = row :: rows.drop (i + 1) := by
    rw [List.drop_eq_getElem_cons (List.getElem?_eq_some_iff.mp hr).1, (List.getElem?_eq_some_iff.mp hr).2]
  rw [hd] at h
  have u : rdL sp prs (row :: rows.drop (i + 1)) = match pairOf row with
    | none => .inr prs.length
    | some p => if clash prs sp p = true then .inr prs.length else rdL sp (prs ++ [p]) (rows.drop (i + 1)) := by rw [rdL] <;> rfl
  rw [u] at h
  refine ⟨fun e => by rw [e] at h; exact h, fun p e => ?_⟩
  rw [e] at h
  dsimp only at h
  exact ⟨fun c => by rw [if_pos c] at h; exact h, fun c => by rw [if_neg (by rw [c]; exact Bool.false_ne_true)] at h; exact h⟩
theorem begin_le {log : List Str} {m : Nat} (h : ∀ j, j < m → log[j]? ≠ some ("begin" : Str)) (hm : m ≤ log.length) : m ≤ beginAt log := by
  refine Nat.le_of_not_lt fun hl => ?_
  have hlt : beginAt log < log.length := by omega
  have := List.findIdx_getElem (w := hlt)
  refine h _ hl ?_
  rw [List.getElem?_eq_getElem hlt]
  exact congrArg some (of_decide_eq_true this)
theorem begin_at {log : List Str} {m : Nat} (h : ∀ j, j < m → log[j]? ≠ some ("begin" : Str)) (hm : log[m]? = some ("begin" : Str)) : beginAt log = m := by
  have h1 := (List.getElem?_eq_some_iff.mp hm).1
  have h2 := begin_le h (by omega)
  refine Nat.le_antisymm (Nat.le_of_not_lt fun hl => ?_) h2
  have := List.not_of_lt_findIdx hl
  rw [List.getElem?_eq_getElem h1] at hm
  have e := Option.some.inj hm
  simp [e] at this
theorem begin_end {log : List Str} (h : ∀ j, j < log.length → log[j]? ≠ some ("begin" : Str)) : beginAt log = log.length := Nat.le_antisymm List.findIdx_le_length (begin_le h (Nat.le_refl _))
theorem clash_free {seen : Pr} {sp : Option Str} {p : Str × Option Str} (nk : p.1 ∉ keys seen) (nn : ∀ m, p.2 = some m → m ∉ NN.news seen) (ns : ∀ s, sp = some s → s ≠ p.1 ∧ p.2 ≠ some s) : clash seen sp p = false := by
  obtain ⟨o, n⟩ := p
  refine clash_no nk nn fun s hs => ?_
  obtain ⟨h1, h2⟩ := ns s hs
  rw [decide_eq_false h1, decide_eq_false h2]; rfl
/-- rows of pairs, read, with a spare name -/
theorem rdL_sp {sp : Option Str} {seen : Pr} : ∀ {l : Pr}, PlOk (seen ++ l) → (∀ s, sp = some s → s ∉ keys (seen ++ l) ∧ s ∉ NN.news (seen ++ l)) → rdL sp seen (l.map rowS) = .inl (seen ++ l)
  | [], _, _ => by rw [List.append_nil]; rfl
  | p :: l, h, hs => by
    have hn := h.names p (by simp)
    have u : rdL sp seen (rowS p :: l.map rowS) = match pairOf (rowS p) with
      | none => .inr seen.length
      | some q => if clash seen sp q = true then .inr seen.length else rdL sp (seen ++ [q]) (l.map rowS) := by rw [rdL] <;> rfl
    show rdL sp seen (rowS p :: l.map rowS) = _
    rw [u, pair_row hn.1 hn.2]
    dsimp only
    have hc : clash seen sp p = false := by
      refine clash_free ?_ ?_ ?_
      · have := h.ndo
        simp only [keys, List.map_append, List.map_cons] at this
        intro ho
        exact (List.nodup_append.mp this).2.2 p.1 ho p.1 (List.mem_cons_self ..) rfl
      · intro m hm
        have := h.ndn
        obtain ⟨o, n⟩ := p
        have hm : n = some m := hm
        subst hm
        unfold NN.news at this ⊢
        rw [List.filterMap_append, List.filterMap_cons] at this
        intro hmm
        exact (List.nodup_append.mp this).2.2 m hmm m (List.mem_cons_self ..) rfl
      · intro s e
        obtain ⟨h1, h2⟩ := hs s e
        refine ⟨fun z => h1 ?_, fun z => h2 ?_⟩
        · unfold keys; rw [List.map_append, List.map_cons, z]; simp
        · unfold NN.news
          rw [List.filterMap_append, List.filterMap_cons, z]; simp
    rw [if_neg (by rw [hc]; exact Bool.false_ne_true)]
    have e : seen ++ p :: l = (seen ++ [p]) ++ l := by simp
    rw [e] at h hs ⊢
    exact rdL_sp h hs
theorem plan_sp {s : Str} (h : isName s = true) : spareOf ("plan " ++ s) = some (some s) := by
  have e5 : ("plan " ++ s : Str).cps.toList = [112, 108, 97, 110, 32] ++ s.cps.toList := by rw [app_list, plan5_cps]
  have d5 : cutS ("plan " ++ s) (some 5) none = s := by rw [cut_from (by decide), e5]; exact tx_list s
  have t5 : cutS ("plan " ++ s) none (some 5) = "plan " := by rw [cut_to (by decide), e5]; show tx [112, 108, 97, 110, 32] = _; rw [← plan5_cps, tx_list]
  have := (spareOf_yes (r0 := "plan " ++ s) t5 (by rw [d5]; exact h)).2
  rw [d5] at this
  exact this
theorem first_sp {sp : Option Str} (h : ∀ s, sp = some s → isName s = true) : spareOf (firstL sp) = some sp := by
  cases sp with
  | none => exact spareOf_plan
  | some s => exact plan_sp (h s rfl)
/-- the head of a log, its pairs in any order -/
def headR (l : Pr) (sp : Option Str) : List Str := firstL sp :: (l.map rowS ++ [("begin" : Str)])
theorem headL_R (prs : Pr) (sp : Option Str) : headL prs sp = headR (byOlds prs) sp := rfl
theorem row_begin {p : Str × Option Str} (h1 : isName p.1 = true) (h2 : ∀ n, p.2 = some n → isName n = true) : rowS p ≠ ("begin" : Str) := fun e => by
  have := pair_row h1 h2
  rw [e] at this
  have z : pairOf ("begin" : Str) = none := by decide +kernel
  rw [z] at this; cases this
theorem first_begin (sp : Option Str) : firstL sp ≠ ("begin" : Str) := fun e => by
  have e := congrArg (fun z : Str => z.cps.toList.take 1) e
  have b : (("begin" : Str)).cps.toList.take 1 = [98] := by decide +kernel
  cases sp with
  | none =>
    have e : (("plan" : Str)).cps.toList.take 1 = (("begin" : Str)).cps.toList.take 1 := e
    rw [b, plan_cps] at e; cases e
  | some s =>
    have e : (("plan " ++ s : Str)).cps.toList.take 1 = (("begin" : Str)).cps.toList.take 1 := e
    rw [b, app_list, plan5_cps] at e; cases e
theorem readL_good {l prs : Pr} {sp : Option Str} {m : Nat} (p : l.Perm prs) (h : PlOk prs) (hs : ∀ s, sp = some s → isName s = true ∧ s ∉ keys prs ∧ s ∉ NN.news prs) (hr : rings prs ≠ [] → sp ≠ none) :
    readL (headR l sp ++ ((deedsL prs sp).take m).map rowD) = .inl (l, sp, l.length + 1) := by
  have hl := h.perm p
  have hnm := hl.names
  generalize hlog : headR l sp ++ ((deedsL prs sp).take m).map rowD = log
  have elog : log = firstL sp :: (l.map rowS ++ ("begin" : Str) :: ((deedsL prs sp).take m).map rowD) := by rw [← hlog]; unfold headR; simp
  have h0 : log[0]? = some (firstL sp) := by rw [elog]; rfl
  have hb : beginAt log = l.length + 1 := by
    refine begin_at (fun j hj => ?_) ?_
    · rw [elog]
      cases j with
      | zero => exact fun e => first_begin sp (Option.some.inj e)
      | succ j =>
        rw [List.getElem?_cons_succ, List.getElem?_append_left (by rw [List.length_map]; omega), List.getElem?_map]
        have hj2 : j < l.length := by omega
        rw [List.getElem?_eq_getElem hj2]
        intro e
        have := hnm _ (List.getElem_mem hj2)
        exact row_begin this.1 this.2 (Option.some.inj e)
    · rw [elog, List.getElem?_cons_succ, List.getElem?_append_right (by rw [List.length_map]; omega), List.length_map, Nat.sub_self]; rfl
  have ht : (log.take (l.length + 1)).drop 1 = l.map rowS := by
    rw [elog, List.take_succ_cons, List.drop_one, List.tail_cons, List.take_left' (by rw [List.length_map])]
  have hd : log.drop (l.length + 1 + 1) = ((deedsL prs sp).take m).map rowD := by
    rw [elog, List.drop_succ_cons]
    have : l.map rowS ++ ("begin" : Str) :: ((deedsL prs sp).take m).map rowD = (l.map rowS ++ [("begin" : Str)]) ++ ((deedsL prs sp).take m).map rowD := by simp
    rw [this, List.drop_left' (by simp)]
  unfold readL
  rw [h0]
  dsimp only
  rw [first_sp (fun s e => (hs s e).1)]
  dsimp only
  rw [hb, ht]
  have hrd : rdL sp [] (l.map rowS) = .inl l := by
    have := rdL_sp (sp := sp) (seen := []) (l := l) (by simpa using hl) fun s e => by
      obtain ⟨_, a, b⟩ := hs s e
      exact ⟨fun z => a ((keys_perm p).mem_iff.mp (by simpa using z)), fun z => b ((news_perm p).mem_iff.mp (by simpa using z))⟩
    simpa using this
  rw [hrd]
  dsimp only
  have hlen : l.length + 1 < log.length := by rw [elog]; simp
  rw [if_neg (by
    rintro (e | ⟨e1, e2⟩)
    · omega
    · rw [rings_perm p h.ndo] at e2; exact hr e2 e1)]
  rw [hd, deedsL_perm p h]
  rw [badAt_none fun j hj => ?_]
  rw [List.getElem?_map]
  rw [List.length_map, List.length_take] at hj
  rw [List.getElem?_take_of_lt (by omega)]
/-- the law's own asking of the program: it fits -/
theorem deeds_own {prs : Pr} {sp : Option Str} (hs : SeenOk sp prs) (hn : ∀ s, sp = some s → isName s = true) (hr : ¬ (sp = none ∧ rings prs ≠ [])) : deedsE prs (keys prs) sp = none := by
  have hf : fitE prs (keys prs) = none := by
    have e1 : lostOf prs (keys prs) = none := by
      unfold lostOf
      rw [List.find?_eq_none]
      intro o ho
      simpa using mem_srt.mp ho
    have e2 : takenOf prs (keys prs) = none := by
      unfold takenOf
      rw [List.find?_eq_none]
      intro n hn
      simp
    unfold fitE
    rw [e1]; dsimp only; rw [e2]
  unfold deedsE
  rw [hf]
  dsimp only
  unfold spareE
  cases sp with
  | none =>
    cases e : rings prs with
    | nil => rfl
    | cons r rs => exact absurd ⟨rfl, by rw [e]; exact List.cons_ne_nil _ _⟩ hr
  | some s =>
    dsimp only
    obtain ⟨h1, h2⟩ := hs.sp s rfl
    rw [if_pos (hn s rfl), if_neg fun z => z.elim h1 h2]
/-! how long a log's rows are -/
structure LogN (log : List Str) (n m : Nat) : Prop where
  len : log.length ≤ m
  row : ∀ r ∈ log, r.length ≤ n ∧ fineS r
theorem LogN.ok {log : List Str} {n m : Nat} (h : LogN log n m) (h1 : n ≤ 1000) (h2 : m ≤ 40) : LogOk log := ⟨Nat.le_trans h.len h2, fun r hr => ⟨Nat.le_trans (h.row r hr).1 h1, (h.row r hr).2⟩⟩
/-! the reading, case by case -/
def midR (log : List Str) : List Str := (log.take (beginAt log)).drop 1
theorem midR_len (log : List Str) : (midR log).length = beginAt log - 1 := by
  have : beginAt log ≤ log.length := List.findIdx_le_length
  unfold midR; rw [List.length_drop, List.length_take]; omega
theorem midR_at {log : List Str} {i : Nat} {row : Str} (h : ∀ j, j < i + 2 → log[j]? ≠ some ("begin" : Str)) (hr : log[i + 1]? = some row) : (midR log)[i]? = some row := by
  have h1 := (List.getElem?_eq_some_iff.mp hr).1
  have h2 := begin_le h (by omega)
  unfold midR
  rw [List.getElem?_drop, Nat.add_comm 1 i, List.getElem?_take_of_lt (by omega)]
  exact hr
section
variable {log : List Str} {r0 : Str} {sp : Option Str}
theorem readL_first (h0 : log[0]? = some r0) (h1 : spareOf r0 = none) : readL log = .inr 0 := by unfold readL; rw [h0]; dsimp only; rw [h1]
theorem readL_row (h0 : log[0]? = some r0) (h1 : spareOf r0 = some sp) {k : Nat} (h2 : rdL sp [] (midR log) = .inr k) : readL log = .inr (1 + k) := by
  unfold midR at h2
  unfold readL; rw [h0]; dsimp only; rw [h1]; dsimp only; rw [h2]
theorem readL_begin (h0 : log[0]? = some r0) (h1 : spareOf r0 = some sp) {prs : Pr} (h2 : rdL sp [] (midR log) = .inl prs) (h3 : beginAt log = log.length ∨ (sp = none ∧ rings prs ≠ [])) : readL log = .inr (beginAt log) := by
  unfold midR at h2
  unfold readL; rw [h0]; dsimp only; rw [h1]; dsimp only; rw [h2]; dsimp only; rw [if_pos h3]
theorem readL_bad (h0 : log[0]? = some r0) (h1 : spareOf r0 = some sp) {prs : Pr} (h2 : rdL sp [] (midR log) = .inl prs) (h3 : ¬ (beginAt log = log.length ∨ (sp = none ∧ rings prs ≠ []))) {k : Nat} (h4 : badAt (deedsL prs sp) (log.drop (beginAt log + 1)) = some k) : readL log = .inr (beginAt log + 1 + k) := by
  unfold midR at h2
  unfold readL; rw [h0]; dsimp only; rw [h1]; dsimp only; rw [h2]; dsimp only; rw [if_neg h3, h4]
theorem readL_all (h0 : log[0]? = some r0) (h1 : spareOf r0 = some sp) {prs : Pr} (h2 : rdL sp [] (midR log) = .inl prs) (h3 : ¬ (beginAt log = log.length ∨ (sp = none ∧ rings prs ≠ []))) (h4 : badAt (deedsL prs sp) (log.drop (beginAt log + 1)) = none) : readL log = .inl (prs, sp, beginAt log) := by
  unfold midR at h2
  unfold readL; rw [h0]; dsimp only; rw [h1]; dsimp only; rw [h2]; dsimp only; rw [if_neg h3, h4]
end
def spLPair : Sp := fun vs H Q _ => ∃ row : Str, vs = [.str row] ∧ row.length ≤ 1000 ∧ fineS row ∧ (pairOf row = none → ∀ H', Kp [] H H' → Q .non H') ∧ ∀ o n, pairOf row = some (o, n) → ∀ t H', H t = none → Kp [] H H' → H' t = some (.tup [.str o, oV n]) → Q (.ref t) H'
def spDueG : Sp := fun vs H Q _ => ∃ (l : Addr) (log : List Str), vs = [.ref l] ∧ H l = some (.lst (log.map V.str)) ∧ LogOk log ∧ ∀ H', Kp [] H H' → (∀ k : Nat, readL log = .inr k → Q (.int k) H') ∧ ∀ r, readL log = .inl r → Q .non H'
/-- what is told of a log -/
noncomputable def toldG (log : List Str) : Option Nat := match readL log with
  | .inr k => some k
  | .inl _ => none
def spToldG (C : Addr) : Sp := fun vs H Q _ => ∃ (q : Int) (s d l : Addr) (th : Th) (log : List Str), vs = [.int q, .ref s, .ref l] ∧ ShAt [] C H s d th ∧ ThA th ∧ th.length < 64 ∧ H l = some (.lst (log.map V.str)) ∧ LogOk log ∧
  (∀ r, readL log = .inl r → q = 0 ∧ ∀ H', Kp [] H H' → Q .non H') ∧ ∀ k : Nat, readL log = .inr k → ∀ t H', H t = none → Kp [] H H' → H' t = some (.tup [.str "row", .int k]) → Q (.ref t) H'
def spSpoilG : Sp := fun vs H Q _ => ∃ (st l pl : Addr) (nn log : List Str), vs = [.ref st, .ref l, .ref pl] ∧ St1 H st ∧ H l = some (.lst (log.map V.str)) ∧ H pl = some (.lst (nn.map V.str)) ∧ PoolOk nn ∧ LogN log 50 30 ∧ 0 < log.length ∧
  ∀ r z H', H r = none → Kp [st] H H' → St1 H' st → H' r = some (.lst (z.map V.str)) → LogN z 100 35 → Q (.ref r) H'
theorem row_sum {prs : Pr} {sp : Option Str} (hpo : PlOk prs) (hs : ∀ s, sp = some s → isName s = true) {dd : Dd} (hd : dd ∈ deedsL prs sp) : ((ddS dd).map (·.length)).sum + (ddS dd).length * (" " : Str).length ≤ 100 := by
  have hin := deeds_in (sp := sp) (N := keys prs ++ news prs ++ [spS sp]) (fun o ho => by simp [ho]) (fun n hn => by simp [hn]) (fun _ => by simp) dd hd
  have hN : ∀ n ∈ keys prs ++ news prs ++ [spS sp], n.length ≤ 8 := fun n hn => by
    rcases List.mem_append.mp hn with hn | hn
    · rcases List.mem_append.mp hn with hn | hn
      · exact name_len (hpo.olds n hn)
      · exact name_len (hpo.news n hn)
    · rw [List.mem_singleton.mp hn]
      cases sp with
      | none => decide +kernel
      | some s => exact name_len (hs s rfl)
  have h1 : ∀ z ∈ ddS dd, z.length ≤ 8 := fun z hz => by
    obtain ⟨o, n⟩ := dd
    cases n with
    | none =>
      rcases List.mem_cons.mp hz with rfl | hz
      · decide +kernel
      · rw [List.mem_singleton.mp hz]; exact hN _ hin.1
    | some n =>
      rcases List.mem_cons.mp hz with rfl | hz
      · decide +kernel
      · rcases List.mem_cons.mp hz with rfl | hz
        · exact hN _ hin.1
        · rw [List.mem_singleton.mp hz]; exact hN _ (hin.2 n rfl)
  have h2 := sum_le_mul h1
  have h3 : (ddS dd).length ≤ 3 := by obtain ⟨o, n⟩ := dd; cases n <;> simp [ddS]
  rw [show (" " : Str).length = 1 by decide +kernel]
  omega
theorem g_iRng2 {ta : TA} {σ : L2.St} {H : Hp} {R : It → Hp → Prop} (q : ta σ H fun vs H1 => ∃ i j : Int, vs = [.int i, .int j] ∧ (-(2 ^ 62) ≤ i ∧ i < 2 ^ 62 ∧ -(2 ^ 62) ≤ j ∧ j < 2 ^ 62) ∧ R (Itr i (j - i).toNat) H1) : iRng2 ta σ H R := q
structure FRow (n : Nat) (z : Str) : Prop where
  len : z.length ≤ n
  fine : fineS z
theorem FRow.app {n m : Nat} {a b : Str} (h : FRow n a) (g : FRow m b) : FRow (n + m) (a ++ b) :=
  ⟨by rw [Str.length_append]; have := h.len; have := g.len; omega, fine_of fun c hc => by
    rw [app_list] at hc
    rcases List.mem_append.mp hc with hc | hc
    · exact fine_lt h.fine c hc
    · exact fine_lt g.fine c hc⟩
theorem FRow.le {n m : Nat} {a : Str} (h : FRow n a) (l : n ≤ m) : FRow m a := ⟨Nat.le_trans h.len l, h.fine⟩
theorem FRow.name {z : Str} (h : isName z = true) : FRow 8 z := ⟨name_len h, name_fine h⟩
theorem FRow.lit {n : Nat} {z : Str} (h : (decide (z.length ≤ n) && PyData.strOk z) = true) : FRow n z := by
  simp only [Bool.and_eq_true, decide_eq_true_eq] at h
  exact ⟨h.1, h.2⟩
theorem cutV_len {xs : List V} {i j : Nat} : (cutV xs (some i) (some j)).length ≤ j - i := by
  unfold cutV
  have e1 : HT.sIx xs.length 0 (some (i : Int)) = min i xs.length := by show (if (i : Int) < 0 then ((i : Int) + (xs.length : Int)).toNat else min (i : Int).toNat xs.length) = _; rw [if_neg (by omega)]; rfl
  have e2 : HT.sIx xs.length xs.length (some (j : Int)) = min j xs.length := by show (if (j : Int) < 0 then ((j : Int) + (xs.length : Int)).toNat else min (j : Int).toNat xs.length) = _; rw [if_neg (by omega)]; rfl
  rw [e1, e2]
  simp only [List.length_drop, List.length_take]
  omega
theorem LogN.of {log : List Str} {n m : Nat} (hl : log.length ≤ m) (h : ∀ r ∈ log, FRow n r) : LogN log n m := ⟨hl, fun r hr => ⟨(h r hr).len, (h r hr).fine⟩⟩
theorem LogN.fr {log : List Str} {n m : Nat} (h : LogN log n m) {r : Str} (hr : r ∈ log) : FRow n r := ⟨(h.row r hr).1, (h.row r hr).2⟩
end NN
/-! a work on its way, and its log -/
namespace NN
open PySem L2
structure WGo (hd : List Str) (ds : List Dd) (th : Th) (x : Wst) : Prop where
  rows : x.rows = hd ++ (ds.take (x.i + if x.b = true then 1 else 0)).map rowD
  il : x.i ≤ ds.length
  bl : x.b = true → x.i < ds.length
  pl : playT th (ds.take x.i) = some x.th
theorem WGo.start (hd : List Str) (ds : List Dd) (th : Th) : WGo hd ds th ⟨hd, 0, false, th⟩ := ⟨by simp, Nat.zero_le _, (fun h => nomatch h), rfl⟩
theorem WGo.half {hd : List Str} {ds : List Dd} {th te : Th} {x : Wst} (g : WGo hd ds th x) (hp : playT th ds = some te) : ∃ wd y, halfW ds x = some (wd, y) ∧ WGo hd ds th y := by
  cases hdd : ds[x.i]? with
  | none => exact ⟨"end", x, by unfold halfW; rw [hdd], g⟩
  | some d =>
    have hil := (List.getElem?_eq_some_iff.mp hdd).1
    obtain ⟨u, uw, e1, e2, e3⟩ := playT_cut hp hdd
    rw [g.pl] at e1
    have e1 := Option.some.inj e1
    subst e1
    cases hb : x.b with
    | true =>
      refine ⟨"deed", ⟨x.rows, x.i + 1, false, uw⟩, by unfold halfW; rw [hdd]; simp only [hb, if_true]; rw [e2]; rfl, ⟨?_, hil, fun h => (nomatch h), e3⟩⟩
      have := g.rows
      rw [hb, if_pos rfl] at this
      exact this
    | false =>
      refine ⟨"row", ⟨x.rows ++ [rowD d], x.i, true, x.th⟩, by unfold halfW; rw [hdd]; simp only [hb]; rfl, ⟨?_, g.il, fun _ => hil, g.pl⟩⟩
      have := g.rows
      rw [hb, if_neg Bool.false_ne_true, Nat.add_zero] at this
      show x.rows ++ [rowD d] = _
      rw [this, if_pos rfl, List.take_add_one, hdd, List.map_append, List.append_assoc]
      rfl
theorem rowD_len {d : Dd} (h1 : isName d.1 = true) (h2 : ∀ n, d.2 = some n → isName n = true) : (rowD d).length ≤ 22 := by
  obtain ⟨o, n⟩ := d
  have lo := name_len (show isName o = true from h1)
  have l1 : ("drop " : Str).length = 5 := by decide +kernel
  have l2 : ("move " : Str).length = 5 := by decide +kernel
  have l3 : (" " : Str).length = 1 := by decide +kernel
  rw [rowD_eq]
  cases n with
  | none =>
    show (("drop " : Str) ++ o).length ≤ 22
    rw [Str.length_append]; omega
  | some m =>
    have lm := name_len (h2 m rfl)
    show ((("move " : Str) ++ o) ++ (" " ++ m)).length ≤ 22
    rw [Str.length_append, Str.length_append, Str.length_append]; omega
theorem headR_row {l : Pr} {sp : Option Str} (hl : ∀ p ∈ l, isName p.1 = true ∧ ∀ n, p.2 = some n → isName n = true) (hs : ∀ s, sp = some s → isName s = true) : ∀ r ∈ headR l sp, r.length ≤ 22 ∧ fineS r := fun r hr => by
  unfold headR at hr
  rcases List.mem_cons.mp hr with rfl | hr
  · refine ⟨?_, first_fine fun s e => name_fine (hs s e)⟩
    cases sp with
    | none => show ("plan" : Str).length ≤ 22; decide +kernel
    | some s =>
      have := name_len (hs s rfl)
      show (("plan " : Str) ++ s).length ≤ 22
      rw [Str.length_append, show ("plan " : Str).length = 5 by decide +kernel]; omega
  · rcases List.mem_append.mp hr with hr | hr
    · obtain ⟨p, hp, rfl⟩ := List.mem_map.mp hr
      have := hl p hp
      exact ⟨Nat.le_trans (rowS_len this.1 this.2) (by decide), rowS_fine' this.1 this.2⟩
    · rw [List.mem_singleton.mp hr]
      exact ⟨by decide +kernel, show PyData.strOk "begin" = true by decide +kernel⟩
/-- a work's log is a log -/
theorem log_ok {l : Pr} {sp : Option Str} {ds : List Dd} {m : Nat} (hl : ∀ p ∈ l, isName p.1 = true ∧ ∀ n, p.2 = some n → isName n = true) (hs : ∀ s, sp = some s → isName s = true) (hll : l.length ≤ 7) (hd : DdN ds) (hdl : ds.length ≤ 14) : LogN (headR l sp ++ (ds.take m).map rowD) 50 30 := by
  refine ⟨?_, fun r hr => ?_⟩
  · rw [List.length_append, List.length_map, List.length_take]
    unfold headR
    rw [List.length_cons, List.length_append, List.length_map, List.length_singleton]
    omega
  · rcases List.mem_append.mp hr with hr | hr
    · have := headR_row hl hs r hr
      exact ⟨by omega, this.2⟩
    · obtain ⟨d, hdm, rfl⟩ := List.mem_map.mp hr
      have := hd d (List.mem_of_mem_take hdm)
      exact ⟨Nat.le_trans (rowD_len this.1 this.2) (by decide), rowD_fine this.1 this.2⟩
theorem byOlds_len {prs : Pr} (pl : PlOk prs) : (byOlds prs).length = prs.length := (byOlds_self pl.ndo).length_eq
def rowK (k : Int) : D := .t [.v (.str "row"), .v (.int k)]
theorem fine_rowD (k : Int) : fineD (rowK k) := by
  refine FineN.fine (n := 1) (FineN.t (n := 0) fun d hd => ?_) (by decide)
  rcases List.mem_cons.mp hd with rfl | hd
  · exact .str (show PyData.strOk "row" = true by decide +kernel)
  · rw [List.mem_singleton.mp hd]; exact .int
theorem rowK_new {H : Hp} {t : Addr} {k : Int} (ht : H t = none) : At [] (upd H t (.tup [.str "row", .int k])) (.ref t) (rowK k) := At.newT ht (fun _ z => nomatch z) (AtL.two _ _)
theorem rowK_at {H : Hp} {t : Addr} {k : Int} (ht : H t = some (.tup [.str "row", .int k])) : At [] H (.ref t) (rowK k) := .t (by simp) ht (AtL.two _ _)
end NN
/-! works cut anywhere: their things, whatever their order -/
namespace NN
open PySem L2
theorem lk_some_iff (th : Th) (n : Str) : (lk th n).isSome = true ↔ n ∈ keys th := by
  rw [lk_isSome]; simp
theorem stepM_T {th t : Th} {d : Dd} (h : stepT th d = some t) : stepM (lk th) d = some (lk t) := by
  obtain ⟨o, n⟩ := d
  unfold stepT at h
  unfold stepM
  cases e : lk th o with
  | none => rw [e] at h; cases h
  | some v =>
    rw [e] at h
    cases n with
    | none =>
      have h : some (drop th o) = some t := h
      cases h
      show some (upf (lk th) o none) = _
      rw [lk_drop_upf]
    | some n =>
      have h : (if n ∈ keys th then none else some (put (drop th o) n v)) = some t := h
      show (if ((lk th) n).isSome = true then none else some (upf (upf (lk th) o none) n (some v))) = _
      by_cases hn : n ∈ keys th
      · rw [if_pos hn] at h; cases h
      · rw [if_neg hn] at h
        cases h
        rw [if_neg (fun z => hn ((lk_some_iff th n).mp z)), lk_put_upf]
theorem playM_T : ∀ {ds : List Dd} {th t : Th}, playT th ds = some t → playM (lk th) ds = some (lk t)
  | [], th, t, h => by cases h; rfl
  | d :: r, th, t, h => by
    have h : (stepT th d).bind (fun u => playT u r) = some t := h
    obtain ⟨u, h1, h2⟩ := Option.bind_eq_some_iff.mp h
    show (stepM (lk th) d).bind (fun m' => playM m' r) = _
    rw [stepM_T h1]
    exact playM_T h2
theorem playM_cut {m e : Mp} {ds : List Dd} (h : playM m ds = some e) {i : Nat} {d : Dd} (hd : ds[i]? = some d) : ∃ u v, playM m (ds.take i) = some u ∧ stepM u d = some v ∧ playM m (ds.take (i + 1)) = some v := by
  have hl := (List.getElem?_eq_some_iff.mp hd).1
  have e1 : ds = ds.take i ++ d :: ds.drop (i + 1) := by
    rw [← (List.getElem?_eq_some_iff.mp hd).2, ← List.drop_eq_getElem_cons hl, List.take_append_drop]
  rw [e1, playM_append] at h
  obtain ⟨u, h1, h2⟩ := Option.bind_eq_some_iff.mp h
  have h2 : (stepM u d).bind (fun m' => playM m' (ds.drop (i + 1))) = some e := h2
  obtain ⟨v, h3, _⟩ := Option.bind_eq_some_iff.mp h2
  refine ⟨u, v, h1, h3, ?_⟩
  rw [List.take_add_one, hd, playM_append, h1]
  show (stepM u d).bind (fun m' => some m') = _
  rw [h3]; rfl
/-- a move taken back -/
theorem stepM_back {u v : Mp} {o n : Str} (h : stepM u (o, some n) = some v) : stepM v (n, some o) = some u := by
  unfold stepM at h
  cases e : u o with
  | none => rw [show (o, some n).1 = o from rfl, e] at h; cases h
  | some x =>
    rw [show (o, some n).1 = o from rfl, e] at h
    have h : (if (u n).isSome = true then none else some (upf (upf u o none) n (some x))) = some v := h
    by_cases hn : (u n).isSome = true
    · rw [if_pos hn] at h; cases h
    · rw [if_neg hn] at h
      have hn0 : u n = none := by cases q : u n with | none => rfl | some y => rw [q] at hn; exact absurd rfl hn
      have ne : o ≠ n := fun q => by rw [q, hn0] at e; cases e
      cases h
      have v1 : upf (upf u o none) n (some x) n = some x := by unfold upf; rw [if_pos rfl]
      have v2 : upf (upf u o none) n (some x) o = none := by unfold upf; rw [if_neg ne, if_pos rfl]
      unfold stepM
      show (match upf (upf u o none) n (some x) n with | none => none | some v => _) = _
      rw [v1]
      show (if (upf (upf u o none) n (some x) o).isSome = true then none else some (upf (upf (upf (upf u o none) n (some x)) n none) o (some x))) = some u
      rw [v2]
      rw [if_neg (by simp)]
      congr 1
      funext y
      unfold upf
      by_cases h1 : y = o
      · rw [if_pos h1, h1, e]
      · rw [if_neg h1]
        by_cases h2 : y = n
        · rw [if_pos h2, h2, hn0]
        · rw [if_neg h2, if_neg h2, if_neg h1]
theorem backs_snoc (l : List Dd) (d : Dd) : backs (l ++ [d]) = (d.2.getD "", some d.1) :: backs l := by unfold backs; rw [List.reverse_append]; rfl
theorem playM_back {m : Mp} : ∀ {k : Nat} {ds : List Dd} {e : Mp}, ds.length = k → (∀ d ∈ ds, ∃ n, d.2 = some n) → playM m ds = some e → playM e (backs ds) = some m
  | 0, ds, e, hk, _, h => by
    rw [List.length_eq_zero_iff.mp hk] at h ⊢
    cases h; rfl
  | k + 1, ds, e, hk, hn, h => by
    have hne : ds ≠ [] := fun q => by rw [q] at hk; cases hk
    have hsp : ds = ds.dropLast ++ [ds.getLast hne] := (List.dropLast_concat_getLast hne).symm
    generalize ds.dropLast = l at hsp
    generalize ds.getLast hne = d at hsp
    subst hsp
    rw [playM_append] at h
    obtain ⟨u, h1, h2⟩ := Option.bind_eq_some_iff.mp h
    have h2 : (stepM u d).bind (fun m' => some m') = some e := h2
    obtain ⟨v, h3, h4⟩ := Option.bind_eq_some_iff.mp h2
    cases h4
    obtain ⟨n, hn1⟩ := hn d (by simp)
    obtain ⟨o, dn⟩ := d
    have hn1 : dn = some n := hn1
    subst hn1
    rw [backs_snoc]
    show (stepM _ (n, some o)).bind (fun m' => playM m' (backs l)) = some m
    rw [stepM_back h3]
    exact playM_back (k := k) (by simpa using hk) (fun d hd => hn d (List.mem_append_left _ hd)) h1
/-- what is behind a step -/
theorem stepM_key {u v : Mp} {d : Dd} (h : stepM u d = some v) : (u d.1).isSome = true ∧ v d.1 = none := by
  obtain ⟨o, n⟩ := d
  unfold stepM at h
  cases e : u o with
  | none => rw [show (o, n).1 = o from rfl, e] at h; cases h
  | some x =>
    rw [show (o, n).1 = o from rfl, e] at h
    refine ⟨rfl, ?_⟩
    cases n with
    | none =>
      have h : some (upf u o none) = some v := h
      cases h
      show upf u o none o = none
      unfold upf; rw [if_pos rfl]
    | some n =>
      have h : (if (u n).isSome = true then none else some (upf (upf u o none) n (some x))) = some v := h
      by_cases hn : (u n).isSome = true
      · rw [if_pos hn] at h; cases h
      · rw [if_neg hn] at h
        have ne : o ≠ n := fun q => by rw [← q, e] at hn; exact hn rfl
        cases h
        show upf (upf u o none) n (some x) o = none
        unfold upf; rw [if_neg ne, if_pos rfl]
structure WMo (hd : List Str) (ds : List Dd) (m : Mp) (x : Wst) : Prop where
  rows : x.rows = hd ++ (ds.take (x.i + if x.b = true then 1 else 0)).map rowD
  il : x.i ≤ ds.length
  bl : x.b = true → x.i < ds.length
  pl : playM m (ds.take x.i) = some (lk x.th)
  nd : (keys x.th).Nodup
def posW (x : Wst) : Nat := 2 * x.i + if x.b = true then 1 else 0
theorem WMo.start {hd : List Str} {ds : List Dd} {th : Th} (nd : (keys th).Nodup) : WMo hd ds (lk th) ⟨hd, 0, false, th⟩ := ⟨by simp, Nat.zero_le _, (fun h => nomatch h), rfl, nd⟩
/-- what a half tells -/
def wordW (ds : List Dd) (x : Wst) : Str := if x.i = ds.length then "end" else if x.b = true then "deed" else "row"
theorem WMo.half {hd : List Str} {ds : List Dd} {m e : Mp} {x : Wst} (g : WMo hd ds m x) (hp : playM m ds = some e) : ∃ y, halfW ds x = some (wordW ds x, y) ∧ WMo hd ds m y ∧ posW y = min (posW x + 1) (2 * ds.length) := by
  cases hdd : ds[x.i]? with
  | none =>
    have hil : x.i = ds.length := Nat.le_antisymm g.il (List.getElem?_eq_none_iff.mp hdd)
    have hb : x.b = false := by cases q : x.b with | false => rfl | true => have := g.bl q; omega
    refine ⟨x, by unfold halfW wordW; rw [hdd, if_pos hil], g, ?_⟩
    unfold posW
    rw [hb, if_neg Bool.false_ne_true]; omega
  | some d =>
    have hil := (List.getElem?_eq_some_iff.mp hdd).1
    obtain ⟨u, v, e1, e2, e3⟩ := playM_cut hp hdd
    rw [g.pl] at e1
    have e1 := Option.some.inj e1
    subst e1
    cases hb : x.b with
    | true =>
      obtain ⟨t, f1, f2, f3⟩ := stepT_map g.nd e2
      subst f2
      refine ⟨⟨x.rows, x.i + 1, false, t⟩, by unfold halfW wordW; rw [hdd, if_neg (by omega)]; simp only [hb, if_true]; rw [f1]; rfl, ⟨?_, hil, (fun h => nomatch h), e3, f3⟩, ?_⟩
      · have := g.rows
        rw [hb, if_pos rfl] at this
        exact this
      · show 2 * (x.i + 1) + (if false = true then 1 else 0) = _
        unfold posW; rw [hb, if_pos rfl, if_neg Bool.false_ne_true]; omega
    | false =>
      refine ⟨⟨x.rows ++ [rowD d], x.i, true, x.th⟩, by unfold halfW wordW; rw [hdd, if_neg (by omega)]; simp only [hb]; rfl, ⟨?_, g.il, fun _ => hil, g.pl, g.nd⟩, ?_⟩
      · have := g.rows
        rw [hb, if_neg Bool.false_ne_true, Nat.add_zero] at this
        show x.rows ++ [rowD d] = _
        rw [this, if_pos rfl, List.take_add_one, hdd, List.map_append, List.append_assoc]
        rfl
      · show 2 * x.i + (if true = true then 1 else 0) = _
        unfold posW; rw [hb, if_pos rfl, if_neg Bool.false_ne_true]; omega
theorem WMo.full {hd : List Str} {ds : List Dd} {m : Mp} {x : Wst} (g : WMo hd ds m x) (h : posW x = 2 * ds.length) : x.i = ds.length ∧ x.b = false := by
  unfold posW at h
  cases q : x.b with
  | false => rw [q, if_neg Bool.false_ne_true] at h; exact ⟨by omega, rfl⟩
  | true => rw [q, if_pos rfl] at h; have := g.bl q; omega
/-- the log tells what is done -/
theorem WMo.done {hd : List Str} {ds : List Dd} {m e : Mp} {x : Wst} (g : WMo hd ds m x) (hp : playM m ds = some e) : doneN ds (x.i + if x.b = true then 1 else 0) (keys x.th) = x.i := by
  cases hb : x.b with
  | true =>
    rw [if_pos rfl]
    have hil := g.bl hb
    have hdd : ds[x.i]? = some ds[x.i] := List.getElem?_eq_getElem hil
    obtain ⟨u, v, e1, e2, _⟩ := playM_cut hp hdd
    rw [g.pl] at e1
    have e1 := Option.some.inj e1
    subst e1
    rw [doneN_at (by omega) (show ds[x.i + 1 - 1]? = _ from hdd), if_pos ((lk_some_iff _ _).mp (stepM_key e2).1)]; rfl
  | false =>
    rw [if_neg Bool.false_ne_true, Nat.add_zero]
    by_cases h0 : x.i = 0
    · rw [h0]; exact doneN_zero _ _
    · have hil : x.i - 1 < ds.length := by have := g.il; omega
      have hdd : ds[x.i - 1]? = some ds[x.i - 1] := List.getElem?_eq_getElem hil
      obtain ⟨u, v, _, e2, e3⟩ := playM_cut hp hdd
      rw [show x.i - 1 + 1 = x.i by omega, g.pl] at e3
      have e3 := Option.some.inj e3
      rw [doneN_at h0 hdd, if_neg]
      intro hk
      have := (lk_some_iff x.th _).mpr hk
      rw [e3, (stepM_key e2).2] at this
      cases this
theorem WMo.other {hd : List Str} {ds : List Dd} {m : Mp} {x : Wst} (g : WMo hd ds m x) {th : Th} (h : lk th = lk x.th) (nd : (keys th).Nodup) : WMo hd ds m ⟨x.rows, x.i, x.b, th⟩ := ⟨g.rows, g.il, g.bl, by show playM m (ds.take x.i) = some (lk th); rw [h]; exact g.pl, nd⟩
theorem keys_lk {a b : Th} (ha : (keys a).Nodup) (hb : (keys b).Nodup) (h : lk a = lk b) : (keys a).Perm (keys b) :=
  (List.perm_ext_iff_of_nodup ha hb).mpr fun k => by rw [← lk_some_iff, ← lk_some_iff, h]
theorem risT_lk {a b : Th} (ha : (keys a).Nodup) (hb : (keys b).Nodup) (h : lk a = lk b) : risT a = risT b := by
  unfold risT
  rw [srt_eq (keys_lk ha hb h), h]
theorem lk_risT {th : Th} (nd : (keys th).Nodup) : lk (risT th) = lk th := funext fun k => by
  have nr : (keys (risT th)).Nodup := by rw [keys_risT]; exact nd_srt nd
  by_cases hk : k ∈ keys th
  · obtain ⟨v, hv⟩ := lk_of_key hk
    rw [hv]
    refine lk_of_mem nr ?_
    unfold risT
    exact List.mem_map.mpr ⟨k, mem_srt.mpr hk, by rw [hv]; rfl⟩
  · rw [lk_none.mpr hk, lk_none.mpr fun h => hk (by rw [keys_risT] at h; exact mem_srt.mp h)]
theorem risT_ris {th : Th} (nd : (keys th).Nodup) : risT (risT th) = risT th := risT_lk (by rw [keys_risT]; exact nd_srt nd) nd (lk_risT nd)
/-- a row's words -/
theorem spl_rowD {d : Dd} (h1 : isName d.1 = true) (h2 : ∀ n, d.2 = some n → isName n = true) : spl 32 (rowD d) = ddS d := by
  obtain ⟨o, n⟩ := d
  have hd : ("drop " : Str).cps.toList = [100, 114, 111, 112] ++ [32] := by decide +kernel
  have hm : ("move " : Str).cps.toList = [109, 111, 118, 101] ++ [32] := by decide +kernel
  have td : tx [100, 114, 111, 112] = ("drop" : Str) := by decide +kernel
  have tm : tx [109, 111, 118, 101] = ("move" : Str) := by decide +kernel
  have ho := no_sp (show isName o = true from h1) 32 (by decide)
  rw [rowD_eq]
  unfold spl
  cases n with
  | none =>
    show (cutL 32 (("drop " : Str) ++ o).cps.toList).map tx = _
    rw [app_list, hd, List.append_assoc, List.singleton_append, cutL_app (by decide), cutL_none ho, List.map_cons, List.map_cons, td, tx_list]
    rfl
  | some n =>
    have hn := no_sp (h2 n rfl) 32 (by decide)
    show (cutL 32 ((("move " : Str) ++ o) ++ (" " ++ n)).cps.toList).map tx = _
    rw [app_list, app_list, app_list, hm, cps_sp, List.append_assoc, List.append_assoc, List.singleton_append, List.singleton_append, cutL_app (by decide), cutL_app ho, cutL_none hn, List.map_cons, List.map_cons, List.map_cons, tm, tx_list, tx_list]
    rfl
/-- the names of what was let go -/
def gonesD (ds : List Dd) : List Str := (ds.filter fun d => d.2.isNone).map (·.1)
theorem gones_first (ds : List Dd) : firstDrop ds = (gonesD ds)[0]? := by
  unfold firstDrop gonesD
  rw [List.getElem?_map, ← List.head?_eq_getElem?, List.head?_filter]
theorem headR_perm {a b : Pr} (p : a.Perm b) (sp : Option Str) : (headR a sp).Perm (headR b sp) := ((p.map rowS).append_right _).cons _
structure St13 (hd : List Str) (ds : List Dd) (m : Mp) (x : Wst) : Prop where
  go : WMo hd ds m x
  th : ThA x.th
  len : x.th.length ≤ 7
structure Fx (ds : List Dd) (m e : Mp) : Prop where
  play : playM m ds = some e
  dn : DdN ds
  len : ds.length ≤ 14
theorem half_th {ds : List Dd} {x y : Wst} {w : Str} (h : halfW ds x = some (w, y)) (dn : DdN ds) (hx : ThA x.th) : ThA y.th ∧ y.th.length ≤ x.th.length := by
  unfold halfW at h
  cases hdd : ds[x.i]? with
  | none => rw [hdd] at h; cases h; exact ⟨hx, Nat.le_refl _⟩
  | some d =>
    rw [hdd] at h
    cases hb : x.b with
    | false => simp only [hb] at h; cases h; exact ⟨hx, Nat.le_refl _⟩
    | true =>
      simp only [hb, if_true] at h
      obtain ⟨t, h1, h2⟩ := Option.map_eq_some_iff.mp h
      cases h2
      refine playT_ok (ds := [d]) hx (fun a ha => dn a (by rw [List.mem_singleton.mp ha]; exact List.mem_of_getElem? hdd)) ?_
      show (stepT x.th d).bind (fun t => some t) = some t
      rw [h1]; rfl
theorem St13.half {hd : List Str} {ds : List Dd} {m e : Mp} {x : Wst} (g : St13 hd ds m x) (f : Fx ds m e) : ∃ y, halfW ds x = some (wordW ds x, y) ∧ St13 hd ds m y ∧ posW y = min (posW x + 1) (2 * ds.length) := by
  obtain ⟨y, h1, h2, h3⟩ := g.go.half f.play
  have := half_th h1 f.dn g.th
  exact ⟨y, h1, ⟨h2, this.1, by have := g.len; omega⟩, h3⟩
theorem St13.rlen {hd : List Str} {ds : List Dd} {m : Mp} {x : Wst} (g : St13 hd ds m x) (hl : hd.length ≤ 9) (hd : ds.length ≤ 14) : x.rows.length ≤ 23 := by
  rw [g.go.rows, List.length_append, List.length_map, List.length_take]; omega
theorem St13.lim {hd : List Str} {ds : List Dd} {m e : Mp} {x : Wst} (g : St13 hd ds m x) (f : Fx ds m e) (hl : hd.length ≤ 9) : WkLim ds x :=
  ⟨f.dn, by have := f.len; omega, g.go.il, by have := g.rlen hl f.len; omega, by have := g.len; omega⟩
theorem St13.start {hd : List Str} {ds : List Dd} {th : Th} (h : ThA th) (hl : th.length ≤ 7) : St13 hd ds (lk th) ⟨hd, 0, false, th⟩ := ⟨.start h.nd, h, hl⟩
def spHalves (CW CS : Addr) : Sp := fun vs H Q _ => ∃ (wk s d t r : Addr) (n : Int) (ds : List Dd) (hd : List Str) (m e : Mp) (x : Wst), vs = [.ref wk, .int n] ∧ 0 ≤ n ∧ n ≤ 1000 ∧ WkAt CW H wk s t r ds x.rows x.i x.b ∧ ShAt [] CS H s d x.th ∧ r ≠ t ∧ Fx ds m e ∧ hd.length ≤ 9 ∧ St13 hd ds m x ∧
  ∀ y H', Kp [wk, r, d] H H' → WkAt CW H' wk s t r ds y.rows y.i y.b → ShAt [] CS H' s d y.th → St13 hd ds m y → posW y = min (posW x + n.toNat) (2 * ds.length) → Q .non H'
def spLog13 (CP : Addr) : Sp := fun vs H Q _ => ∃ (m p : Addr) (th : Th) (prs : Pr) (sp : Option Str) (e : Mp), vs = [.ref m, .ref p, oV sp] ∧ H m = some (.dK (dS th)) ∧ ThA th ∧ th.length ≤ 7 ∧ PlanAt [] CP H p prs ∧ PlOk prs ∧ prs.length ≤ 7 ∧ SpF sp ∧ deedsE prs (srt (keys th)) sp = none ∧ Fx (deedsL prs sp) (lk th) e ∧
  ∀ q H', H q = none → Kp [] H H' → H' q = some (.lst ((headL prs sp ++ (deedsL prs sp).map rowD).map V.str)) → Q (.ref q) H'
def spDeedsDone (CS : Addr) : Sp := fun vs H Q _ => ∃ (l s d : Addr) (v : V) (th : Th) (l0 : Pr) (sp : Option Str) (ds : List Dd) (k : Nat), vs = [.ref l, v, .ref s] ∧ H l = some (.lst ((headR l0 sp ++ (ds.take k).map rowD).map V.str)) ∧ (∀ p ∈ l0, isName p.1 = true ∧ ∀ n, p.2 = some n → isName n = true) ∧ l0.length ≤ 7 ∧ (∀ s, sp = some s → isName s = true) ∧ DdN ds ∧ ds.length ≤ 14 ∧ k ≤ ds.length ∧
  ShAt [] CS H s d th ∧ th.length < 64 ∧ ∀ q H', H q = none → Kp [] H H' → TdAt H' q (ds.take (doneN ds k (keys th))) → Q (.ref q) H'
def spOther : Sp := fun vs H Q _ => ∃ (st l : Addr) (l0 : Pr) (sp : Option Str) (rs : List Str), vs = [.ref st, .ref l] ∧ St1 H st ∧ H l = some (.lst ((headR l0 sp ++ rs).map V.str)) ∧ (∀ p ∈ l0, isName p.1 = true ∧ ∀ n, p.2 = some n → isName n = true) ∧ l0.length ≤ 7 ∧ rs.length ≤ 40 ∧ (∀ s, sp = some s → isName s = true) ∧ (∀ r ∈ rs, fineS r) ∧
  ∀ q l1 H', H q = none → Kp [st] H H' → St1 H' st → l1.Perm l0 → H' q = some (.lst ((headR l1 sp ++ rs).map V.str)) → Q (.ref q) H'
/-- where begin stands in a log -/
theorem begin_headR {l0 : Pr} {sp : Option Str} {rs : List Str} (hl : ∀ p ∈ l0, isName p.1 = true ∧ ∀ n, p.2 = some n → isName n = true) : beginAt (headR l0 sp ++ rs) = l0.length + 1 := by
  have e : headR l0 sp ++ rs = firstL sp :: (l0.map rowS ++ ("begin" : Str) :: rs) := by unfold headR; simp
  rw [e]
  refine begin_at (fun j hj => ?_) ?_
  · cases j with
    | zero => exact fun e => first_begin sp (Option.some.inj e)
    | succ j =>
      rw [List.getElem?_cons_succ, List.getElem?_append_left (by rw [List.length_map]; omega), List.getElem?_map]
      have hj2 : j < l0.length := by omega
      rw [List.getElem?_eq_getElem hj2]
      intro e
      have := hl _ (List.getElem_mem hj2)
      exact row_begin this.1 this.2 (Option.some.inj e)
  · rw [List.getElem?_cons_succ, List.getElem?_append_right (by rw [List.length_map]; omega), List.length_map, Nat.sub_self]; rfl
theorem begin_mem (l0 : Pr) (sp : Option Str) (rs : List Str) : ("begin" : Str) ∈ headR l0 sp ++ rs := by unfold headR; simp
theorem g_begin {K : PySem.W.Frag} {H : Hp} {Q : VK} {l : Addr} {log : List Str} (h : H l = some (.lst (log.map V.str))) (hb : ("begin" : Str) ∈ log) (q : Q (.int (beginAt log : Nat)) H) : rIndex K (.ref l) [.str (Str.ofString "begin")] H Q := by
  obtain ⟨b1, b2, b3⟩ := begin_lt hb
  refine g_index h rfl (flat_strs _) (beginAt log) (z := .str "begin") (by rw [List.getElem?_map, b2]; rfl) (by decide +kernel) (fun m' z' hm hz => ?_) q
  rw [List.getElem?_map] at hz
  obtain ⟨y, hy, e⟩ := Option.map_eq_some_iff.mp hz
  subst e
  have : y ≠ "begin" := fun e => b3 m' hm (by rw [hy, e])
  show (y == ("begin" : Str)) = false
  simpa using this
theorem fineV_str {S : List Addr} {H : Hp} {z : Str} (h : fineS z) : FineV S H (.str z) := ⟨_, .v _, FineN.fine (FineN.str (n := 0) h) (by decide)⟩
def spEnded (CW : Addr) : Sp := fun vs H Q _ => ∃ (wk s t r l : Addr) (ds : List Dd) (i : Nat) (b : Bool) (la lb : Pr) (sp : Option Str) (rs : List Str), vs = [.ref wk, .ref l] ∧ WkAt CW H wk s t r ds (headR la sp ++ rs) i b ∧ H l = some (.lst ((headR lb sp ++ rs).map V.str)) ∧ la.Perm lb ∧
  (∀ p ∈ la, isName p.1 = true ∧ ∀ n, p.2 = some n → isName n = true) ∧ (∀ p ∈ lb, isName p.1 = true ∧ ∀ n, p.2 = some n → isName n = true) ∧ la.length ≤ 7 ∧ rs.length ≤ 40 ∧ (∀ r ∈ headR la sp ++ rs, fineS r) ∧ ∀ H', Kp [] H H' → Q (.bl true) H'
theorem tds_at {H : Hp} : ∀ {ds : List Dd} {ps : List Addr}, ps.length = ds.length → (∀ (i : Nat) (p : Addr) (d : Dd), ps[i]? = some p → ds[i]? = some d → H p = some (.tup (ddV d))) → AtL [] H (ps.map V.ref) (ds.map encDd)
  | [], [], _, _ => .nil
  | [], _ :: _, h, _ => nomatch h
  | _ :: _, [], h, _ => nomatch h
  | d :: ds, p :: ps, h, h3 => by
    have hp := h3 0 p d rfl rfl
    have ih := tds_at (ds := ds) (ps := ps) (by simpa using h) fun i q e hq he => h3 (i + 1) q e (by simpa using hq) (by simpa using he)
    obtain ⟨o, n⟩ := d
    cases n with
    | none => exact .cons (.t (by simp) hp (AtL.two _ _)) ih
    | some n => exact .cons (.t (by simp) hp (.cons (.v _) (AtL.two _ _))) ih
theorem TdAt.atL {H : Hp} {t : Addr} {ds : List Dd} (h : TdAt H t ds) : ∃ ws, H t = some (.lst ws) ∧ ws.length = ds.length ∧ AtL [] H ws (ds.map encDd) := by
  obtain ⟨ps, h1, h2, h3⟩ := h.ex
  exact ⟨_, h1, by rw [List.length_map]; exact h2, tds_at h2 h3⟩
theorem fine_dds {ds : List Dd} (h : DdN ds) : FineN 2 (.l (ds.map encDd)) := FineN.l (n := 1) fun d hd => by
  obtain ⟨x, hx, rfl⟩ := List.mem_map.mp hd
  have ⟨h1, h2⟩ := h x hx
  refine encDd_fine (N := x.1 :: x.2.toList) ⟨by simp, fun n hn => by rw [hn]; simp⟩ fun n hn => ?_
  rcases List.mem_cons.mp hn with rfl | hn
  · exact name_fine h1
  · cases e : x.2 with
    | none => rw [e] at hn; cases hn
    | some m => rw [e] at hn; rw [List.mem_singleton.mp hn]; exact name_fine (h2 m e)
structure Cut (log : List Str) (l0 : Pr) (sp : Option Str) (ds : List Dd) (k : Nat) (th0 th : Th) : Prop where
  eq : log = headR l0 sp ++ (ds.take k).map rowD
  rd : readL log = .inl (l0, sp, l0.length + 1)
  same : deedsL l0 sp = ds
  nm : ∀ p ∈ l0, isName p.1 = true ∧ ∀ n, p.2 = some n → isName n = true
  len : l0.length ≤ 7
  spn : ∀ s, sp = some s → isName s = true
  dn : DdN ds
  dlen : ds.length ≤ 14
  kl : k ≤ ds.length
  a0 : ThA th0
  a : ThA th
  tlen : th.length ≤ 7
  play : playM (lk th0) (ds.take (doneN ds k (keys th))) = some (lk th)
def spTakenBack (CS : Addr) : Sp := fun vs H Q _ => ∃ (s d l m : Addr) (log : List Str) (l0 : Pr) (sp : Option Str) (ds : List Dd) (k : Nat) (th0 th : Th), vs = [.ref s, .ref l, .ref m] ∧ ShAt [] CS H s d th ∧ H l = some (.lst (log.map V.str)) ∧ H m = some (.dK (dS th0)) ∧ m ≠ d ∧ Cut log l0 sp ds k th0 th ∧
  ∀ th' H', Kp [d] H H' → ShAt [] CS H' s d th' → ThA th' → th'.length ≤ th.length → (gonesD (ds.take (doneN ds k (keys th))) = [] → lk th' = lk th0) → Q (.bl true) H'
theorem Cut.many {log : List Str} {l0 : Pr} {sp : Option Str} {ds : List Dd} {k : Nat} {th0 th : Th} (c : Cut log l0 sp ds k th0 th) : manyL log (l0.length + 1) = k := by
  unfold manyL
  rw [c.eq, List.length_append, List.length_map, List.length_take]
  unfold headR
  rw [List.length_cons, List.length_append, List.length_map, List.length_singleton]
  have := c.kl
  omega
theorem Cut.ok {log : List Str} {l0 : Pr} {sp : Option Str} {ds : List Dd} {k : Nat} {th0 th : Th} (c : Cut log l0 sp ds k th0 th) : LogN log 50 30 := by rw [c.eq]; exact log_ok c.nm c.spn c.len c.dn c.dlen
/-- the moves that take back lead to the beginning -/
theorem Cut.back {log : List Str} {l0 : Pr} {sp : Option Str} {ds : List Dd} {k : Nat} {th0 th : Th} (c : Cut log l0 sp ds k th0 th) (h : firstDrop (ds.take (doneN ds k (keys th))) = none) : ∃ t, playT th (backs (ds.take (doneN ds k (keys th)))) = some t ∧ lk t = lk th0 ∧ ThA t ∧ t.length ≤ th.length := by
  have hall := firstDrop_all h
  obtain ⟨t, e1, e2, e3⟩ := playT_map c.a.nd (playM_back rfl hall c.play)
  have := playT_ok c.a (fun d hd => by
    unfold backs at hd
    obtain ⟨d0, h0, rfl⟩ := List.mem_map.mp hd
    have h0 := List.mem_reverse.mp h0
    obtain ⟨n, hn⟩ := hall _ h0
    have := c.dn d0 (List.mem_of_mem_take h0)
    exact ⟨by rw [hn]; exact this.2 n hn, fun m hm => by cases hm; exact this.1⟩) e1
  exact ⟨t, e1, e2, this⟩
theorem fine_lg {o : Str} (h : fineS o) : fineD (.t [.v (.str "letgo"), .v (.str o)]) := by
  refine FineN.fine (n := 1) (FineN.t (n := 0) fun d hd => ?_) (by decide)
  rcases List.mem_cons.mp hd with rfl | hd
  · exact .str (show PyData.strOk "letgo" = true by decide +kernel)
  · rw [List.mem_singleton.mp hd]; exact .str h
theorem ok_dds {n : Nat} {ds : List Dd} (h : DdN ds) (hl : ds.length ≤ 1000) : okD (n + 2) (.l (ds.map encDd)) := .l (by simpa using hl) fun d hd => by
  obtain ⟨x, hx, rfl⟩ := List.mem_map.mp hd
  have ⟨h1, h2⟩ := h x hx
  obtain ⟨o, m⟩ := x
  have s : ∀ {z : Str}, fineS z → okD n (.v (.str z)) := fun {z} f => .v (.inr (.inr (.inr ⟨z, rfl, f⟩)))
  have fd : fineS ("drop" : Str) := show PyData.strOk "drop" = true by decide +kernel
  have fm : fineS ("move" : Str) := show PyData.strOk "move" = true by decide +kernel
  cases m with
  | none =>
    refine .t (by simp) fun e he => ?_
    rcases List.mem_cons.mp he with rfl | he
    · exact s fd
    · rw [List.mem_singleton.mp he]; exact s (name_fine h1)
  | some m =>
    refine .t (by simp) fun e he => ?_
    rcases List.mem_cons.mp he with rfl | he
    · exact s fm
    · rcases List.mem_cons.mp he with rfl | he
      · exact s (name_fine h1)
      · rw [List.mem_singleton.mp he]; exact s (name_fine (h2 m rfl))
theorem backs_ddN {ds : List Dd} (h : DdN ds) (hall : ∀ d ∈ ds, ∃ n, d.2 = some n) : DdN (backs ds) := fun d hd => by
  unfold backs at hd
  obtain ⟨d0, h0, rfl⟩ := List.mem_map.mp hd
  have h0 := List.mem_reverse.mp h0
  obtain ⟨n, hn⟩ := hall _ h0
  have := h d0 h0
  exact ⟨by rw [hn]; exact this.2 n hn, fun m hm => by cases hm; exact this.1⟩
def spEnds (CW CS : Addr) : Sp := fun vs H Q _ => ∃ (wk s d t r wl du : Addr) (ds : List Dd) (la lb : Pr) (sp : Option Str) (m : Mp) (x : Wst) (thE : Th), vs = [.ref wk, .ref s, .ref wl, .ref du] ∧ WkAt CW H wk s t r ds x.rows x.i x.b ∧ ShAt [] CS H s d x.th ∧ r ≠ t ∧ Fx ds m (lk thE) ∧ St13 (headR la sp) ds m x ∧ la.Perm lb ∧
  (∀ p ∈ lb, isName p.1 = true ∧ ∀ n, p.2 = some n → isName n = true) ∧ lb.length ≤ 7 ∧ (∀ s, sp = some s → isName s = true) ∧ H wl = some (.lst ((headR lb sp ++ ds.map rowD).map V.str)) ∧ wl ≠ r ∧ H du = some (.dK (dS (risT thE))) ∧ du ≠ d ∧ ThA thE ∧
  ∀ y H', Kp [wk, r, d] H H' → WkAt CW H' wk s t r ds y.rows y.i y.b → ShAt [] CS H' s d y.th → St13 (headR la sp) ds m y → posW y = 2 * ds.length → Q (.bl true) H'
/-- a log cut, with the work's state -/
theorem Cut.of {l0 prs : Pr} {sp : Option Str} {th0 : Th} {e : Mp} {x : Wst} (p : l0.Perm prs) (pl : PlOk prs) (hl : prs.length ≤ 7) (hs : ∀ s, sp = some s → isName s = true ∧ s ∉ keys prs ∧ s ∉ NN.news prs) (hr : rings prs ≠ [] → sp ≠ none) (f : Fx (deedsL prs sp) (lk th0) e) (g : St13 (headR l0 sp) (deedsL prs sp) (lk th0) x) (a0 : ThA th0) :
    Cut x.rows l0 sp (deedsL prs sp) (x.i + if x.b = true then 1 else 0) th0 x.th := by
  have hl0 := pl.perm p
  refine ⟨g.go.rows, ?_, deedsL_perm p pl sp, hl0.names, by rw [p.length_eq]; exact hl, fun s e => (hs s e).1, f.dn, f.len, ?_, a0, g.th, g.len, ?_⟩
  · rw [g.go.rows]; exact readL_good p pl hs hr
  · have := g.go.il
    cases q : x.b with
    | false => rw [if_neg Bool.false_ne_true]; omega
    | true => rw [if_pos rfl]; have := g.go.bl q; omega
  · rw [g.go.done f.play]; exact g.go.pl
def spGoneOnRight (CS : Addr) : Sp := fun vs H Q _ => ∃ (s d l wl : Addr) (v : V) (l0 lb : Pr) (sp : Option Str) (ds : List Dd) (m e : Mp) (th0 : Th) (x : Wst), vs = [.ref s, .ref l, v, .ref wl] ∧ ShAt [] CS H s d x.th ∧ H l = some (.lst (x.rows.map V.str)) ∧ H wl = some (.lst ((headR lb sp ++ ds.map rowD).map V.str)) ∧
  Cut x.rows l0 sp ds (x.i + if x.b = true then 1 else 0) th0 x.th ∧ Fx ds m e ∧ St13 (headR l0 sp) ds m x ∧ (∀ p ∈ lb, isName p.1 = true ∧ ∀ n, p.2 = some n → isName n = true) ∧ lb.length = l0.length ∧ ∀ H', Kp [d] H H' → Q (.bl true) H'
end NN
/-! the shortest row, by going through all rows -/
namespace NN
section
variable {α : Type} [DecidableEq α]
inductive Rch (next : α → List α) : α → α → Nat → Prop
  | z (a : α) : Rch next a a 0
  | s {a b c : α} {n : Nat} : b ∈ next a → Rch next b c n → Rch next a c (n + 1)
theorem Rch.snoc {next : α → List α} {a b c : α} {n : Nat} (h : Rch next a b n) (hc : c ∈ next b) : Rch next a c (n + 1) := by
  induction h with
  | z a => exact .s hc (.z c)
  | s h1 _ ih => exact .s h1 (ih hc)
structure Bfs (next : α → List α) (beg : α) (w : List (α × Nat)) (p : Nat) : Prop where
  nd : (w.map (·.1)).Nodup
  hd : w[0]? = some (beg, 0)
  mono : ∀ (i j : Nat) (x y : α × Nat), i ≤ j → w[i]? = some x → w[j]? = some y → x.2 ≤ y.2
  near : ∀ (i j : Nat) (x y : α × Nat), p ≤ j → w[i]? = some x → w[j]? = some y → x.2 ≤ y.2 + 1
  done : ∀ (i : Nat) (x : α × Nat), i < p → w[i]? = some x → ∀ b ∈ next x.1, ∃ d, (b, d) ∈ w ∧ d ≤ x.2 + 1
  real : ∀ x ∈ w, Rch next beg x.1 x.2
  al : p ≤ w.length
def addB (d : Nat) (w : List (α × Nat)) (b : α) : List (α × Nat) := if b ∈ w.map (·.1) then w else w ++ [(b, d)]
theorem Bfs.start (next : α → List α) (beg : α) : Bfs next beg [(beg, 0)] 0 where
  nd := by simp
  hd := rfl
  mono := fun i j x y _ hx hy => by
    have hi := (List.getElem?_eq_some_iff.mp hx).1
    have hj := (List.getElem?_eq_some_iff.mp hy).1
    simp at hi hj
    subst hi; subst hj
    cases hx; cases hy; exact Nat.le_refl _
  near := fun i j x y _ hx hy => by
    have hi := (List.getElem?_eq_some_iff.mp hx).1
    have hj := (List.getElem?_eq_some_iff.mp hy).1
    simp at hi hj
    subst hi; subst hj
    cases hx; cases hy; omega
  done := fun i x h => absurd h (Nat.not_lt_zero _)
  real := fun x hx => by rw [List.mem_singleton.mp hx]; exact .z _
  al := Nat.zero_le _
/-- one more that is met -/
theorem Bfs.add {next : α → List α} {beg h b : α} {w : List (α × Nat)} {p d : Nat} (B : Bfs next beg w p) (hp : w[p]? = some (h, d)) (hb : b ∈ next h) (hn : b ∉ w.map (·.1)) : Bfs next beg (w ++ [(b, d + 1)]) p := by
  have hpl := (List.getElem?_eq_some_iff.mp hp).1
  have get : ∀ i x, (w ++ [(b, d + 1)])[i]? = some x → w[i]? = some x ∨ (i = w.length ∧ x = (b, d + 1)) := fun i x hx => by
    by_cases hi : i < w.length
    · rw [List.getElem?_append_left hi] at hx; exact .inl hx
    · rw [List.getElem?_append_right (by omega)] at hx
      have := (List.getElem?_eq_some_iff.mp hx).1
      simp at this
      have e : i = w.length := by omega
      subst e
      rw [Nat.sub_self] at hx
      cases hx
      exact .inr ⟨rfl, rfl⟩
  refine ⟨?_, ?_, ?_, ?_, ?_, ?_, ?_⟩
  · rw [List.map_append, List.nodup_append]
    refine ⟨B.nd, by simp, fun a ha c hc e => ?_⟩
    simp at hc
    subst hc; subst e
    exact hn ha
  · rw [List.getElem?_append_left (by omega)]; exact B.hd
  · intro i j x y hij hx hy
    rcases get i x hx with hx | ⟨rfl, rfl⟩
    · rcases get j y hy with hy | ⟨rfl, rfl⟩
      · exact B.mono i j x y hij hx hy
      · exact B.near i p x (h, d) (Nat.le_refl _) hx hp
    · rcases get j y hy with hy | ⟨rfl, rfl⟩
      · have := (List.getElem?_eq_some_iff.mp hy).1; omega
      · exact Nat.le_refl _
  · intro i j x y hij hx hy
    rcases get i x hx with hx | ⟨rfl, rfl⟩
    · rcases get j y hy with hy | ⟨rfl, rfl⟩
      · exact B.near i j x y hij hx hy
      · have := B.near i p x (h, d) (Nat.le_refl _) hx hp
        show x.2 ≤ d + 1 + 1
        have : x.2 ≤ d + 1 := this
        omega
    · rcases get j y hy with hy | ⟨rfl, rfl⟩
      · have := B.mono p j (h, d) y hij hp hy
        have : d ≤ y.2 := this
        show d + 1 ≤ y.2 + 1
        omega
      · show d + 1 ≤ d + 1 + 1
        omega
  · intro i x hi hx c hc
    rcases get i x hx with hx | ⟨rfl, rfl⟩
    · obtain ⟨e, h1, h2⟩ := B.done i x hi hx c hc
      exact ⟨e, List.mem_append_left _ h1, h2⟩
    · omega
  · intro x hx
    rcases List.mem_append.mp hx with hx | hx
    · exact B.real x hx
    · rw [List.mem_singleton.mp hx]
      exact (B.real (h, d) (List.mem_of_getElem? hp)).snoc hb
  · rw [List.length_append]; omega
/-- what is met after some of the next ones -/
structure Inn (next : α → List α) (beg h : α) (d p : Nat) (l : List α) (w : List (α × Nat)) : Prop where
  b : Bfs next beg w p
  hp : w[p]? = some (h, d)
  met : ∀ b ∈ l, ∃ e, (b, e) ∈ w ∧ e ≤ d + 1
theorem mem_fst {w : List (α × Nat)} {b : α} (h : b ∈ w.map (·.1)) : ∃ d, (b, d) ∈ w := by
  obtain ⟨x, hx, rfl⟩ := List.mem_map.mp h
  exact ⟨x.2, hx⟩
theorem Inn.add {next : α → List α} {beg h b : α} {w : List (α × Nat)} {p d : Nat} {l : List α} (I : Inn next beg h d p l w) (hb : b ∈ next h) : Inn next beg h d p (l ++ [b]) (addB (d + 1) w b) := by
  unfold addB
  by_cases hn : b ∈ w.map (·.1)
  · rw [if_pos hn]
    refine ⟨I.b, I.hp, fun c hc => ?_⟩
    rcases List.mem_append.mp hc with hc | hc
    · exact I.met c hc
    · rw [List.mem_singleton.mp hc]
      obtain ⟨e, he⟩ := mem_fst hn
      obtain ⟨j, hj⟩ := List.mem_iff_getElem?.mp he
      exact ⟨e, he, I.b.near j p (b, e) (h, d) (Nat.le_refl _) hj I.hp⟩
  · rw [if_neg hn]
    have hpl := (List.getElem?_eq_some_iff.mp I.hp).1
    refine ⟨I.b.add I.hp hb hn, by rw [List.getElem?_append_left hpl]; exact I.hp, fun c hc => ?_⟩
    rcases List.mem_append.mp hc with hc | hc
    · obtain ⟨e, h1, h2⟩ := I.met c hc
      exact ⟨e, List.mem_append_left _ h1, h2⟩
    · rw [List.mem_singleton.mp hc]
      exact ⟨d + 1, by simp, Nat.le_refl _⟩
theorem Bfs.inn {next : α → List α} {beg h : α} {w : List (α × Nat)} {p d : Nat} (B : Bfs next beg w p) (hp : w[p]? = some (h, d)) : Inn next beg h d p [] w := ⟨B, hp, fun _ h => nomatch h⟩
theorem Inn.bfs {next : α → List α} {beg h : α} {w : List (α × Nat)} {p d : Nat} (I : Inn next beg h d p (next h) w) : Bfs next beg w (p + 1) where
  nd := I.b.nd
  hd := I.b.hd
  mono := I.b.mono
  near := fun i j x y hj => I.b.near i j x y (by omega)
  done := fun i x hi hx c hc => by
    by_cases e : i = p
    · subst e
      rw [I.hp] at hx
      cases hx
      exact I.met c hc
    · exact I.b.done i x (by omega) hx c hc
  real := I.b.real
  al := (List.getElem?_eq_some_iff.mp I.hp).1
theorem fst_inj {w : List (α × Nat)} (nd : (w.map (·.1)).Nodup) {a : α} {d e : Nat} (h1 : (a, d) ∈ w) (h2 : (a, e) ∈ w) : d = e := by
  induction w with
  | nil => cases h1
  | cons x r ih =>
    rw [List.map_cons, List.nodup_cons] at nd
    rcases List.mem_cons.mp h1 with q1 | q1
    · rcases List.mem_cons.mp h2 with q2 | q2
      · rw [← q1] at q2; cases q2; rfl
      · rw [← q1] at nd; exact absurd (List.mem_map.mpr ⟨_, q2, rfl⟩) nd.1
    · rcases List.mem_cons.mp h2 with q2 | q2
      · rw [← q2] at nd; exact absurd (List.mem_map.mpr ⟨_, q1, rfl⟩) nd.1
      · exact ih nd.2 q1 q2
theorem Bfs.beg_mem {next : α → List α} {beg : α} {w : List (α × Nat)} {p : Nat} (B : Bfs next beg w p) : (beg, 0) ∈ w := List.mem_of_getElem? B.hd
/-- as few as in any row -/
theorem Bfs.least {next : α → List α} {beg g : α} {w : List (α × Nat)} {p D n : Nat} (B : Bfs next beg w p) (hg : (g, D) ∈ w) (r : Rch next beg g n) : D ≤ n := by
  refine Nat.le_of_not_lt fun hlt => ?_
  have key : ∀ {a : α} {k : Nat}, Rch next a g k → ∀ {e : Nat}, (a, e) ∈ w → e + k ≤ n → ∃ f, (g, f) ∈ w ∧ f ≤ n := by
    intro a k h
    clear r
    induction h with
    | z a => intro e he hk; exact ⟨e, he, by omega⟩
    | @s a b c m hb _ ih =>
      intro e he hk
      obtain ⟨i, hi⟩ := List.mem_iff_getElem?.mp he
      obtain ⟨j, hj⟩ := List.mem_iff_getElem?.mp hg
      have hip : i < p := by
        refine Nat.lt_of_not_le fun hpi => ?_
        have := B.near j i _ _ hpi hj hi
        have : D ≤ e + 1 := this
        omega
      obtain ⟨f, hf, hfe⟩ := B.done i _ hip hi b hb
      have hfe : f ≤ e + 1 := hfe
      exact ih hg hf (by omega)
  obtain ⟨f, hf, hfn⟩ := key r B.beg_mem (by omega)
  rw [fst_inj B.nd hg hf] at hlt
  omega
/-- as long as it is not met, there are more to go on from -/
theorem Bfs.more {next : α → List α} {beg g : α} {w : List (α × Nat)} {p n : Nat} (B : Bfs next beg w p) (r : Rch next beg g n) (hg : g ∉ w.map (·.1)) : p < w.length := by
  refine Nat.lt_of_not_le fun hle => hg ?_
  have key : ∀ {a : α} {k : Nat}, Rch next a g k → a ∈ w.map (·.1) → g ∈ w.map (·.1) := by
    intro a k h
    clear r
    induction h with
    | z a => exact id
    | @s a b c m hb _ ih =>
      intro ha
      obtain ⟨e, he⟩ := mem_fst ha
      obtain ⟨i, hi⟩ := List.mem_iff_getElem?.mp he
      have hil := (List.getElem?_eq_some_iff.mp hi).1
      obtain ⟨f, hf, _⟩ := B.done i _ (by omega) hi b hb
      exact ih hg (List.mem_map.mpr ⟨_, hf, rfl⟩)
  exact key r (List.mem_map.mpr ⟨_, B.beg_mem, rfl⟩)
/-- a fall of one at most each step -/
theorem rch_least {next : α → List α} {f : α → Nat} {I : α → Prop} (hI : ∀ a, I a → ∀ b ∈ next a, I b ∧ f a ≤ f b + 1) {a b : α} {n : Nat} (r : Rch next a b n) : I a → f a ≤ f b + n := by
  induction r with
  | z a => intro _; omega
  | s hb _ ih =>
    intro ha
    have ⟨h1, h2⟩ := hI _ ha _ hb
    have := ih h1
    omega
theorem Bfs.sub {next : α → List α} {beg : α} {w : List (α × Nat)} {p : Nat} (B : Bfs next beg w p) {u : List α} (hu : ∀ a n, Rch next beg a n → a ∈ u) : w.length ≤ u.length := by
  have h := nd_le B.nd (fun a ha => by
    obtain ⟨d, hd⟩ := mem_fst ha
    exact hu a d (B.real _ hd))
  rwa [List.length_map] at h
end
end NN
/-! rows of places -/
namespace NN
open PySem L2
open Classical in
section
abbrev Pl := List (Option Str)
def freeL (names : List Str) (goals p : Pl) (k : Nat) : Pl := ((names.filter fun n => decide (some n ∉ p)).map some) ++ (if goals[k]? = some none then [none] else [])
def fromL (names : List Str) (goals p : Pl) (k : Nat) : List Pl := match p[k]? with
  | some (some _) => (freeL names goals p k).map fun x => p.set k x
  | _ => []
def furtherL (names : List Str) (goals p : Pl) : List Pl := (List.range p.length).flatMap (fromL names goals p)
theorem mem_freeL {names : List Str} {goals p : Pl} {k : Nat} {x : Option Str} : x ∈ freeL names goals p k ↔ (∃ n ∈ names, some n ∉ p ∧ x = some n) ∨ (goals[k]? = some none ∧ x = none) := by
  unfold freeL
  rw [List.mem_append]
  constructor
  · rintro (h | h)
    · obtain ⟨n, hn, rfl⟩ := List.mem_map.mp h
      obtain ⟨h1, h2⟩ := List.mem_filter.mp hn
      exact .inl ⟨n, h1, of_decide_eq_true h2, rfl⟩
    · split at h
      · rename_i e; exact .inr ⟨e, List.mem_singleton.mp h⟩
      · cases h
  · rintro (⟨n, h1, h2, rfl⟩ | ⟨h1, rfl⟩)
    · exact .inl (List.mem_map.mpr ⟨n, List.mem_filter.mpr ⟨h1, decide_eq_true h2⟩, rfl⟩)
    · exact .inr (by rw [if_pos h1]; simp)
theorem mem_further {names : List Str} {goals p b : Pl} : b ∈ furtherL names goals p ↔ ∃ k o x, p[k]? = some (some o) ∧ x ∈ freeL names goals p k ∧ b = p.set k x := by
  unfold furtherL
  rw [List.mem_flatMap]
  constructor
  · rintro ⟨k, hk, h⟩
    unfold fromL at h
    split at h
    · rename_i o e
      obtain ⟨x, hx, rfl⟩ := List.mem_map.mp h
      exact ⟨k, o, x, e, hx, rfl⟩
    · cases h
  · rintro ⟨k, o, x, h1, h2, rfl⟩
    refine ⟨k, List.mem_range.mpr (List.getElem?_eq_some_iff.mp h1).1, ?_⟩
    unfold fromL
    rw [h1]
    exact List.mem_map.mpr ⟨x, h2, rfl⟩
noncomputable def movedN (goals p : Pl) : Nat := ((List.range goals.length).filter fun k => decide (p[k]? ≠ goals[k]?)).length
def Intact (held : List Str) (p : Pl) (r : List Str) : Prop := ∀ (k : Nat) (n : Str), held[k]? = some n → n ∈ r → p[k]? = some (some n)
noncomputable def intactN (prs : Pr) (held : List Str) (p : Pl) : Nat := ((rings prs).filter fun r => decide (Intact held p r)).length
noncomputable def phi (prs : Pr) (held : List Str) (p : Pl) : Nat := movedN (held.map (toO prs)) p + intactN prs held p
theorem fpos {α : Type} {P : α → Prop} {a : α} {l : List α} (h : P a) : (a :: l).filter (fun r => decide (P r)) = a :: l.filter (fun r => decide (P r)) := List.filter_cons_of_pos (p := fun r => decide (P r)) (decide_eq_true h)
theorem fneg {α : Type} {P : α → Prop} {a : α} {l : List α} (h : ¬ P a) : (a :: l).filter (fun r => decide (P r)) = l.filter (fun r => decide (P r)) := List.filter_cons_of_neg (p := fun r => decide (P r)) (by simpa using h)
theorem filter_fall {z : Str} {P Q : List Str → Prop} : ∀ {R : List (List Str)}, R.Pairwise (fun a b => ∀ x ∈ a, x ∉ b) → (∀ r ∈ R, P r → ¬ Q r → z ∈ r) → (R.filter fun r => decide (P r)).length ≤ (R.filter fun r => decide (Q r)).length + 1
  | [], _, _ => Nat.zero_le _
  | r :: R, pw, h => by
    rw [List.pairwise_cons] at pw
    have ih := filter_fall (R := R) pw.2 fun q hq => h q (List.mem_cons_of_mem _ hq)
    by_cases hz : z ∈ r
    · have sub : ∀ q ∈ R, P q → Q q := fun q hq hp => byContradiction fun hn => pw.1 q hq z hz (h q (List.mem_cons_of_mem _ hq) hp hn)
      have : (R.filter fun r => decide (P r)).length ≤ (R.filter fun r => decide (Q r)).length := by
        clear ih pw h
        induction R with
        | nil => exact Nat.le_refl _
        | cons q R ih =>
          have := ih fun q hq => sub q (List.mem_cons_of_mem _ hq)
          by_cases hp : P q
          · rw [fpos (hp), fpos ((sub q (List.mem_cons_self ..) hp))]
            simpa using this
          · rw [fneg hp]
            refine Nat.le_trans this ?_
            by_cases hq : Q q
            · rw [fpos (hq)]; simp
            · rw [fneg hq]; exact Nat.le_refl _
      have h1 : ((r :: R).filter fun r => decide (P r)).length ≤ (R.filter fun r => decide (P r)).length + 1 := by
        by_cases hp : P r
        · rw [fpos (hp)]; simp
        · rw [fneg hp]; omega
      have h2 : (R.filter fun r => decide (Q r)).length ≤ ((r :: R).filter fun r => decide (Q r)).length := by
        by_cases hq : Q r
        · rw [fpos (hq)]; simp
        · rw [fneg hq]; exact Nat.le_refl _
      omega
    · by_cases hp : P r
      · have hq : Q r := byContradiction fun hn => hz (h r (List.mem_cons_self ..) hp hn)
        rw [fpos (hp), fpos (hq)]
        simp only [List.length_cons]; omega
      · rw [fneg hp]
        refine Nat.le_trans ih ?_
        by_cases hq : Q r
        · rw [fpos (hq)]; simp
        · rw [fneg hq]; exact Nat.le_refl _
theorem filter_sub {P Q : List Str → Prop} : ∀ {R : List (List Str)}, (∀ r ∈ R, P r → Q r) → (R.filter fun r => decide (P r)).length ≤ (R.filter fun r => decide (Q r)).length
  | [], _ => Nat.le_refl _
  | q :: R, sub => by
    have := filter_sub (R := R) fun q hq => sub q (List.mem_cons_of_mem _ hq)
    by_cases hp : P q
    · rw [fpos (hp), fpos ((sub q (List.mem_cons_self ..) hp))]
      simpa using this
    · rw [fneg hp]
      refine Nat.le_trans this ?_
      by_cases hq : Q q
      · rw [fpos (hq)]; simp
      · rw [fneg hq]; exact Nat.le_refl _
theorem ring_next {prs : Pr} (pl : PlOk prs) {r : List Str} (hr : r ∈ rings prs) {z : Str} (hz : z ∈ r) : ∃ y ∈ r, nx prs z = some y ∧ y ≠ z := by
  obtain ⟨n, hc, _⟩ := rings_mem hr
  cases e : nx prs z with
  | none => exact absurd e (ring_nx hc hz)
  | some y =>
    refine ⟨y, lead_ring hc (.step e (.refl _)) hz, rfl, fun h => ?_⟩
    have := ((moved_all pl (o := z)).mpr (.inr (.inr ⟨r, hr, hz⟩))).2
    exact this (by rw [e, h])
/-- one deed, one step at most -/
theorem fall {prs : Pr} {held names : List Str} (pl : PlOk prs) (hsub : ∀ k ∈ keys prs, k ∈ held) {p : Pl} (hl : p.length = held.length) {b : Pl} (hb : b ∈ furtherL names (held.map (toO prs)) p) : b.length = held.length ∧ phi prs held p ≤ phi prs held b + 1 := by
  obtain ⟨k, o, x, hk, hx, rfl⟩ := mem_further.mp hb
  have hkl := (List.getElem?_eq_some_iff.mp hk).1
  refine ⟨by rw [List.length_set]; exact hl, ?_⟩
  obtain ⟨z, hz⟩ : ∃ z, held[k]? = some z := ⟨_, List.getElem?_eq_getElem (by omega)⟩
  have hg : (held.map (toO prs))[k]? = some (toO prs z) := by rw [List.getElem?_map, hz]; rfl
  have hbk : (p.set k x)[k]? = some x := by rw [List.getElem?_set_self hkl]
  have hbj : ∀ j, j ≠ k → (p.set k x)[j]? = p[j]? := fun j hj => List.getElem?_set_ne (fun e => hj e.symm)
  have lost : ∀ r ∈ rings prs, Intact held p r → ¬ Intact held (p.set k x) r → z ∈ r := fun r hr h1 h2 => byContradiction fun hn => h2 fun j n hj hn' => by
    by_cases e : j = k
    · subst e; rw [hz] at hj; cases hj; exact absurd hn' hn
    · rw [hbj j e]; exact h1 j n hj hn'
  have nd : ∀ q : Pl, ((List.range (held.map (toO prs)).length).filter fun k => decide (q[k]? ≠ (held.map (toO prs))[k]?)).Nodup := fun q => List.nodup_range.filter _
  unfold phi
  by_cases hxg : x = toO prs z
  · have m1 : movedN (held.map (toO prs)) p ≤ movedN (held.map (toO prs)) (p.set k x) + 1 := by
      have := nd_le (m := k :: (List.range (held.map (toO prs)).length).filter fun k' => decide ((p.set k x)[k']? ≠ (held.map (toO prs))[k']?)) (nd p) fun j hj => by
        obtain ⟨h1, h2⟩ := List.mem_filter.mp hj
        by_cases e : j = k
        · rw [e]; exact List.mem_cons_self ..
        · exact List.mem_cons_of_mem _ (List.mem_filter.mpr ⟨h1, by rw [hbj j e]; exact h2⟩)
      simpa [movedN] using this
    have m2 : intactN prs held p ≤ intactN prs held (p.set k x) := filter_sub fun r hr h1 => byContradiction fun h2 => by
      have hzr := lost r hr h1 h2
      obtain ⟨y, hy, e1, e2⟩ := ring_next pl hr hzr
      have e3 : x = some y := by
        rw [hxg]
        unfold toO
        rw [lk_nx e1]; rfl
      obtain ⟨n, hc, _⟩ := rings_mem hr
      obtain ⟨j, hj⟩ := List.mem_iff_getElem?.mp (hsub y (hc.keys y hy))
      have hin : some y ∈ p := List.mem_of_getElem? (h1 j y hj hy)
      rcases mem_freeL.mp hx with ⟨n, _, h3, h4⟩ | ⟨_, h4⟩
      · rw [e3] at h4; cases h4; exact h3 hin
      · rw [e3] at h4; cases h4
    omega
  · have m1 : movedN (held.map (toO prs)) p ≤ movedN (held.map (toO prs)) (p.set k x) := by
      have := nd_le (m := (List.range (held.map (toO prs)).length).filter fun k' => decide ((p.set k x)[k']? ≠ (held.map (toO prs))[k']?)) (nd p) fun j hj => by
        obtain ⟨h1, h2⟩ := List.mem_filter.mp hj
        refine List.mem_filter.mpr ⟨h1, ?_⟩
        by_cases e : j = k
        · rw [e, hbk, hg]; exact decide_eq_true fun q => hxg (Option.some.inj q)
        · rw [hbj j e]; exact h2
      simpa [movedN] using this
    have m2 : intactN prs held p ≤ intactN prs held (p.set k x) + 1 := filter_fall (z := z) (rings_pw pl) lost
    omega
theorem phi_goal {prs : Pr} {held : List Str} (pl : PlOk prs) (hsub : ∀ k ∈ keys prs, k ∈ held) : phi prs held (held.map (toO prs)) = 0 := by
  unfold phi movedN intactN
  have e1 : ((List.range (held.map (toO prs)).length).filter fun k => decide ((held.map (toO prs))[k]? ≠ (held.map (toO prs))[k]?)) = [] := by
    rw [List.filter_eq_nil_iff]; intro k _; simp
  have e2 : ((rings prs).filter fun r => decide (Intact held (held.map (toO prs)) r)) = [] := by
    rw [List.filter_eq_nil_iff]
    intro r hr
    simp only [decide_eq_true_eq]
    intro h
    obtain ⟨n, hc, _⟩ := rings_mem hr
    have hn : n ∈ r := List.mem_of_getElem? hc.hd
    obtain ⟨y, hy, e1, e2⟩ := ring_next pl hr hn
    obtain ⟨j, hj⟩ := List.mem_iff_getElem?.mp (hsub n (hc.keys n hn))
    have := h j n hj hn
    rw [List.getElem?_map, hj] at this
    have this : some (toO prs n) = some (some n) := this
    unfold toO at this
    rw [lk_nx e1] at this
    exact e2 (Option.some.inj (Option.some.inj this))
  rw [e1, e2]; rfl
theorem phi_start {prs : Pr} {held : List Str} (pl : PlOk prs) (hsub : ∀ k ∈ keys prs, k ∈ held) (hnd : held.Nodup) : (prs.filter fun p => decide (p.2 ≠ some p.1)).length + (rings prs).length ≤ phi prs held (held.map some) := by
  unfold phi
  have e2 : intactN prs held (held.map some) = (rings prs).length := by
    unfold intactN
    rw [List.filter_eq_self.mpr]
    intro r _
    refine decide_eq_true fun k n hk _ => ?_
    rw [List.getElem?_map, hk]; rfl
  rw [e2]
  have h1 : (prs.filter fun p => decide (p.2 ≠ some p.1)).length = ((prs.filter fun p => decide (p.2 ≠ some p.1)).map (·.1)).length := by rw [List.length_map]
  have h2 := nd_le (l := (prs.filter fun p => decide (p.2 ≠ some p.1)).map (·.1)) (m := ((List.range (held.map (toO prs)).length).filter fun k => decide ((held.map some)[k]? ≠ (held.map (toO prs))[k]?)).map fun k => held.getD k "") ((show (prs.map (·.1)).Nodup from pl.ndo).sublist ((List.filter_sublist).map _)) fun o ho => by
    obtain ⟨q, hq, rfl⟩ := List.mem_map.mp ho
    obtain ⟨q1, q2⟩ := List.mem_filter.mp hq
    have q2 := of_decide_eq_true q2
    obtain ⟨j, hj⟩ := List.mem_iff_getElem?.mp (hsub q.1 (List.mem_map.mpr ⟨q, q1, rfl⟩))
    have hjl := (List.getElem?_eq_some_iff.mp hj).1
    refine List.mem_map.mpr ⟨j, List.mem_filter.mpr ⟨List.mem_range.mpr (by rw [List.length_map]; exact hjl), ?_⟩, by rw [List.getD_eq_getElem?_getD, hj]; rfl⟩
    rw [List.getElem?_map, List.getElem?_map, hj]
    refine decide_eq_true fun e => ?_
    have e : some (some q.1) = some (toO prs q.1) := e
    unfold toO at e
    rw [lk_of_mem pl.ndo (show (q.1, q.2) ∈ prs from q1)] at e
    exact q2 (Option.some.inj e).symm
  rw [List.length_map, List.length_map] at h2
  unfold movedN
  omega
/-- no row is shorter -/
theorem no_fewer {prs : Pr} {held names : List Str} (pl : PlOk prs) (hsub : ∀ k ∈ keys prs, k ∈ held) (hnd : held.Nodup) {n : Nat} (r : Rch (furtherL names (held.map (toO prs))) (held.map some) (held.map (toO prs)) n) : (prs.filter fun p => decide (p.2 ≠ some p.1)).length + (rings prs).length ≤ n := by
  have h := rch_least (f := phi prs held) (I := fun p => p.length = held.length) (fun a ha b hb => fall pl hsub ha hb) r (by rw [List.length_map])
  rw [phi_goal pl hsub] at h
  have := phi_start pl hsub hnd
  omega
end
end NN
/-! the deeds as a row of places -/
namespace NN
open PySem L2
structure Rp (L : Nat) (p : Pl) (m : Mp) : Prop where
  len : p.length = L
  pos : ∀ (k : Nat) (n : Str), p[k]? = some (some n) ↔ (k < L ∧ m n = some (.int (k : Nat)))
  all : ∀ (n : Str) (v : V), m n = some v → ∃ k : Nat, k < L ∧ v = .int k
theorem Rp.uniq {L : Nat} {p q : Pl} {m : Mp} (h : Rp L p m) (h' : Rp L q m) : p = q := by
  refine List.ext_getElem? fun k => ?_
  by_cases hk : k < L
  · have e1 : p[k]? = some (p[k]'(by rw [h.len]; exact hk)) := List.getElem?_eq_getElem _
    have e2 : q[k]? = some (q[k]'(by rw [h'.len]; exact hk)) := List.getElem?_eq_getElem _
    cases c1 : p[k]'(by rw [h.len]; exact hk) with
    | some n => rw [c1] at e1; rw [e1, (h'.pos k n).mpr ((h.pos k n).mp e1)]
    | none =>
      rw [c1] at e1
      cases c2 : q[k]'(by rw [h'.len]; exact hk) with
      | none => rw [c2] at e2; rw [e1, e2]
      | some n =>
        rw [c2] at e2
        have := (h.pos k n).mpr ((h'.pos k n).mp e2)
        rw [e1] at this; cases this
  · rw [List.getElem?_eq_none (by rw [h.len]; omega), List.getElem?_eq_none (by rw [h'.len]; omega)]
theorem rp_step {L : Nat} {p : Pl} {m m' : Mp} {d : Dd} (h : Rp L p m) (e : stepM m d = some m') : ∃ k : Nat, p[k]? = some (some d.1) ∧ Rp L (p.set k d.2) m' ∧ ∀ n, d.2 = some n → some n ∉ p := by
  obtain ⟨o, x⟩ := d
  unfold stepM at e
  cases ho : m o with
  | none => rw [show (o, x).1 = o from rfl, ho] at e; cases e
  | some v =>
    rw [show (o, x).1 = o from rfl, ho] at e
    obtain ⟨k, hk, rfl⟩ := h.all o v ho
    have hpk := (h.pos k o).mpr ⟨hk, ho⟩
    have inj : ∀ {j : Nat} {n : Str}, p[j]? = some (some n) → p[k]? = some (some n) → j = k := fun {j n} h1 h2 => by
      have := ((h.pos j n).mp h1).2
      rw [((h.pos k n).mp h2).2] at this
      have := V.int.inj (Option.some.inj this)
      omega
    have hkl : k < p.length := by rw [h.len]; exact hk
    have set_ : ∀ (y : Option Str) (j : Nat), (p.set k y)[j]? = if j = k then some y else p[j]? := fun y j => by
      by_cases c : j = k
      · rw [if_pos c, c, List.getElem?_set_self hkl]
      · rw [if_neg c, List.getElem?_set_ne (fun e => c e.symm)]
    refine ⟨k, hpk, ?_⟩
    cases x with
    | none =>
      have e : some (upf m o none) = some m' := e
      cases e
      refine ⟨⟨by rw [List.length_set]; exact h.len, fun j n => ?_, fun n v hv => ?_⟩, fun n hn => nomatch hn⟩
      · rw [set_]
        unfold upf
        by_cases c : j = k
        · rw [if_pos c]
          constructor
          · intro z; cases z
          · rintro ⟨hj, z⟩
            by_cases c2 : n = o
            · rw [if_pos c2] at z; cases z
            · rw [if_neg c2] at z
              have := (h.pos j n).mpr ⟨hj, z⟩
              rw [c, hpk] at this
              cases this
              exact absurd rfl c2
        · rw [if_neg c, h.pos j n]
          by_cases c2 : n = o
          · rw [if_pos c2, c2, ho]
            constructor
            · rintro ⟨_, z⟩
              have := V.int.inj (Option.some.inj z)
              omega
            · rintro ⟨_, z⟩; cases z
          · rw [if_neg c2]
      · unfold upf at hv
        by_cases c2 : n = o
        · rw [if_pos c2] at hv; cases hv
        · rw [if_neg c2] at hv; exact h.all n v hv
    | some y =>
      have e : (if (m y).isSome = true then none else some (upf (upf m o none) y (some (V.int (k : Nat))))) = some m' := e
      by_cases hy : (m y).isSome = true
      · rw [if_pos hy] at e; cases e
      · rw [if_neg hy] at e
        cases e
        have hy0 : m y = none := by cases q : m y with | none => rfl | some z => rw [q] at hy; exact absurd rfl hy
        have ny : y ≠ o := fun q => by rw [q, ho] at hy0; cases hy0
        refine ⟨⟨by rw [List.length_set]; exact h.len, fun j n => ?_, fun n v hv => ?_⟩, fun n hn hin => ?_⟩
        · rw [set_]
          unfold upf
          by_cases c : j = k
          · subst c
            rw [if_pos rfl]
            constructor
            · intro z; cases z; exact ⟨hk, by rw [if_pos rfl]⟩
            · rintro ⟨_, z⟩
              by_cases c1 : n = y
              · rw [c1]
              · rw [if_neg c1] at z
                by_cases c2 : n = o
                · rw [if_pos c2] at z; cases z
                · rw [if_neg c2] at z
                  have := (h.pos j n).mpr ⟨hk, z⟩
                  rw [hpk] at this
                  cases this
                  exact absurd rfl c2
          · rw [if_neg c, h.pos j n]
            by_cases c1 : n = y
            · rw [if_pos c1, c1, hy0]
              constructor
              · rintro ⟨_, z⟩; cases z
              · rintro ⟨_, z⟩
                have := V.int.inj (Option.some.inj z)
                omega
            · rw [if_neg c1]
              by_cases c2 : n = o
              · rw [if_pos c2, c2, ho]
                constructor
                · rintro ⟨_, z⟩
                  have := V.int.inj (Option.some.inj z)
                  omega
                · rintro ⟨_, z⟩; cases z
              · rw [if_neg c2]
        · unfold upf at hv
          by_cases c1 : n = y
          · rw [if_pos c1] at hv; cases hv; exact ⟨k, hk, rfl⟩
          · rw [if_neg c1] at hv
            by_cases c2 : n = o
            · rw [if_pos c2] at hv; cases hv
            · rw [if_neg c2] at hv; exact h.all n v hv
        · have hn : y = n := Option.some.inj hn
          subst hn
          obtain ⟨j, hj⟩ := List.mem_iff_getElem?.mp hin
          rw [((h.pos j _).mp hj).2] at hy0
          cases hy0
theorem rp_row {L : Nat} {names : List Str} : ∀ {ds : List Dd} {p : Pl} {m e : Mp}, Rp L p m → playM m ds = some e → (∀ d ∈ ds, ∀ n, d.2 = some n → n ∈ names) → ∃ q, Rp L q e ∧ (∀ k : Nat, p[k]? = some none → q[k]? = some none) ∧ Rch (furtherL names q) p q ds.length
  | [], p, m, e, h, hp, _ => by
    cases hp
    exact ⟨p, h, fun _ z => z, .z p⟩
  | d :: r, p, m, e, h, hp, hn => by
    have hp : (stepM m d).bind (fun m' => playM m' r) = some e := hp
    obtain ⟨u, h1, h2⟩ := Option.bind_eq_some_iff.mp hp
    obtain ⟨k, hk, g, hf⟩ := rp_step h h1
    obtain ⟨q, g1, g2, g3⟩ := rp_row g h2 fun x hx => hn x (List.mem_cons_of_mem _ hx)
    have hkl := (List.getElem?_eq_some_iff.mp hk).1
    refine ⟨q, g1, fun j hj => g2 j ?_, .s (mem_further.mpr ⟨k, d.1, d.2, hk, ?_, rfl⟩) g3⟩
    · have c : j ≠ k := fun c => by rw [c, hk] at hj; cases hj
      rw [List.getElem?_set_ne (fun e => c e.symm)]; exact hj
    · refine mem_freeL.mpr ?_
      cases c : d.2 with
      | some n => exact .inl ⟨n, hn d (List.mem_cons_self ..) n c, hf n c, rfl⟩
      | none => exact .inr ⟨g2 k (by rw [List.getElem?_set_self hkl, c]), rfl⟩
/-- things by their places -/
def plTh (held : List Str) : Th := (List.range held.length).map fun k => (held.getD k "", V.int (k : Nat))
theorem plTh_keys (held : List Str) : keys (plTh held) = held := by
  unfold keys plTh
  rw [List.map_map]
  refine List.ext_getElem? fun i => ?_
  rw [List.getElem?_map]
  by_cases h : i < held.length
  · rw [List.getElem?_range h, List.getElem?_eq_getElem h]
    show some (held.getD i "") = _
    rw [List.getD_eq_getElem?_getD, List.getElem?_eq_getElem h]; rfl
  · rw [List.getElem?_eq_none (by rw [List.length_range]; omega), List.getElem?_eq_none (by omega)]; rfl
theorem plTh_mem {held : List Str} {o : Str} {v : V} : (o, v) ∈ plTh held ↔ ∃ k : Nat, held[k]? = some o ∧ v = .int k := by
  unfold plTh
  rw [List.mem_map]
  constructor
  · rintro ⟨k, hk, e⟩
    have hk := List.mem_range.mp hk
    have e1 := congrArg Prod.fst e
    have e2 := congrArg Prod.snd e
    refine ⟨k, ?_, e2.symm⟩
    have e1 : held.getD k "" = o := e1
    rw [List.getD_eq_getElem?_getD, List.getElem?_eq_getElem hk] at e1
    rw [List.getElem?_eq_getElem hk]
    exact congrArg some e1
  · rintro ⟨k, hk, rfl⟩
    exact ⟨k, List.mem_range.mpr (List.getElem?_eq_some_iff.mp hk).1, by rw [List.getD_eq_getElem?_getD, hk]; rfl⟩
theorem few_row {prs : Pr} {held names : List Str} {z : Str} (pl : PlOk prs) (hnd : held.Nodup) (hf : fitE prs held = none) (hz : z ∉ held ∧ z ∉ news prs) (n1 : ∀ k ∈ keys prs, k ∈ names) (n2 : ∀ k ∈ news prs, k ∈ names) (n3 : z ∈ names) :
    Rch (furtherL names (held.map (toO prs))) (held.map some) (held.map (toO prs)) (deedsL prs (some z)).length ∧ (deedsL prs (some z)).length = (prs.filter fun p => decide (p.2 ≠ some p.1)).length + (rings prs).length := by
  have hk := plTh_keys held
  obtain ⟨t, h1, h2, h3, h4⟩ := deeds_do (th := plTh held) (sp := some z) pl (by rw [hk]; exact hnd) (by rw [hk]; exact hf) fun _ => by rw [hk]; exact hz
  refine ⟨?_, h4⟩
  have nd1 := to_nd pl (by rw [hk]; exact hnd) (by rw [hk]; exact hf : fitE prs (keys (plTh held)) = none)
  have ndb : (keys (behD (plTh held) prs)).Nodup := by rw [keys_behD nd1]; exact nd1
  have mem : ∀ n v, (n, v) ∈ behD (plTh held) prs ↔ ∃ o, (o, v) ∈ plTh held ∧ toO prs o = some n := fun n v => by
    rw [behD_eq nd1, List.mem_filterMap]
    constructor
    · rintro ⟨q, hq, e⟩
      obtain ⟨n', h, e⟩ := Option.map_eq_some_iff.mp e
      cases e
      exact ⟨q.1, hq, h⟩
    · rintro ⟨o, ho, e⟩
      exact ⟨(o, v), ho, by dsimp only; rw [e]; rfl⟩
  have r0 : Rp held.length (held.map some) (lk (plTh held)) := by
    refine ⟨by rw [List.length_map], fun k n => ?_, fun n v h => ?_⟩
    · rw [List.getElem?_map]
      constructor
      · intro h
        obtain ⟨o, h, e⟩ := Option.map_eq_some_iff.mp h
        cases e
        exact ⟨(List.getElem?_eq_some_iff.mp h).1, lk_of_mem (by rw [hk]; exact hnd) (plTh_mem.mpr ⟨k, h, rfl⟩)⟩
      · rintro ⟨_, h⟩
        obtain ⟨j, hj, e⟩ := plTh_mem.mp (lk_mem h)
        have := V.int.inj e
        have : k = j := by omega
        rw [this, hj]; rfl
    · obtain ⟨j, hj, e⟩ := plTh_mem.mp (lk_mem h)
      exact ⟨j, (List.getElem?_eq_some_iff.mp hj).1, e⟩
  have r1 : Rp held.length (held.map (toO prs)) (lk t) := by
    refine ⟨by rw [List.length_map], fun k n => ?_, fun n v h => ?_⟩
    · rw [List.getElem?_map, h3]
      constructor
      · intro h
        obtain ⟨o, h, e⟩ := Option.map_eq_some_iff.mp h
        exact ⟨(List.getElem?_eq_some_iff.mp h).1, lk_of_mem ndb ((mem _ _).mpr ⟨o, plTh_mem.mpr ⟨k, h, rfl⟩, e⟩)⟩
      · rintro ⟨_, h⟩
        obtain ⟨o, ho, e⟩ := (mem _ _).mp (lk_mem h)
        obtain ⟨j, hj, e2⟩ := plTh_mem.mp ho
        have := V.int.inj e2
        have : k = j := by omega
        rw [this, hj]
        exact congrArg some e
    · rw [h3] at h
      obtain ⟨o, ho, e⟩ := (mem _ _).mp (lk_mem h)
      obtain ⟨j, hj, e2⟩ := plTh_mem.mp ho
      exact ⟨j, (List.getElem?_eq_some_iff.mp hj).1, e2⟩
  have hin : ∀ x ∈ deedsL prs (some z), DdIn names x := deeds_in n1 n2 (fun _ => n3)
  obtain ⟨q, g1, _, g3⟩ := rp_row (names := names) r0 (playM_T h1) fun d hd n hn => (hin d hd).2 n hn
  rw [g1.uniq r1] at g3
  exact g3
end NN
/-! a dict whose keys are tuples of names and None -/
namespace NN
open PySem PySem.Spec PyProof.Rows L2
def toN (p : Pl) : List (Option Key) := p.map fun x => x.map Sum.inr
theorem toN_inj : ∀ {p q : Pl}, toN p = toN q → p = q
  | [], [], _ => rfl
  | [], _ :: _, h => by cases h
  | _ :: _, [], h => by cases h
  | x :: p, y :: q, h => by
    unfold toN at h
    rw [List.map_cons, List.map_cons] at h
    injection h with h1 h2
    rw [toN_inj (p := p) (q := q) h2]
    cases x with
    | none => cases y with
      | none => rfl
      | some b => cases h1
    | some a => cases y with
      | none => cases h1
      | some b => cases h1; rfl
/-- the tuple of places at b -/
def PlAt (H : Hp) (b : Addr) (p : Pl) : Prop := H b = some (.tup (p.map oV))
abbrev Kas := List (Pl × Addr × V)
abbrev KasV (kas : Kas) (xs : List (List (Option Key) × Addr × Value)) : Prop := Paired (fun p q => toN p.1 = q.1 ∧ p.2.1 = q.2.1 ∧ RelV p.2.2 q.2.2) kas xs
def dP (P : Program) (w : World) (a : Addr) (kas : Kas) : HO := .ext fun h => (a == sysModules) = false ∧ kas.length ≤ sizeLine ∧ ∃ xs, KasV kas xs ∧ ∃ o es ep, h.get? a = some o ∧ o.ExactDict ∧ o.data = .dict es ep ∧ es.toList = xs.map (entryOfKey (tupleKind (noneKind P w))) ∧ (xs.map (·.1)).Nodup
theorem dP_ok {P : Program} {w : World} {H : Hp} {h : Heap} {a : Addr} {kas : Kas} {xs : List (List (Option Key) × Addr × Value)} (e : (a == sysModules) = false) (l : kas.length ≤ sizeLine) (r : KasV kas xs) (d : h.DictOfH (tupleKind (noneKind P w)) a xs) : ObjOk P w H h a (dP P w a kas) := by
  obtain ⟨o, es, ep, h1, h2, h3, h4, _, h5⟩ := d
  exact ⟨⟨e, l, xs, r, o, es, ep, h1, h2, h3, h4, h5⟩, ⟨o, h1⟩, fun _ _ ⟨e, l, xs, r, o, es, ep, h1, h2⟩ k => ⟨e, l, xs, r, o, es, ep, k o h1, h2⟩⟩
structure DN (P : Program) (w : World) (H : Hp) (a : Addr) (kas : Kas) : Prop where
  d : H a = some (dP P w a kas)
  ks : ∀ x ∈ kas, PlAt H x.2.1 x.1
theorem pl_items {P : Program} {w : World} : ∀ {p : Pl} {us : List Value}, Vals (p.map oV) us → ItemsAre (noneKind P w) (toN p) us
  | [], _, r => by cases r; exact .nil
  | x :: p, _, r => by
    cases r with
    | cons h t =>
      refine .cons ?_ (pl_items t)
      cases x with
      | none => cases h; rfl
      | some s => exact kV_is (P := P) (w := w) (k := .inr s) h
theorem pl_key {P : Program} {w : World} {H : Hp} {h : Heap} {b : Addr} {p : Pl} (ok : HOk P w H h) (e : PlAt H b p) : (tupleKind (noneKind P w)).is h (toN p) b := by
  obtain ⟨_, its, r, o, h1, h2, n, h3⟩ := (show ObjOk P w H h b (.tup (p.map oV)) from ok b _ e)
  exact ⟨o, its.toArray, n, h1, h2, h3, by simpa using pl_items r⟩
theorem DN.dict {P : Program} {w : World} {H : Hp} {h : Heap} {a : Addr} {kas : Kas} (g : DN P w H a kas) (ok : HOk P w H h) : (a == sysModules) = false ∧ kas.length ≤ sizeLine ∧ ∃ xs, KasV kas xs ∧ h.DictOfH (tupleKind (noneKind P w)) a xs := by
  obtain ⟨⟨e, l, xs, r, o, es, ep, h1, h2, h3, h4, h5⟩, _⟩ := (show ObjOk P w H h a (dP P w a kas) from ok a _ g.d)
  refine ⟨e, l, xs, r, o, es, ep, h1, h2, h3, h4, fun x hx => ?_, h5⟩
  have all : ∀ {l : Kas} {m : List (List (Option Key) × Addr × Value)}, KasV l m → (∀ x ∈ l, PlAt H x.2.1 x.1) → ∀ x ∈ m, (tupleKind (noneKind P w)).is h x.1 x.2.1 := by
    intro l m q
    induction q with
    | nil => intro _ x hx; cases hx
    | @cons p q ps qs hq t ih =>
      intro hl x hx
      rcases List.mem_cons.mp hx with e | hx
      · subst e
        rw [← hq.1, ← hq.2.1]
        exact pl_key ok (hl p (List.mem_cons_self ..))
      · exact ih (fun y hy => hl y (List.mem_cons_of_mem _ hy)) x hx
  exact all r g.ks x hx
theorem DN.kp {P : Program} {w : World} {S : List Addr} {H H' : Hp} {a : Addr} {kas : Kas} (g : DN P w H a kas) (k : Kp S H H') (n : a ∉ S) (nk : ∀ x ∈ kas, x.2.1 ∉ S) : DN P w H' a kas := ⟨k.at g.d n, fun x hx => k.at (g.ks x hx) (nk x hx)⟩
/-- what it holds -/
def valP (kas : Kas) (p : Pl) : Option V := (kas.find? fun x => decide (x.1 = p)).map (·.2.2)
theorem kas_at {kas : Kas} {xs : List (List (Option Key) × Addr × Value)} (r : KasV kas xs) (p : Pl) : RelO (valP kas p) ((atKey xs (toN p)).map (·.2)) := by
  induction r with
  | nil => exact True.intro
  | @cons x y ps qs h t ih =>
    obtain ⟨h1, _, h2⟩ := h
    unfold valP atKey at ih ⊢
    rw [List.find?_cons, List.find?_cons]
    by_cases e : x.1 = p
    · rw [show decide (x.1 = p) = true from decide_eq_true e, show decide (y.1 = toN p) = true from decide_eq_true (by rw [← h1, e])]
      exact h2
    · rw [show decide (x.1 = p) = false from decide_eq_false e, show decide (y.1 = toN p) = false from decide_eq_false (fun z => e (toN_inj (h1.trans z)))]
      exact ih
theorem kas_new {kas : Kas} {xs : List (List (Option Key) × Addr × Value)} (r : KasV kas xs) {p : Pl} (hn : valP kas p = none) {b : Addr} {y : V} {u : Value} (ry : RelV y u) : KasV (kas ++ [(p, b, y)]) (storedH xs (toN p) b u) := by
  have q := (kas_at r p).isSome_eq
  rw [hn, Option.isSome_map] at q
  have : atKey xs (toN p) = none := by cases z : atKey xs (toN p) with | none => rfl | some v => rw [z] at q; cases q
  rw [storedH_new this]
  exact Paired.snoc r ⟨rfl, rfl, ry⟩
section
variable {X : Cx} {P : Program} {w : World}
def rInP (P : Program) (w : World) (neg : Bool) : R2 := fun x y H Q => ∃ (b a : Addr) (p : Pl) (kas : Kas), x = .ref b ∧ y = .ref a ∧ PlAt H b p ∧ DN P w H a kas ∧ Q (.bl (if neg then !(valP kas p).isSome else (valP kas p).isSome)) H
theorem op_notInP (hP : X.prog = P) (hw : X.w = w) (hu : X.A.units + 1 < cLine) : OpR X (compareOp .NotIn) (rInP P w true) := by
  subst hP hw
  intro pins s σ H x y v u Q I rx ry h
  obtain ⟨b, a, p, kas, rfl, rfl, hb, g, q⟩ := h
  cases rx
  cases ry
  obtain ⟨e, _, xs, r, d⟩ := g.dict I.hok
  refine wpAny_notIn_heap (tupleKind_room_in1 hu) (pl_key I.hok hb) e d ?_
  have z := (kas_at r p).isSome_eq
  rw [Option.isSome_map] at z
  rw [← z]
  exact ⟨.bl _, H, I.tok _, rfl, q⟩
/-- d[p], there -/
def rIxP (P : Program) (w : World) : R2 := fun x y H Q => ∃ (b a : Addr) (p : Pl) (kas : Kas) (v : V), x = .ref a ∧ y = .ref b ∧ PlAt H b p ∧ DN P w H a kas ∧ valP kas p = some v ∧ Q v H
theorem ix_P (hP : X.prog = P) (hw : X.w = w) (hu : X.A.units + 1 < cLine) : IxR X (rIxP P w) := by
  subst hP hw
  intro value slice pins s σ H x y v u Q I rx ry h hs
  obtain ⟨b, a, p, kas, z, rfl, rfl, hb, g, hz, q⟩ := h
  obtain rfl : v = Value.ref a := rx
  obtain rfl : u = Value.ref b := ry
  obtain ⟨e, _, xs, r, d⟩ := g.dict I.hok
  have hT : s.TypeIs (.ref a) "dict" := d.typeIs
  obtain ⟨w', hw', rw'⟩ := RelO.some_of (v := z) (o := (atKey xs (toN p)).map (·.2)) (by rw [← hz]; exact kas_at r p)
  obtain ⟨pr, hp, hp2⟩ := Option.map_eq_some_iff.mp hw'
  unfold subscriptTail
  apply wpAny_bind
  rw [getitemInPython_of_ne hT.not_modules]
  refine wpAny_bind (wpAny_specialOf hT PySem.F.slot_dict_getitem.lookup ?_)
  have last : wpAny (model X.prog X.w) X.A (subscripted slice false (Value.ref a) (Value.ref b) >>= fun r => letTemporaryGo value (Value.ref a) r >>= fun _ => pure r) (EP X pins σ Q) X.xe s := by
    rw [hs]
    refine wpAny_bind (wpAny_operating (wpAny_getItem_heap (tupleKind_room_in1 hu) (pl_key I.hok hb) d hp ?_))
    rw [hp2]
    exact wpAny_bind (wpAny_letTemporaryGo (wpAny_pure ⟨z, H, I.tok _, rw', q⟩))
  first
    | exact wpAny_pure last
    | exact wpAny_bind (wpAny_pure last)
    | exact last
/-- d[p] = v, a new one -/
def rSetP (P : Program) (w : World) : TSet := fun o i v H Q => ∃ (b a : Addr) (p : Pl) (kas : Kas), o = .ref a ∧ i = .ref b ∧ PlAt H b p ∧ DN P w H a kas ∧ valP kas p = none ∧ kas.length < sizeLine ∧ Q (upd H a (dP P w a (kas ++ [(p, b, v)])))
theorem set_P (hP : X.prog = P) (hw : X.w = w) (hu : X.A.units + 1 < cLine) : PSet X (rSetP P w) := by
  subst hP hw
  intro pins s σ H o i v ov iv u Q I ro ri rv h
  obtain ⟨b, a, p, kas, rfl, rfl, hb, g, hn, hl, q⟩ := h
  obtain rfl : ov = Value.ref a := ro
  obtain rfl : iv = Value.ref b := ri
  obtain ⟨e, l, xs, r, d⟩ := g.dict I.hok
  refine wpAny_setItem_heap (hsz := by rw [← Paired.length r]; exact l) (tupleKind_room_in1 hu) (pl_key I.hok hb) d fun h' d' hs => ⟨_, d_write I (by rw [g.d]; exact True.intro) hs ?_ (dP_ok e (by rw [List.length_append, List.length_singleton]; omega) (kas_new r hn rv) d'), q⟩
  obtain ⟨o, _, _, ho, _⟩ := d'
  exact ⟨o, ho⟩
/-- {p: v} -/
theorem pe_dispP (hP : X.prog = P) (hw : X.w = w) (hu : X.A.units + 64 < cLine) {k v : Expr} {tk tv : TE} {pos : Pos} (hk : PE X k tk) (hv : PE X v tv) : PE X (.Dict [some k] [v] pos) (fun σ H Q => ∀ p, H p = none → tk σ (upd H p (dP P w p [])) fun x H1 => tv σ H1 fun y H2 =>
    ∃ (b : Addr) (q : Pl), x = .ref b ∧ PlAt H2 b q ∧ H2 p = some (dP P w p []) ∧ Q (.ref p) (upd H2 p (dP P w p [(q, b, y)]))) := by
  subst hP hw
  constructor
  intro pins s σ H Q I q
  have e0 : (s.heap.objs.size == sysModules) = false := beq_eq_false_iff_ne.mpr (Ne.symm (Nat.ne_of_lt I.big))
  have hn := I.hok.fresh (Nat.le_refl s.heap.objs.size)
  have new : ObjOk X.prog X.w (upd H s.heap.objs.size (dP X.prog X.w s.heap.objs.size [])) (s.heap.push { cls := .type "dict", data := .dict #[] }) s.heap.objs.size (dP X.prog X.w s.heap.objs.size []) :=
    dP_ok e0 (Nat.zero_le _) .nil ⟨_, #[], 0, Heap.get?_push_size _ rfl, ⟨rfl, rfl, rfl⟩, rfl, rfl, (fun x hx => nomatch hx), List.nodup_nil⟩
  have I1 := I.laid (a := s.heap.objs.size) (t' := s.toks) (fun _ _ q => Heap.get?_push_of_some _ q) (Nat.le_refl _) new
  let QP : List (V × V) → Hp → Prop := fun ps H2 => match ps with
    | [(x, y)] => ∃ (b : Addr) (q : Pl), x = .ref b ∧ PlAt H2 b q ∧ H2 s.heap.objs.size = some (dP X.prog X.w s.heap.objs.size []) ∧ Q (.ref s.heap.objs.size) (upd H2 s.heap.objs.size (dP X.prog X.w s.heap.objs.size [(q, b, y)]))
    | _ => False
  have hq : tPairs [(tk, tv)] σ (upd H s.heap.objs.size (dP X.prog X.w s.heap.objs.size [])) QP := q _ hn
  refine wpAny_Dict_any rfl rfl (by simp) (by simp) (thn ((pps_cons hk hv pps_nil).run pins _ σ _ QP I1 hq) fun ws s2 z => ?_)
  obtain ⟨ps, H2, I2, rel, q2⟩ := z
  match ps, rel, q2 with
  | [(x, y)], .cons r .nil, ⟨b, pl, ex, hb, hd, q3⟩ =>
    rename_i pr
    obtain ⟨u, c⟩ := pr
    have ex : x = .ref b := ex
    subst ex
    have e2 : u = Value.ref b := r.1
    subst e2
    have g : DN X.prog X.w H2 s.heap.objs.size [] := ⟨hd, fun x hx => nomatch hx⟩
    obtain ⟨_, _, xs, r0, d⟩ := g.dict I2.hok
    cases r0
    refine wpAny_storeAllH (knd := tupleKind (noneKind X.prog X.w)) (by show X.A.units < cLine; omega) [(Value.ref b, c)] [(toN pl, b, c)] [] s2 _ ⟨rfl, rfl, pl_key I2.hok hb, trivial⟩ d (by simp [sizeLine_eq]) fun h' tk' d' hs => ?_
    have r1 : KasV [(pl, b, y)] [(toN pl, b, c)] := .cons ⟨rfl, rfl, r.2⟩ .nil
    refine ⟨.ref s.heap.objs.size, _, d_write (t' := tk') I2 (by rw [hd]; exact True.intro) hs ?_ (dP_ok e0 (by simp [sizeLine_eq]) r1 d'), rfl, q3⟩
    obtain ⟨o, _, _, ho, _⟩ := d'
    exact ⟨o, ho⟩
end
end NN
namespace NN
open PySem PySem.Spec PyProof.Rows L2
theorem op_catAK {X : Cx} {K : PySem.W.Frag} (h : X.K = K) : OpR X (binaryOp .Add) (rCatA K) := by subst h; exact op_catA
theorem g_cat {K : PySem.W.Frag} {H : Hp} {Q : VK} {a b : Addr} {xs ys : List V} (ha : H a = some (.tup xs)) (hb : H b = some (.tup ys)) (hs : xs.length + ys.length ≤ sizeLine) (q : ∀ p H', Kp [] H H' → H' p = some (.tup (xs ++ ys)) → Q (.ref p) H') : rCatA K (.ref a) (.ref b) H Q := by
  refine ⟨a, b, xs, ys, rfl, rfl, SqT.of ha, SqT.of hb, hs, fun e => ?_, fun _ e => ?_, fun _ _ p hp => q p _ (Kp.new hp) upd_same⟩
  · exact q b H (Kp.refl _ _) (by rw [e]; exact hb)
  · exact q a H (Kp.refl _ _) (by rw [e, List.append_nil]; exact ha)
theorem g_notInP {P : Program} {w : World} {H : Hp} {Q : VK} {b a : Addr} {p : Pl} {kas : Kas} (hb : PlAt H b p) (g : DN P w H a kas) (q : Q (.bl (!(valP kas p).isSome)) H) : rInP P w true (.ref b) (.ref a) H Q := ⟨b, a, p, kas, rfl, rfl, hb, g, q⟩
theorem g_ixP {P : Program} {w : World} {H : Hp} {Q : VK} {b a : Addr} {p : Pl} {kas : Kas} {v : V} (hb : PlAt H b p) (g : DN P w H a kas) (e : valP kas p = some v) (q : Q v H) : rIxP P w (.ref a) (.ref b) H Q := ⟨b, a, p, kas, v, rfl, rfl, hb, g, e, q⟩
end NN
namespace NN
open PySem PySem.Spec PyProof.Rows L2
abbrev Pls (H : Hp) : List Addr → List Pl → Prop := Paired fun b t => PlAt H b t
theorem PlAt.kp {S : List Addr} {H H' : Hp} {b : Addr} {p : Pl} (h : PlAt H b p) (k : Kp S H H') (n : b ∉ S) : PlAt H' b p := k.at h n
theorem Pls.kp0 {H H' : Hp} {ps : List Addr} {ts : List Pl} (h : Pls H ps ts) (k : Kp [] H H') : Pls H' ps ts := Paired.mapP h fun _ _ z => k.at z (by simp)
theorem Pls.app {H : Hp} {ps qs : List Addr} {ts us : List Pl} (h : Pls H ps ts) (g : Pls H qs us) : Pls H (ps ++ qs) (ts ++ us) := by
  induction h with
  | nil => exact g
  | cons a _ ih => exact .cons a ih
theorem Pls.len {H : Hp} {ps : List Addr} {ts : List Pl} (h : Pls H ps ts) : ps.length = ts.length := Paired.length h
theorem Pls.get {H : Hp} {ps : List Addr} {ts : List Pl} (h : Pls H ps ts) : ∀ {i : Nat} {b : Addr}, ps[i]? = some b → ∃ t, ts[i]? = some t ∧ PlAt H b t := by
  induction h with
  | nil => intro i b hb; simp at hb
  | cons a _ ih =>
    intro i b hb
    cases i with
    | zero => cases hb; exact ⟨_, rfl, a⟩
    | succ i => exact ih (by simpa using hb)
def spFurther : Sp := fun vs H Q _ => ∃ (p nm g : Addr) (pl goals : Pl) (names : List Str), vs = [.ref p, .ref nm, .ref g] ∧ PlAt H p pl ∧ H nm = some (.lst (names.map V.str)) ∧ PlAt H g goals ∧ pl.length ≤ 8 ∧ goals.length = pl.length ∧ names.length ≤ 8 ∧
  ∀ q ps H', H q = none → Kp [] H H' → H' q = some (.lst (ps.map V.ref)) → Pls H' ps (furtherL names goals pl) → Q (.ref q) H'
theorem flat_pl (p : Pl) : (p.map oV).all flatV = true := by
  rw [List.all_map]
  exact List.all_eq_true.mpr fun x _ => by cases x <;> rfl
theorem inV_pl (n : Str) (p : Pl) : inV (.str n) (p.map oV) = decide (some n ∈ p) := by
  unfold inV
  rw [List.any_map]
  induction p with
  | nil => rfl
  | cons x r ih =>
    rw [List.any_cons, ih]
    cases x with
    | none =>
      show (false || decide (some n ∈ r)) = _
      simp
    | some s =>
      show (s == n || decide (some n ∈ r)) = decide (some n ∈ some s :: r)
      by_cases e : s = n
      · subst e; simp
      · have e2 : n ≠ s := fun z => e z.symm
        simp [e, e2]
theorem set_split {p : Pl} {k : Nat} (h : k < p.length) (x : Option Str) : p.take k ++ [x] ++ p.drop (k + 1) = p.set k x := by
  rw [List.set_eq_take_append_cons_drop, if_pos h, List.append_assoc]; rfl
theorem from_none {names : List Str} {goals p : Pl} {k : Nat} (h : p[k]? = some none) : fromL names goals p k = [] := by unfold fromL; rw [h]
theorem from_some {names : List Str} {goals p : Pl} {k : Nat} {s : Str} (h : p[k]? = some (some s)) : fromL names goals p k = (freeL names goals p k).map fun x => p.set k x := by unfold fromL; rw [h]
theorem free_len {names : List Str} {goals p : Pl} {k : Nat} : (freeL names goals p k).length ≤ names.length + 1 := by
  unfold freeL
  rw [List.length_append, List.length_map]
  refine Nat.add_le_add (List.length_filter_le _ _) ?_
  split <;> simp
theorem from_len {names : List Str} {goals p : Pl} {k : Nat} : (fromL names goals p k).length ≤ names.length + 1 := by
  unfold fromL
  split
  · rw [List.length_map]; exact free_len
  · simp
theorem further_len {names : List Str} {goals p : Pl} : ∀ j, ((List.range j).flatMap (fromL names goals p)).length ≤ j * (names.length + 1)
  | 0 => by simp
  | j + 1 => by
    rw [List.range_succ, List.flatMap_append, List.length_append]
    have h1 := further_len (names := names) (goals := goals) (p := p) j
    have h2 := from_len (names := names) (goals := goals) (p := p) (k := j)
    rw [Nat.succ_mul]
    simp only [List.flatMap_cons, List.flatMap_nil, List.append_nil]
    omega
end NN
/-! all rows of places -/
namespace NN
open PySem PySem.Spec PyProof.Rows L2
def uL (al : Pl) : Nat → List Pl
  | 0 => [[]]
  | n + 1 => al.flatMap fun x => (uL al n).map fun t => x :: t
theorem uL_mem {al : Pl} : ∀ {n : Nat} {t : Pl}, t.length = n → (∀ x ∈ t, x ∈ al) → t ∈ uL al n
  | 0, t, h, _ => by rw [List.length_eq_zero_iff.mp h]; simp [uL]
  | n + 1, [], h, _ => nomatch h
  | n + 1, x :: t, h, hm => by
    unfold uL
    rw [List.mem_flatMap]
    exact ⟨x, hm x (List.mem_cons_self ..), List.mem_map.mpr ⟨t, uL_mem (by simpa using h) (fun y hy => hm y (List.mem_cons_of_mem _ hy)), rfl⟩⟩
theorem uL_len {al : Pl} : ∀ n : Nat, (uL al n).length = al.length ^ n
  | 0 => rfl
  | n + 1 => by
    unfold uL
    have ih := uL_len (al := al) n
    have key : ∀ l : Pl, (l.flatMap fun x => (uL al n).map fun t => x :: t).length = l.length * al.length ^ n := by
      intro l
      induction l with
      | nil => simp
      | cons x l ihl => rw [List.flatMap_cons, List.length_append, List.length_map, ih, ihl, List.length_cons, Nat.succ_mul]; omega
    rw [key, Nat.pow_succ, Nat.mul_comm]
theorem reach_u {names : List Str} {goals a b : Pl} {n : Nat} (r : Rch (furtherL names goals) a b n) : a.length = goals.length → (∀ x ∈ a, x ∈ none :: names.map some) → b.length = goals.length ∧ ∀ x ∈ b, x ∈ none :: names.map some := by
  induction r with
  | z a => exact fun h1 h2 => ⟨h1, h2⟩
  | @s a b c n hb _ ih =>
    intro h1 h2
    obtain ⟨k, o, x, hk, hx, rfl⟩ := mem_further.mp hb
    refine ih (by rw [List.length_set]; exact h1) fun y hy => ?_
    rcases List.mem_or_eq_of_mem_set hy with hy | rfl
    · exact h2 y hy
    · rcases mem_freeL.mp hx with ⟨m, hm, _, rfl⟩ | ⟨_, rfl⟩
      · exact List.mem_cons_of_mem _ (List.mem_map.mpr ⟨m, hm, rfl⟩)
      · exact List.mem_cons_self ..
theorem bfs_len {names : List Str} {goals beg : Pl} {w : List (Pl × Nat)} {p : Nat} (B : Bfs (furtherL names goals) beg w p) (h1 : beg.length = goals.length) (h2 : ∀ x ∈ beg, x ∈ none :: names.map some) (hn : names.length ≤ 7) (hl : goals.length ≤ 4) : w.length ≤ 4096 := by
  have h := B.sub (u := uL (none :: names.map some) goals.length) fun a n r => let ⟨a1, a2⟩ := reach_u r h1 h2; uL_mem a1 a2
  rw [uL_len, List.length_cons, List.length_map] at h
  have a1 : (names.length + 1) ^ goals.length ≤ 8 ^ goals.length := Nat.pow_le_pow_left (by omega) _
  have a2 : 8 ^ goals.length ≤ 8 ^ 4 := Nat.pow_le_pow_right (by omega) hl
  have a3 : 8 ^ 4 = 4096 := by decide
  omega
abbrev Wt := List (Pl × Addr × Nat)
def kasW (ws : Wt) : Kas := ws.map fun x => (x.1, x.2.1, V.int (x.2.2 : Nat))
def bfsW (ws : Wt) : List (Pl × Nat) := ws.map fun x => (x.1, x.2.2)
theorem valP_none {ws : Wt} {t : Pl} (h : t ∉ (bfsW ws).map (·.1)) : valP (kasW ws) t = none := by
  unfold valP
  have : (kasW ws).find? (fun x => decide (x.1 = t)) = none := by
    rw [List.find?_eq_none]
    intro x hx
    obtain ⟨y, hy, rfl⟩ := List.mem_map.mp hx
    simp only [decide_eq_true_eq]
    intro e
    refine h ?_
    unfold bfsW
    rw [List.map_map]
    exact List.mem_map.mpr ⟨y, hy, e⟩
  rw [this]; rfl
theorem valP_some : ∀ {ws : Wt}, ((bfsW ws).map (·.1)).Nodup → ∀ {t : Pl} {d : Nat}, (t, d) ∈ bfsW ws → valP (kasW ws) t = some (.int (d : Nat))
  | [], _, _, _, h => nomatch h
  | x :: ws, nd, t, d, h => by
    have nd' : x.1 ∉ (bfsW ws).map (·.1) ∧ ((bfsW ws).map (·.1)).Nodup := by
      have : ((x.1 :: (bfsW ws).map (·.1))).Nodup := nd
      exact List.nodup_cons.mp this
    have h : (t, d) ∈ (x.1, x.2.2) :: bfsW ws := h
    by_cases e : x.1 = t
    · rcases List.mem_cons.mp h with q | q
      · cases q
        unfold valP kasW
        rw [List.map_cons, List.find?_cons, show decide (x.1 = x.1) = true from decide_eq_true rfl]; rfl
      · exact absurd (List.mem_map.mpr ⟨(t, d), q, e.symm⟩) nd'.1
    · rcases List.mem_cons.mp h with q | q
      · cases q; exact absurd rfl e
      · have ih := valP_some nd'.2 q
        unfold valP kasW at ih ⊢
        rw [List.map_cons, List.find?_cons, show decide (x.1 = t) = false from decide_eq_false e]
        exact ih
theorem bfsW_snoc (ws : Wt) (t : Pl) (b : Addr) (d : Nat) : bfsW (ws ++ [(t, b, d)]) = bfsW ws ++ [(t, d)] := by unfold bfsW; rw [List.map_append]; rfl
theorem kasW_snoc (ws : Wt) (t : Pl) (b : Addr) (d : Nat) : kasW (ws ++ [(t, b, d)]) = kasW ws ++ [(t, b, V.int (d : Nat))] := by unfold kasW; rw [List.map_append]; rfl
/-- the search's state: what is met, at m; what waits, at wt -/
structure Srch (P : Program) (w : World) (H : Hp) (m wt : Addr) (ws : Wt) : Prop where
  d : DN P w H m (kasW ws)
  l : H wt = some (.lst (ws.map fun x => V.ref x.2.1))
theorem dP_ne {P : Program} {w : World} {H : Hp} {a b : Addr} {kas : Kas} {o : HO} (h : H a = some (dP P w a kas)) (h' : H b = some o) (n : ∀ φ, o ≠ .ext φ) : b ≠ a := fun e => by
  rw [e, h] at h'
  exact n _ (Option.some.inj h').symm
theorem Srch.kp0 {P : Program} {w : World} {H H' : Hp} {m wt : Addr} {ws : Wt} (s : Srch P w H m wt ws) (k : Kp [] H H') : Srch P w H' m wt ws := ⟨s.d.kp k (by simp) (by simp), k.at s.l (by simp)⟩
theorem Srch.off {P : Program} {w : World} {H : Hp} {m wt : Addr} {ws : Wt} (s : Srch P w H m wt ws) {b : Addr} {t : Pl} (h : PlAt H b t) : b ∉ [m, wt] := by
  simp only [List.mem_cons, List.not_mem_nil, or_false, not_or]
  exact ⟨dP_ne s.d.d h (fun φ z => by cases z), hne h s.l (fun z => by cases z)⟩
theorem Srch.ne {P : Program} {w : World} {H : Hp} {m wt : Addr} {ws : Wt} (s : Srch P w H m wt ws) : wt ≠ m := dP_ne s.d.d s.l (fun φ z => by cases z)
/-- one more, met and waiting -/
theorem Srch.add {P : Program} {w : World} {H : Hp} {m wt : Addr} {ws : Wt} (s : Srch P w H m wt ws) {t : Pl} {b : Addr} {d : Nat} (hb : PlAt H b t) :
    Srch P w (upd (upd H m (dP P w m (kasW ws ++ [(t, b, V.int (d : Nat))]))) wt (.lst ((ws.map fun x => V.ref x.2.1) ++ [.ref b]))) m wt (ws ++ [(t, b, d)]) := by
  have k : Kp [m, wt] H (upd (upd H m (dP P w m (kasW ws ++ [(t, b, V.int (d : Nat))]))) wt (.lst ((ws.map fun x => V.ref x.2.1) ++ [.ref b]))) := (Kp.mut (by simp)).trans (Kp.mut (by simp))
  refine ⟨⟨?_, fun x hx => ?_⟩, ?_⟩
  · rw [upd_ne s.ne.symm, upd_same, kasW_snoc]
  · rw [kasW_snoc] at hx
    rcases List.mem_append.mp hx with hx | hx
    · exact (s.d.ks x hx).kp k (s.off (s.d.ks x hx))
    · rw [List.mem_singleton.mp hx]; exact hb.kp k (s.off hb)
  · rw [upd_same, List.map_append]; rfl
def spFewest : Sp := fun vs H Q _ => ∃ (b g nm : Addr) (beg goals : Pl) (names : List Str) (N : Nat), vs = [.ref b, .ref g, .ref nm] ∧ PlAt H b beg ∧ PlAt H g goals ∧ H nm = some (.lst (names.map V.str)) ∧ beg.length = goals.length ∧ goals.length ≤ 4 ∧ names.length ≤ 7 ∧ (∀ x ∈ beg, x ∈ none :: names.map some) ∧ Rch (furtherL names goals) beg goals N ∧
  ∀ (D : Nat) H', Kp [] H H' → (∀ n, Rch (furtherL names goals) beg goals n → D ≤ n) → Rch (furtherL names goals) beg goals D → Q (.int (D : Nat)) H'
end NN
namespace NN
open PySem PySem.Spec PyProof.Rows L2
def fiveS : List Str := ["a", "b", "c", "d", "e"]
def sevenS : List Str := ["a", "b", "c", "d", "e", "f", "g"]
def thOf (held : List Str) : List (Str × V) := held.map fun n => (n, V.non)
theorem keys_thOf (held : List Str) : keys (thOf held) = held := by unfold keys thOf; rw [List.map_map]; exact List.map_id _
def spSmall : Sp := fun vs H Q _ => ∃ (st hd : Addr) (held : List Str), vs = [.ref st, .ref hd] ∧ St1 H st ∧ H hd = some (.lst (held.map V.str)) ∧ held.length ≤ 4 ∧ held.Nodup ∧ (∀ n ∈ held, n ∈ fiveS) ∧
  ∀ x prs H', Kp [st] H H' → St1 H' st → At [st] H' x (encPs prs) → PrG fiveS (thOf held) prs → Q x H'
theorem five_name : ∀ n ∈ fiveS, isName n = true := by decide +kernel
end NN
local macro_rules | `(tactic| fail "kb") => `(tactic| first
  | exact NN.kb_str_str
  | exact NN.kb_str_bool
  | exact NN.kb_str_dict
  | exact NN.kb_str_tuple
  | exact NN.kb_str_list
  | exact NN.kb_int_str
  | exact NN.kb_int_bool
  | exact NN.kb_int_dict
  | exact NN.kb_int_tuple
  | exact NN.kb_int_list
  | exact NN.kb_bool_str
  | exact NN.kb_bool_bool
  | exact NN.kb_bool_dict
  | exact NN.kb_bool_tuple
  | exact NN.kb_bool_list
  | exact NN.kb_NoneType_str
  | exact NN.kb_NoneType_bool
  | exact NN.kb_NoneType_dict
  | exact NN.kb_NoneType_tuple
  | exact NN.kb_NoneType_list
  | exact NN.kb_list_str
  | exact NN.kb_list_bool
  | exact NN.kb_list_dict
  | exact NN.kb_list_tuple
  | exact NN.kb_list_list
  | exact NN.kb_tuple_str
  | exact NN.kb_tuple_bool
  | exact NN.kb_tuple_dict
  | exact NN.kb_tuple_tuple
  | exact NN.kb_tuple_list
  | exact NN.kb_dict_str
  | exact NN.kb_dict_bool
  | exact NN.kb_dict_dict
  | exact NN.kb_dict_tuple
  | exact NN.kb_dict_list)
local macro_rules | `(tactic| fail "ar") => `(tactic| first | omega | (dsimp only; omega) | (unfold L2.CMul; omega) | (unfold L2.CDiv; omega) | (unfold L2.CPow; omega) | decide | (simp only [List.length_cons, List.length_nil, List.length_append, List.length_map]; omega))
local macro_rules | `(tactic| fail "hp") => `(tactic| first | assumption | exact L2.upd_same | (rw [L2.upd_ne (by assumption)]; assumption) | (rw [L2.upd_ne (Ne.symm (by assumption))]; assumption))
local macro_rules | `(tactic| fail "ev") => `(tactic| set_option simprocs false in simp (config := { proj := false, decide := false }) only [-eq_self, -iff_self, NN.e_var, NN.e_vAt, NN.e_c, NN.e_op, NN.e_un, NN.e_test, NN.e_B, NN.e_isbl, NN.e_isint, NN.e_isS, NN.e_isstr, NN.e_and, NN.e_or, NN.e_not, NN.e_andV, NN.e_orV, NN.e_notV, NN.e_if, NN.e_chain, NN.e_nil, NN.e_cons, NN.e_tup, NN.e_lst, NN.e_cb, NN.e_call, NN.e_sl, NN.e_part, NN.e_nopart, NN.e_bm, NN.e_bm0, NN.e_m1, NN.e_fld, NN.e_meth, NN.e_make, NN.e_callS, NN.e_makeS, NN.e_methS, NN.e_xm, NN.e_veI, NN.e_xfd, NN.e_get1, NN.e_get2, NN.e_pnil, NN.e_pcons, NN.e_lc, NN.e_for, NN.e_iList, NN.e_iStr, NN.e_iRng1, NN.e_iEnum, NN.e_iKeys, NN.e_yes, NN.e_next, NN.e_asg, NN.e_drop, NN.e_ret, NN.e_retN, NN.e_ifS, NN.e_sfld, NN.e_name, NN.e_gsub, NN.e_gcons, NN.e_gnil, NN.e_rI, NN.e_rI0, NN.e_rU, NN.e_addI, NN.e_ltI, NN.e_leI, NN.e_gtI, NN.e_geI, NN.e_ifT, NN.e_ifF, NN.e_wipe0, NN.e_wipe1, NN.e_map0, NN.e_map1, NN.e_ifTr, NN.e_ifFa, NN.e_intB, List.getElem?_cons_zero, List.getElem?_cons_succ, List.set_cons_zero, List.set_cons_succ])
local macro_rules | `(tactic| fail "g2") => `(tactic| first
  | (with_reducible apply NN.g_newt; (focus simp); intro p hp)
  | (with_reducible apply NN.g_wipe; (focus (with_unfolding_all exact rfl)))
  | (with_reducible refine NN.g_ck ?c ?_; (case c => fail "ar"))
  | (with_reducible refine NN.g_disp ?_; intro p hp)
  | (with_reducible refine NN.g_new ?_; intro p hp)
  | (with_reducible apply NN.g_iL; (focus (fail "hp")))
  | (with_reducible refine NN.g_iR ?c ?_; (case c => fail "ar"))
  | (with_reducible apply NN.g_iEL; (focus (fail "hp")))
  | (with_reducible refine NN.g_iZip ?_)
  | (with_reducible apply NN.g_iZL; (focus (fail "hp")); (focus (fail "hp")))
  | (with_reducible apply NN.g_iZT; (focus (fail "hp")); (focus (fail "hp")))
  | (with_reducible refine NN.g_iRev ?_)
  | (with_reducible apply NN.g_iV; (focus (fail "hp")))
  | (with_reducible refine NN.g_inSign ?_)
  | (with_reducible refine NN.g_addS ?c ?_; (case c => fail "ar"))
  | with_reducible refine NN.g_ltS ?_
  | with_reducible refine NN.g_leS ?_
  | with_reducible refine NN.g_eqS rfl ?_
  | with_reducible refine NN.g_neS rfl ?_
  | with_reducible refine NN.g_isN ?_
  | with_reducible refine NN.g_isB ?_
  | (with_reducible refine NN.g_lenS ?c ?_; (case c => fail "ar"))
  | (with_reducible apply NN.g_lenL; (focus (fail "hp")))
  | (with_reducible apply NN.g_lenT; (focus (fail "hp")))
  | (with_reducible refine NN.g_slS ?c ?_; (case c => fail "ar"))
  | (with_reducible apply NN.g_slL; (focus (fail "hp")))
  | (with_reducible apply NN.g_isiS; (focus (fail "kb")))
  | (with_reducible apply NN.g_isiI; (focus (fail "kb")))
  | (with_reducible apply NN.g_isiB; (focus (fail "kb")))
  | (with_reducible apply NN.g_isiN; (focus (fail "kb")))
  | (with_reducible refine NN.g_ifT rfl ?_)
  | (with_reducible refine NN.g_ifF rfl ?_))
local macro_rules | `(tactic| fail "g1") => `(tactic| first
  | with_reducible refine NN.g_seq ?_
  | (with_reducible refine NN.g_name ?_; try dsimp only [List.set_cons_zero, List.set_cons_succ])
  | fail "ev"
  | fail "g2")
local macro_rules | `(tactic| fail "gs") => `(tactic| ((repeat ((fail_if_success (with_reducible refine NN.g_seq ?_)); first | fail "ev" | fail "g2" | (dsimp only; fail_if_success (with_reducible refine NN.g_seq ?_)))); try dsimp only))
local macro_rules | `(tactic| fail "go") => `(tactic| ((repeat (first | with_reducible refine NN.g_seq ?_ | fail "ev" | fail "g2" | (dsimp only))); try dsimp only))

namespace Nw
open PySem L2 NN
def top (i : Nat) : Stmt := PySem.Challenge.pw_newnames_k09_whole_no_fewer.main.body.getD i (.Pass ⟨0, 0, 0, 0⟩)
abbrev sis_name : Stmt := top 10
theorem scis_name : FnScope ["thing", "sign"] ["thing"] (defScope sis_name) := ⟨rfl, rfl, rfl, by decide +kernel, rfl, by decide +kernel, by decide +kernel⟩
abbrev slaw_state : Stmt := top 20
theorem sclaw_state : FnScope ["_law_cell", "_law_k"] ["_law_cell", "_law_k"] (defScope slaw_state) := ⟨rfl, rfl, rfl, by decide +kernel, rfl, by decide +kernel, by decide +kernel⟩
abbrev slaw_next : Stmt := top 21
theorem sclaw_next : FnScope ["_law_state_here", "_law_size"] ["_law_state_here", "_law_size"] (defScope slaw_next) := ⟨rfl, rfl, rfl, by decide +kernel, rfl, by decide +kernel, by decide +kernel⟩
abbrev slaw_turned : Stmt := top 22
theorem sclaw_turned : FnScope ["_law_state_here", "_law_things", "_law_left", "_law_found"] ["_law_state_here", "_law_things"] (defScope slaw_turned) := ⟨rfl, rfl, rfl, by decide +kernel, rfl, by decide +kernel, by decide +kernel⟩
structure Txt (K : PySem.W.Frag) (mg : Str → Option Value) (C_Held : Addr) (C_LetGo : Addr) (C_Missing : Addr) (C_NewError : Addr) (C_NoName : Addr) (C_NoRow : Addr) (C_NoSpare : Addr) (C_Plan : Addr) (C_Twice : Addr) : Prop where
  g_LETTERS : ∃ t, mg "LETTERS" = some (.str "abcdefghijklmnopqrstuvwxyz" t)
  g_LONGEST : ∃ t, mg "LONGEST" = some (.int 8 t)
  g_Held : mg "Held" = some (.ref C_Held)
  g_Missing : mg "Missing" = some (.ref C_Missing)
  g_NewError : mg "NewError" = some (.ref C_NewError)
  g_NoName : mg "NoName" = some (.ref C_NoName)
  g_NoSpare : mg "NoSpare" = some (.ref C_NoSpare)
  g_Plan : mg "Plan" = some (.ref C_Plan)
  cl_Plan : Cls K C_Plan
  n_Plan_by_olds : NoAttr K C_Plan "by_olds"
  n_Plan_by_news : NoAttr K C_Plan "by_news"
  g_Twice : mg "Twice" = some (.ref C_Twice)
  ne : NN.Ne K mg C_NewError
  er_NoName : NN.Er K mg C_NewError "NoName" "name" C_NoName
  own_NoName : NN.OwnX K C_NoName
  er_Twice : NN.Er K mg C_NewError "Twice" "name" C_Twice
  o_Twice : OexC K C_Twice
  er_Missing : NN.Er K mg C_NewError "Missing" "name" C_Missing
  o_Missing : OexC K C_Missing
  er_Held : NN.Er K mg C_NewError "Held" "name" C_Held
  o_Held : OexC K C_Held
  er_NoSpare : NN.Er K mg C_NewError "NoSpare" "ring" C_NoSpare
  o_NoSpare : OexC K C_NoSpare
  b_all : mg "all" = none
  b_dict : mg "dict" = none
  b_enumerate : mg "enumerate" = none
  b_int : mg "int" = none
  b_isinstance : mg "isinstance" = none
  b_len : mg "len" = none
  b_list : mg "list" = none
  b_range : mg "range" = none
  b_sorted : mg "sorted" = none
  b_str : mg "str" = none
  b_tuple : mg "tuple" = none
section
variable {P : Program} {w : World} {K : PySem.W.Frag} {mg : Str → Option Value} {base : Heap} {C_Held : Addr} {C_LetGo : Addr} {C_Missing : Addr} {C_NewError : Addr} {C_NoName : Addr} {C_NoRow : Addr} {C_NoSpare : Addr} {C_Plan : Addr} {C_Twice : Addr}
theorem ok_isname {f} {fd} (F : Fun K "is_name" "is_name" sis_name f fd) (T : Txt K mg C_Held C_LetGo C_Missing C_NewError C_NoName C_NoRow C_NoSpare C_Plan C_Twice) : FnOk P w K mg base CX0 1 f fd ["thing"] (spIsName K) := by
  refine F.ok scis_name (fun vs H Q E h => ?_) (fun cdv A outer s H vs Q E hr h => ?_)
  · obtain ⟨x, rfl, _⟩ := h
    rfl
  · obtain ⟨x, rfl, h⟩ := h
    have hu := hu_of hr
    refine ⟨_, (pss_one (ps_ret (pe_and (pe_callB (NN.call_isiK' (K := K) rfl) (by rfl) T.b_isinstance (by decide +kernel) (pa_cons (NN.pv 0) (pa_cons (NN.pe_bty (n := "str") (by rfl) T.b_str (by decide +kernel)) pa_nil))) (pe_and (pe_chain NN.op_ltU NN.op_leU pe_int (pe_callB (NN.call_lenK (K := K) rfl) (by rfl) T.b_len (by decide +kernel) (pa_cons (NN.pv 0) pa_nil)) (NN.pe_globI (by rfl) T.g_LONGEST)) (pe_one (pe_callB (NN.cr_allK (K := K) rfl rfl) (by rfl) T.b_all (by decide +kernel) (pa_cons (pe_lc (own := [("sign", 1)]) rfl scis_name.nd (pi_str (NN.pv 0)) (blkOk_by (own := [("sign", 1)]) (N := ["thing", "sign"]) (sc := defScope sis_name) (by decide +kernel)) (fun _ _ _ _ _ => (pg_name (i := 1) scis_name.nd rfl (Or.inl rfl))) (fun _ _ _ _ _ => pts_nil) (fun _ _ _ _ _ => (pe_cmpR (NN.op_inK (K := K) rfl hu) (NN.pv 1) (NN.pe_globS (by rfl) T.g_LETTERS) (by rfl)))) pa_nil))))))), ?_⟩
    refine NN.g_st [some x, none] rfl ?_
    rcases h with ⟨⟨t, h1, h2⟩, q⟩ | ⟨z, rfl, hz, q⟩
    · fail "go"
      refine g_isi h1 h2 ?_
      fail "go"
      exact q
    · have hz' := sz1 hz
      fail "go"
      refine g_ifB (fun e1 => ?_) (fun e1 => ?_)
      · fail "go"
        refine g_ifB (fun e2 => ?_) (fun e2 => ?_)
        · fail "go"
          intro D hD
          refine lc_kp walk_str [] (fun i acc H => acc = ((z.cps.toList.take i).map fun c => decide (c ∈ letters.cps.toList)).map V.bl) hD rfl (fun _ _ _ _ _ _ => trivial) ?_ ?_
          · rintro i x H1 H2 acc hi hacc hl k rfl ⟨rfl, c, hc, rfl⟩
            fail "go"
            refine lc_add hacc hl (by have : z.length = z.cps.size := rfl; omega) k ?_
            have hc' : z.cps.toList[i]? = some c := by rw [← hc]; simp
            rw [List.take_add_one, hc']
            simp [letters]
          · rintro H1 acc hacc k rfl
            fail "go"
            refine g_all hacc ?_
            have e3 : ((z.cps.toList.take z.cps.size).map fun c => decide (c ∈ letters.cps.toList)).all id = isName z := by
              unfold isName
              rw [List.take_of_length_le (by simp), List.all_map]
              have e1' : decide (0 < z.length) = true := by simpa using e1
              have e2' : decide (z.length ≤ 8) = true := by rw [decide_eq_true_eq] at e2; exact decide_eq_true (by omega)
              rw [e1', e2']; rfl
            rw [e3]
            exact q _ k
        · fail "go"
          have e3 : isName z = false := by
            unfold isName
            have e2' : decide (z.length ≤ 8) = false := by rw [decide_eq_false_iff_not] at e2; exact decide_eq_false (by omega)
            rw [e2']; simp
          rw [← e3]; exact q _ (Kp.refl _ _)
      · fail "go"
        have e3 : isName z = false := by
          unfold isName
          have e1' : decide (0 < z.length) = false := by simpa using e1
          rw [e1']; rfl
        rw [← e3]; exact q _ (Kp.refl _ _)
theorem ok_state {f} {fd} (F : Fun K "_law_state" "_law_state" slaw_state f fd) : FnOk P w K mg base CX0 1 f fd ["_law_cell", "_law_k"] spState := by
  refine F.ok sclaw_state (fun vs H Q E h => ?_) (fun cdv A outer s H vs Q E hr h => ?_)
  · obtain ⟨c, k, rfl, _⟩ := h
    rfl
  · obtain ⟨c, k, rfl, q⟩ := h
    refine ⟨_, (pss_one (ps_ret (pe_lst (pa_cons (pe_op NN.op_addU pe_int (pe_op op_mod (pe_op NN.op_addU (NN.pv 0) (pe_op op_mul pe_int (NN.pv 1))) pe_int)) pa_nil)))), ?_⟩
    refine NN.g_st [some (.int c), some (.int k)] rfl ?_
    fail "go"
    rename_i p hp
    exact q _ _ hp (Kp.new hp) ⟨_, upd_same⟩
theorem ok_next {f} {fd} (F : Fun K "_law_next" "_law_next" slaw_next f fd) : FnOk P w K mg base CX0 1 f fd ["_law_state_here", "_law_size"] spNext := by
  refine F.ok sclaw_next (fun vs H Q E h => ?_) (fun cdv A outer s H vs Q E hr h => ?_)
  · obtain ⟨st, n, rfl, _⟩ := h
    rfl
  · obtain ⟨st, n, rfl, ⟨z, hst⟩, hn, q⟩ := h
    have hu := hu_of hr
    refine ⟨_, (pss_cons (ps_asg (pe_op op_mod (pe_op op_mul (pe_ix (NN.ix_K (K := K) rfl hu) (NN.pv 0) pe_int (fun _ _ => rfl)) pe_int) pe_int) (pg_sub (NN.pv 0) pe_int (NN.set_U hu)))
      (pss_one (ps_ret (pe_op op_mod (pe_op op_fdiv (pe_op op_mod (pe_op NN.op_addU (pe_op op_mul (pe_ix (NN.ix_K (K := K) rfl hu) (NN.pv 0) pe_int (fun _ _ => rfl)) (pe_ix (NN.ix_K (K := K) rfl hu) (NN.pv 0) pe_int (fun _ _ => rfl))) (pe_op op_mul pe_int (pe_ix (NN.ix_K (K := K) rfl hu) (NN.pv 0) pe_int (fun _ _ => rfl)))) pe_int) pe_int) (NN.pv 1))))), ?_⟩
    refine NN.g_st [some (.ref st), some (.int n)] rfl ?_
    fail "go"
    refine g_ixL hst rfl ?_
    fail "go"
    refine g_setL hst rfl ?_
    fail "go"
    refine g_ixL upd_same rfl ?_
    fail "go"
    refine g_ixL upd_same rfl ?_
    fail "go"
    refine g_ixL upd_same rfl ?_
    fail "go"
    exact q _ _ (Int.emod_nonneg _ (by omega)) (Int.emod_lt_of_pos _ hn) (Kp.mut (by simp)) ⟨_, upd_same⟩
end
end Nw
namespace Nw
open PySem L2 NN
section
variable {P : Program} {w : World} {K : PySem.W.Frag} {mg : Str → Option Value} {base : Heap} {C_Held : Addr} {C_LetGo : Addr} {C_Missing : Addr} {C_NewError : Addr} {C_NoName : Addr} {C_NoRow : Addr} {C_NoSpare : Addr} {C_Plan : Addr} {C_Twice : Addr}
theorem ok_turned {f} {fd} (F : Fun K "_law_turned" "_law_turned" slaw_turned f fd) (T : Txt K mg C_Held C_LetGo C_Missing C_NewError C_NoName C_NoRow C_NoSpare C_Plan C_Twice) (F_law_next : FnAt P w K mg base CX0 1 "_law_next" ["_law_state_here", "_law_size"] spNext) : FnOk P w K mg base CX0 2 f fd ["_law_state_here", "_law_things"] spTurnedV := by
  refine F.ok sclaw_turned (fun vs H Q E h => ?_) (fun cdv A outer s H vs Q E hr h => ?_)
  · obtain ⟨st, a, xs, rfl, _⟩ := h
    rfl
  · obtain ⟨st, a, xs, rfl, hst, ha, hlen, hf, q⟩ := h
    have hu := hu_of hr
    have hu64 : (A.deeper (PyProof.Rows.envOfC "_law_turned" (defScope slaw_turned) s.heap.objs.size f cdv)).units + 64 < cLine := by have := hr.un; omega
    refine ⟨_, (pss_cons (ps_set (i := 2) sclaw_turned.nd rfl (Or.inl rfl) (pe_callTy (NN.call_listK (K := K) rfl rfl) (by rfl) T.b_list (by decide +kernel) (pa_cons (NN.pv 1) pa_nil)))
      (pss_cons (ps_set (i := 3) sclaw_turned.nd rfl (Or.inl rfl) (pe_lst pa_nil))
      (pss_cons (ps_while PassesOwn.never (pt_cmpR (NN.op_neK (K := K) rfl hu64) (NN.pv 2) (pe_lst pa_nil) (nomark _)) (pss_one (ps_expr (NN.pe_bmK (K := K) rfl PySem.F.plainAttrs_list PySem.F.slot_list_append PySem.F.type_list_append mt_append (NN.pv 3) (pa_cons (NN.pe_bmK (K := K) rfl PySem.F.plainAttrs_list PySem.F.slot_list_pop PySem.F.type_list_pop mt_popAt (NN.pv 2) (pa_cons (NN.pe_fn F_law_next (hr.mono (by first | decide | omega)) (pa_cons (NN.pv 0) (pa_cons (pe_callB (NN.call_lenK (K := K) rfl) (by rfl) T.b_len (by decide +kernel) (pa_cons (NN.pv 2) pa_nil)) pa_nil))) pa_nil)) pa_nil)))))
      (pss_one (ps_ret (NN.pv 3)))))), ?_⟩
    refine NN.g_st [some (.ref st), some (.ref a), none, none] rfl ?_
    fail "g1"
    fail "gs"
    refine g_listSeq ha fun l hl => ?_
    fail "g1"
    fail "g1"
    fail "gs"
    rename_i f2 hf2
    have hlst := hst.ne hl
    have hfst := (hst.upn hl).ne hf2
    have hfl : f2 ≠ l := (ne_of_none upd_same hf2).symm
    have hf0 : H f2 = none := (Kp.new (S := []) hl).free hf2 (by simp)
    fail "g1"
    refine g_while (fun m σ H' => ∃ ls fs : List V, σ = [some (.ref st), some (.ref a), some (.ref l), some (.ref f2)] ∧ H' l = some (.lst ls) ∧ H' f2 = some (.lst fs) ∧ (ls ++ fs).Perm xs ∧ m = ls.length ∧ St1 H' st ∧ Kp [l, f2, st] H H' ∧ ∀ x ∈ xs, FineV [l, f2, st] H' x) xs.length ?_ ?_
    · refine ⟨xs, [], rfl, by rw [upd_ne hfl.symm]; exact upd_same, upd_same, by simp, rfl, (hst.upn hl).upn hf2, (Kp.new hl).trans (Kp.new hf2), fun x hx => ?_⟩
      have h0 : FineV [l, f2, st] H x := ((hf x hx).ext hf0).ext hl
      exact (h0.kp (Kp.new (S := []) hl) (by simp)).kp (Kp.new (S := []) hf2) (by simp)
    · rintro m σ H1 ⟨ls, fs, rfl, hl1, hf1, hp, rfl, hst1, k1, hfin⟩
      fail "go"
      rename_i p hp2
      have npl : l ≠ p := ne_of_none hl1 hp2
      have npf : f2 ≠ p := ne_of_none hf1 hp2
      refine g_neNilV (S := [l, f2, st]) (xs := ls) (by rw [upd_ne npl]; exact hl1) upd_same (fun x hx => (hfin x (hp.subset (List.mem_append_left _ hx))).kp (Kp.new (S := []) hp2) (by simp)) ?_
      fail "go"
      refine g_ifB (fun e => ?_) (fun e => ?_)
      · refine g_turn ?_
        have hpos : 0 < ls.length := by cases ls <;> simp at e ⊢
        have hlenL : ls.length ≤ 1000 := by have := hp.length_eq; simp at this; omega
        have hl2 : upd H1 p (.lst []) l = some (.lst ls) := by rw [upd_ne npl]; exact hl1
        have hf3 : upd H1 p (.lst []) f2 = some (.lst fs) := by rw [upd_ne npf]; exact hf1
        fail "go"
        refine g_ty (tyL hf3) ?_
        fail "go"
        refine g_ty (tyL hl2) ?_
        fail "go"
        refine c_next (hst1.upn hp2) (by omega) fun r H3 hr0 hr1 k3 hst3 => ?_
        have hl3 := k3.at hl2 (by simpa using hlst)
        have hf4 := k3.at hf3 (by simpa using hfst)
        have hlt : r.toNat < ls.length := by omega
        fail "go"
        refine g_popAt hl3 hr0 hr1 (by omega) (List.getElem?_eq_getElem hlt) ?_
        fail "go"
        refine g_append (xs := fs) (by rw [upd_ne hfl]; exact hf4) (sz2 (by have := hp.length_eq; simp at this; omega)) ?_
        fail "go"
        have kk : Kp [l, f2, st] H1 (upd (upd H3 l (.lst (ls.eraseIdx r.toNat))) f2 (.lst (fs ++ [ls[r.toNat]]))) := ((((Kp.new hp2).trans (k3.sub (by simp))).upd (by simp)).upd (by simp))
        refine ⟨ls.length - 1, by omega, ls.eraseIdx r.toNat, fs ++ [ls[r.toNat]], rfl, by rw [upd_ne hfl.symm]; exact upd_same, upd_same, ?_, by rw [List.length_eraseIdx, if_pos hlt], ?_, k1.trans kk, fun x hx => (hfin x hx).kp kk (by simp)⟩
        · refine List.Perm.trans ?_ hp
          rw [← List.append_assoc]
          refine List.perm_append_comm.trans ?_
          show (ls[r.toNat] :: (ls.eraseIdx r.toNat ++ fs)).Perm (ls ++ fs)
          exact (perm_erase (List.getElem?_eq_getElem hlt)).append_right fs
        · refine (hst3.kp (S := [l]) (Kp.mut (by simp)) (by simpa using hlst.symm)).kp (S := [f2]) (Kp.mut (by simp)) (by simpa using hfst.symm)
      · fail "go"
        have hnil : ls = [] := by cases ls <;> simp at e ⊢
        subst hnil
        refine q f2 fs _ hf0 ?_ (hst1.upn hp2) (by rw [upd_ne npf]; exact hf1) (by simpa using hp)
        have k2 : Kp [l, f2, st] H (upd H1 p (.lst [])) := k1.upn hp2
        exact (Kp.drop hf0 (Kp.drop hl k2))
end
end Nw
namespace Nw
open PySem L2 NN
section
variable {P : Program} {w : World} {K : PySem.W.Frag} {mg : Str → Option Value} {base : Heap} {C_Held : Addr} {C_LetGo : Addr} {C_Missing : Addr} {C_NewError : Addr} {C_NoName : Addr} {C_NoRow : Addr} {C_NoSpare : Addr} {C_Plan : Addr} {C_Twice : Addr}
end
end Nw
namespace Nw
open PySem L2 NN
section
variable {P : Program} {w : World} {K : PySem.W.Frag} {mg : Str → Option Value} {base : Heap} {C_Held : Addr} {C_LetGo : Addr} {C_Missing : Addr} {C_NewError : Addr} {C_NoName : Addr} {C_NoRow : Addr} {C_NoSpare : Addr} {C_Plan : Addr} {C_Twice : Addr}
end
end Nw
namespace Nw
open PySem L2 NN
abbrev sPlan___init__ : Stmt := inClass (top 11) 0
theorem scPlan___init__ : FnScope ["self", "pairs", "old", "new"] ["self", "pairs"] (defScope sPlan___init__) := ⟨rfl, rfl, rfl, by decide +kernel, rfl, by decide +kernel, by decide +kernel⟩
abbrev sPlan_pairs : Stmt := inClass (top 11) 1
theorem scPlan_pairs : FnScope ["self", "old"] ["self"] (defScope sPlan_pairs) := ⟨rfl, rfl, rfl, by decide +kernel, rfl, by decide +kernel, by decide +kernel⟩
abbrev sPlan_olds : Stmt := inClass (top 11) 2
theorem scPlan_olds : FnScope ["self"] ["self"] (defScope sPlan_olds) := ⟨rfl, rfl, rfl, by decide +kernel, rfl, by decide +kernel, by decide +kernel⟩
abbrev sPlan_news : Stmt := inClass (top 11) 3
theorem scPlan_news : FnScope ["self"] ["self"] (defScope sPlan_news) := ⟨rfl, rfl, rfl, by decide +kernel, rfl, by decide +kernel, by decide +kernel⟩
abbrev sPlan_to : Stmt := inClass (top 11) 4
theorem scPlan_to : FnScope ["self", "name"] ["self", "name"] (defScope sPlan_to) := ⟨rfl, rfl, rfl, by decide +kernel, rfl, by decide +kernel, by decide +kernel⟩
section
variable {P : Program} {w : World} {K : PySem.W.Frag} {mg : Str → Option Value} {base : Heap} {C_Held : Addr} {C_LetGo : Addr} {C_Missing : Addr} {C_NewError : Addr} {C_NoName : Addr} {C_NoRow : Addr} {C_NoSpare : Addr} {C_Plan : Addr} {C_Twice : Addr}
theorem ok_olds {f} {fd} (F : Fun K "olds" "Plan.olds" sPlan_olds f fd) (T : Txt K mg C_Held C_LetGo C_Missing C_NewError C_NoName C_NoRow C_NoSpare C_Plan C_Twice) : FnOk P w K mg base CX0 1 f fd ["self"] (spPlanOlds C_Plan) := by
  refine F.ok scPlan_olds (fun vs H Q E h => ?_) (fun cdv A outer s H vs Q E hr h => ?_)
  · obtain ⟨p, prs, rfl, _⟩ := h
    rfl
  · obtain ⟨p, prs, rfl, hp, hk, q⟩ := h
    obtain ⟨a, b, dx, h1, h2, h3, _⟩ := hp.ex
    have hu := hu_of hr
    refine ⟨_, (pss_one (ps_ret (pe_callB (NN.call_sortedK (K := K) rfl rfl) (by rfl) T.b_sorted (by decide +kernel) (pa_cons (NN.pe_fldK (K := K) rfl (NN.pv 0)) pa_nil)))), ?_⟩
    refine NN.g_st [some (.ref p)] rfl ?_
    fail "go"
    refine ⟨p, C_Plan, dx, _, _, rfl, h1, T.cl_Plan, T.n_Plan_by_olds, rfl, ?_⟩
    fail "go"
    refine g_sortedD (th := oldsD prs) h2 (by rw [keys_oldsD]; have := hk.len; simp [keys]; omega) fun l hl => ?_
    rw [keys_oldsD]
    exact q l _ hl (Kp.new hl) upd_same
theorem ok_news {f} {fd} (F : Fun K "news" "Plan.news" sPlan_news f fd) (T : Txt K mg C_Held C_LetGo C_Missing C_NewError C_NoName C_NoRow C_NoSpare C_Plan C_Twice) : FnOk P w K mg base CX0 1 f fd ["self"] (spPlanNews C_Plan) := by
  refine F.ok scPlan_news (fun vs H Q E h => ?_) (fun cdv A outer s H vs Q E hr h => ?_)
  · obtain ⟨p, prs, rfl, _⟩ := h
    rfl
  · obtain ⟨p, prs, rfl, hp, hk, q⟩ := h
    obtain ⟨a, b, dx, h1, h2, h3, _⟩ := hp.ex
    have hu := hu_of hr
    refine ⟨_, (pss_one (ps_ret (pe_callB (NN.call_sortedK (K := K) rfl rfl) (by rfl) T.b_sorted (by decide +kernel) (pa_cons (NN.pe_fldK (K := K) rfl (NN.pv 0)) pa_nil)))), ?_⟩
    refine NN.g_st [some (.ref p)] rfl ?_
    fail "go"
    refine ⟨p, C_Plan, dx, _, _, rfl, h1, T.cl_Plan, T.n_Plan_by_news, rfl, ?_⟩
    fail "go"
    refine g_sortedD (th := newsD prs) h3 (by rw [keys_newsD]; have := hk.len; have : (news prs).length ≤ prs.length := List.length_filterMap_le ..; omega) fun l hl => ?_
    rw [keys_newsD]
    exact q l _ hl (Kp.new hl) upd_same
theorem ok_to {f} {fd} (F : Fun K "to" "Plan.to" sPlan_to f fd) (T : Txt K mg C_Held C_LetGo C_Missing C_NewError C_NoName C_NoRow C_NoSpare C_Plan C_Twice) : FnOk P w K mg base CX0 1 f fd ["self", "name"] (spPlanTo C_Plan) := by
  refine F.ok scPlan_to (fun vs H Q E h => ?_) (fun cdv A outer s H vs Q E hr h => ?_)
  · obtain ⟨p, prs, n, rfl, _⟩ := h
    rfl
  · obtain ⟨p, prs, n, rfl, hp, q⟩ := h
    obtain ⟨a, b, dx, h1, h2, h3, _⟩ := hp.ex
    have hu := hu_of hr
    refine ⟨_, (pss_one (ps_ret (pe_dget2 hu (NN.pe_fldK (K := K) rfl (NN.pv 0)) (NN.pv 1) (NN.pv 1) ⟨rfl, rfl, rfl, rfl⟩))), ?_⟩
    refine NN.g_st [some (.ref p), some (.str n)] rfl ?_
    fail "go"
    refine ⟨p, C_Plan, dx, _, _, rfl, h1, T.cl_Plan, T.n_Plan_by_olds, rfl, ?_⟩
    refine ⟨a, rfl, .inl ⟨_, .inl h2⟩, ?_⟩
    fail "go"
    refine ⟨_, DGet.s n h2, ?_⟩
    rw [lk_oldsD]
    exact q
theorem ok_plan_pairs {f} {fd} (F : Fun K "pairs" "Plan.pairs" sPlan_pairs f fd) (T : Txt K mg C_Held C_LetGo C_Missing C_NewError C_NoName C_NoRow C_NoSpare C_Plan C_Twice) : FnOk P w K mg base CX0 1 f fd ["self"] (spPlanPairs C_Plan) := by
  refine F.ok scPlan_pairs (fun vs H Q E h => ?_) (fun cdv A outer s H vs Q E hr h => ?_)
  · obtain ⟨p, prs, rfl, _⟩ := h
    rfl
  · obtain ⟨p, prs, rfl, hp, hk, q⟩ := h
    obtain ⟨a, b, dx, h1, h2, h3, _⟩ := hp.ex
    have hu := hu_of hr
    refine ⟨_, (pss_one (ps_ret (pe_lc (own := [("old", 1)]) rfl scPlan_pairs.nd (NN.pi_listK (K := K) rfl (pe_callB (NN.call_sortedK (K := K) rfl rfl) (by rfl) T.b_sorted (by decide +kernel) (pa_cons (NN.pe_fldK (K := K) rfl (NN.pv 0)) pa_nil))) (blkOk_by (own := [("old", 1)]) (N := ["self", "old"]) (sc := defScope sPlan_pairs) (by decide +kernel)) (fun _ _ _ _ _ => (pg_name (i := 1) scPlan_pairs.nd rfl (Or.inl rfl))) (fun _ _ _ _ _ => pts_nil) (fun _ _ _ _ _ => (pe_tup (pa_cons (NN.pv 1) (pa_cons (pe_ix (NN.ix_K (K := K) rfl hu) (NN.pe_fldK (K := K) rfl (NN.pv 0)) (NN.pv 1) (fun _ _ => rfl)) pa_nil))))))), ?_⟩
    refine NN.g_st [some (.ref p), none] rfl ?_
    fail "go"
    refine ⟨p, C_Plan, dx, _, _, rfl, h1, T.cl_Plan, T.n_Plan_by_olds, rfl, ?_⟩
    fail "go"
    refine g_sortedD (th := oldsD prs) h2 (by rw [keys_oldsD]; have := hk.len; simp [keys]; omega) fun l hll0 => ?_
    rw [keys_oldsD]
    have h1' : upd H l (.lst ((srt (keys prs)).map V.str)) p = some (.ins C_Plan dx (flds a b)) := (Kp.new (S := []) hll0).at h1 (by simp)
    have h2' : upd H l (.lst ((srt (keys prs)).map V.str)) a = some (.dK (dS (oldsD prs))) := (Kp.new (S := []) hll0).at h2 (by simp)
    fail "go"
    intro D hD
    have hll : l ≠ D := ne_of_none upd_same hD
    refine lc_kp (walk_list (xs := (srt (keys prs)).map V.str)) [] (fun i acc H' => acc.length = i ∧ ∀ S, Live S H → AtL (D :: S) H' acc (((byOlds prs).take i).map encP)) hD ⟨rfl, fun _ _ => .nil⟩
      (fun i acc H5 _ k5 _ => SqL.of (k5.at upd_same (by simpa using hll))) ?_ ?_
    · rintro i x H5 H6 acc hi hacc hl k5 ⟨hai, hat⟩ ⟨rfl, hx⟩
      obtain ⟨n, hn, rfl⟩ := str_at hx
      have hnk : n ∈ keys prs := mem_srt.mp (List.mem_of_getElem? hn)
      obtain ⟨o, ho⟩ := lk_of_key hnk
      have hp6 : H6 p = some (.ins C_Plan dx (flds a b)) := k5.at h1' (by simpa using ne_of_none h1' hD)
      have ha6 : H6 a = some (.dK (dS (oldsD prs))) := k5.at h2' (by simpa using ne_of_none h2' hD)
      fail "go"
      refine ⟨p, C_Plan, dx, _, _, rfl, hp6, T.cl_Plan, T.n_Plan_by_olds, rfl, ?_⟩
      fail "go"
      refine g_ixD (v := oV o) (by have := DGet.s n ha6; rw [lk_oldsD, ho] at this; exact this) ?_
      fail "go"
      rename_i p8 hp8
      refine lc_add (acc := acc) (by rw [upd_ne (ne_of_none hacc hp8)]; exact hacc) hl (by rw [List.length_map, len_srt] at hi; have := hk.len; simp [keys] at hi; omega) (k5.upn hp8) ⟨by simp [hai], fun S hS => ?_⟩
      have hl0 : Live S H6 := (hS.kp (Kp.new (S := []) hll0) (by simp)).kp k5 fun s hs => by rw [List.mem_singleton.mp hs]; exact ne_some hacc
      have hz : (byOlds prs)[i]? = some (n, o) := by unfold byOlds; rw [List.getElem?_map, hn]; simp [ho]
      rw [List.take_add_one, hz, List.map_append]
      have h8 : At (D :: S) (upd H6 p8 (.tup [.str n, oV o])) (.ref p8) (encP (n, o)) := At.newT hp8 (hl0.cons (ne_some hacc)) (AtL.two _ _)
      exact (((hat S hS).kp (Kp.new (S := []) hp8) (by simp)).snoc h8).kp (Kp.mut (S := [D]) (by simp)) (by simp)
    · rintro H5 acc hacc k5 ⟨hai, hat⟩
      fail "go"
      refine q D acc H5 ((Kp.new (S := []) hll0).free hD (by simp)) ((Kp.new hll0).trans k5) hacc fun S hS => ?_
      have := hat S hS
      rw [List.take_of_length_le (by unfold byOlds; simp)] at this
      exact this
theorem ok_plan_init {f} {fd} (F : Fun K "__init__" "Plan.__init__" sPlan___init__ f fd) (T : Txt K mg C_Held C_LetGo C_Missing C_NewError C_NoName C_NoRow C_NoSpare C_Plan C_Twice) (F_is_name : FnAt P w K mg base CX0 1 "is_name" ["thing"] (spIsName K)) : FnOk P w K mg base CX0 2 f fd ["self", "pairs"] (spPlanInit C_Plan) := by
  refine F.ok scPlan___init__ (fun vs H Q E h => ?_) (fun cdv A outer s H vs Q E hr h => ?_)
  · obtain ⟨x, dx, y, prs, rfl, _⟩ := h
    rfl
  · obtain ⟨x, dx, y, prs, rfl, hx, hy, hk, q⟩ := h
    have hu := hu_of hr
    refine ⟨_, (pss_cons (ps_fld (NN.pv 0) pe_dnewK rfl)
      (pss_cons (ps_fld (NN.pv 0) pe_dnewK rfl)
      (pss_one (ps_for PassesOwn.never rfl (NN.pi_listK (K := K) rfl (NN.pv 1)) (NN.pg_tupK (K := K) (n := 2) rfl rfl (pgs_cons (pg_name (i := 2) scPlan___init__.nd rfl (Or.inl rfl)) (pgs_cons (pg_name (i := 3) scPlan___init__.nd rfl (Or.inl rfl)) pgs_nil))) (pss_cons (ps_if (PW.pt (pw_or (pt_not (pt_val (NN.pe_fn F_is_name (hr.mono (by first | decide | omega)) (pa_cons (NN.pv 2) pa_nil)))) (pw_or1 (pt_not (PW.pt (pw_or (pt_cmpR NN.op_isU (NN.pv 3) pe_non (nomark _)) (pw_or1 (pt_val (NN.pe_fn F_is_name (hr.mono (by first | decide | omega)) (pa_cons (NN.pv 3) pa_nil)))))))))) (pss_one ps_never) pss_nil)
      (pss_cons (ps_if (pt_cmpR (NN.op_inK (K := K) rfl hu) (NN.pv 2) (NN.pe_fldK (K := K) rfl (NN.pv 0)) (by rfl)) (pss_one ps_never) pss_nil)
      (pss_cons (ps_if (pt_cmpR (NN.op_inK (K := K) rfl hu) (NN.pv 3) (NN.pe_fldK (K := K) rfl (NN.pv 0)) (by rfl)) (pss_one ps_never) pss_nil)
      (pss_cons (ps_asg (NN.pv 3) (pg_sub (NN.pe_fldK (K := K) rfl (NN.pv 0)) (NN.pv 2) (NN.set_U hu)))
      (pss_one (ps_if (pt_cmpR NN.op_isNotU (NN.pv 3) pe_non (nomark _)) (pss_one (ps_asg (NN.pv 2) (pg_sub (NN.pe_fldK (K := K) rfl (NN.pv 0)) (NN.pv 3) (NN.set_U hu)))) pss_nil)))))))))), ?_⟩
    refine NN.g_st [some (.ref x), some y, none, none] rfl ?_
    fail "go"
    rename_i pa hpa
    have nxa : x ≠ pa := ne_of_none hx hpa
    refine ⟨x, C_Plan, dx, [], rfl, by rw [upd_ne nxa]; exact hx, T.cl_Plan, T.n_Plan_by_olds, by decide, ?_⟩
    fail "go"
    rename_i pb hpb
    have nxb : x ≠ pb := ne_of_none upd_same hpb
    have nab : pa ≠ pb := fun z => by rw [← z, upd_ne nxa.symm, upd_same] at hpb; cases hpb
    have hb0 : H pb = none := by rw [upd_ne nxb.symm, upd_ne nab.symm] at hpb; exact hpb
    refine ⟨x, C_Plan, dx, putF "by_olds" (.ref pa) [], rfl, by rw [upd_ne nxb]; exact upd_same, T.cl_Plan, T.n_Plan_by_news, (by show 1 < 1000; decide), ?_⟩
    have hfl : putF "by_news" (V.ref pb) (putF "by_olds" (.ref pa) []) = flds pa pb := by
      show (if ("by_olds" : Str) = "by_news" then _ else (("by_olds" : Str), V.ref pa) :: putF "by_news" (V.ref pb) []) = flds pa pb
      rw [if_neg (by decide +kernel)]; rfl
    rw [hfl]
    generalize hH : upd (upd (upd (upd H pa (.dK [])) x (.ins C_Plan dx (putF "by_olds" (.ref pa) []))) pb (.dK [])) x (.ins C_Plan dx (flds pa pb)) = H1
    have kx : Kp [x] H H1 := by rw [← hH]; exact (((Kp.new hpa).trans (Kp.mut (by simp))).trans (Kp.new hpb)).upd (by simp)
    have hx1 : H1 x = some (.ins C_Plan dx (flds pa pb)) := by rw [← hH]; exact upd_same
    have ha1 : H1 pa = some (.dK (dS [])) := by rw [← hH, upd_ne nxa.symm, upd_ne nab, upd_ne nxa.symm]; exact upd_same
    have hb1 : H1 pb = some (.dK (dS [])) := by rw [← hH, upd_ne nxb.symm]; exact upd_same
    have hy1 : At [pa, pb, x] H1 y (encPs prs) := by
      have h0 : At [pa, pb, x] H y (encPs prs) := (hy.ext hb0).ext hpa
      exact h0.kp kx (by simp)
    obtain ⟨ay, vs, rfl, nay, hay, hvs⟩ := hy1.isL
    fail "go"
    refine for_it (walk_list (xs := vs)) (fun i σ H' => ∃ v2 v3, σ = [some (.ref x), some (.ref ay), v2, v3] ∧ Kp [pa, pb] H1 H' ∧ H' pa = some (.dK (dS (oldsD (prs.take i)))) ∧ H' pb = some (.dK (dS (newsD (prs.take i))))) ?_ ?_ ?_ ?_
    · exact ⟨none, none, rfl, Kp.refl _ _, ha1, hb1⟩
    · rintro i σ H' _ ⟨_, _, _, k, _⟩
      exact SqL.of (k.at hay (by simp only [List.mem_cons, not_or] at nay ⊢; exact ⟨nay.1, nay.2.1, by simp⟩))
    · rintro i z σ H2 H3 hi ⟨v2, v3, rfl, k2, ha2, hb2⟩ ⟨rfl, hz⟩
      obtain ⟨d, hd, hzd⟩ := hvs.get' hz
      rw [List.getElem?_map] at hd
      obtain ⟨p, hpp, rfl⟩ : ∃ p, prs[i]? = some p ∧ d = encP p := by
        cases e : prs[i]? with
        | none => rw [e] at hd; cases hd
        | some p => rw [e] at hd; exact ⟨p, rfl, (Option.some.inj hd).symm⟩
      obtain ⟨ta, ws, rfl, nta, hta, hws⟩ := (hzd.kp k2 (by simp)).isT
      have hws' : ws = [.str p.1, oV p.2] := AtL.vals_eq (ws := [.str p.1, oV p.2]) hws
      subst hws'
      have hpm : p ∈ prs := List.mem_of_getElem? hpp
      have hpo : isName p.1 = true := hk.olds p.1 (List.mem_map.mpr ⟨p, hpm, rfl⟩)
      have hpn : ∀ n, p.2 = some n → isName n = true := fun n hn => hk.news n (List.mem_filterMap.mpr ⟨p, hpm, hn⟩)
      have hil : i < prs.length := (List.getElem?_eq_some_iff.mp hpp).1
      have hlen := hk.len
      have hno : p.1 ∉ keys (oldsD (prs.take i)) := by
        rw [keys_oldsD]; unfold keys; rw [List.map_take]
        intro hm
        obtain ⟨j, hj, e⟩ := List.mem_take_iff_getElem.mp hm
        have h1 : (prs.map (·.1))[i]? = some p.1 := by rw [List.getElem?_map, hpp]; rfl
        have := nd_ix (show (prs.map (·.1)).Nodup from hk.ndo) (List.getElem?_eq_some_iff.mpr ⟨_, e⟩) h1
        omega
      have hnn : ∀ n, p.2 = some n → n ∉ keys (newsD (prs.take i)) := fun n hn => by
        rw [keys_newsD]
        intro hm
        have h1 : news prs = news (prs.take i) ++ n :: news (prs.drop (i + 1)) := by
          conv => lhs; rw [← List.take_append_drop i prs, List.drop_eq_getElem_cons hil]
          have e : prs[i] = p := (List.getElem?_eq_some_iff.mp hpp).2
          unfold news
          rw [List.filterMap_append, e, List.filterMap_cons, hn]
        have h2 := hk.ndn
        rw [h1] at h2
        exact (List.nodup_append.mp h2).2.2 n hm n (List.mem_cons_self ..) rfl
      have hx3 : ∀ {H' : Hp}, Kp [pa, pb] H1 H' → H' x = some (.ins C_Plan dx (flds pa pb)) := fun k => k.at hx1 (by simpa using ⟨nxa, nxb⟩)
      refine g_tgt (SqT.of hta) rfl ?_
      fail "go"
      refine c_isName (by have := name_len hpo; omega) fun H4 k4 => ?_
      rw [hpo]
      have k5 : Kp [pa, pb] H1 H4 := k2.trans (k4.sub (by simp))
      have ha4 := k4.at ha2 (by simp)
      have hb4 := k4.at hb2 (by simp)
      fail "go"
      obtain ⟨o, n⟩ := p
      have fin : ∀ H', Kp [pa, pb] H1 H' → H' pa = some (.dK (dS (oldsD (prs.take i)))) → H' pb = some (.dK (dS (newsD (prs.take i)))) → ∀ H'' , Kp [pa, pb] H' H'' → H'' pa = some (.dK (dS (oldsD (prs.take (i + 1))))) → H'' pb = some (.dK (dS (newsD (prs.take (i + 1))))) → ∃ v2 v3, [some (V.ref x), some (V.ref ay), some (V.str o), some (oV n)] = [some (V.ref x), some (V.ref ay), v2, v3] ∧ Kp [pa, pb] H1 H'' ∧ H'' pa = some (.dK (dS (oldsD (prs.take (i + 1))))) ∧ H'' pb = some (.dK (dS (newsD (prs.take (i + 1))))) :=
        fun H' kk _ _ H'' kk2 e1 e2 => ⟨_, _, rfl, kk.trans kk2, e1, e2⟩
      have eo : oldsD (prs.take (i + 1)) = put (oldsD (prs.take i)) o (oV n) := by
        rw [put_new _ hno, List.take_add_one, hpp]; simp [oldsD]
      cases n with
      | none =>
        have en : newsD (prs.take (i + 1)) = newsD (prs.take i) := by rw [List.take_add_one, hpp]; simp [newsD]
        fail "go"
        refine g_fA (hx3 k5) T.cl_Plan T.n_Plan_by_olds rfl ?_
        refine g_inD (DGet.s o ha4) ?_
        rw [lk_none.mpr hno]
        fail "go"
        refine g_fA (hx3 k5) T.cl_Plan T.n_Plan_by_news rfl ?_
        refine g_inN hb4 ?_
        fail "go"
        refine g_fA (hx3 k5) T.cl_Plan T.n_Plan_by_olds rfl ?_
        fail "go"
        refine g_setD ha4 (sz2 (by rw [dS_len]; simp [oldsD]; omega)) ?_
        rw [putK_dS]
        fail "go"
        exact fin H4 k5 ha4 hb4 _ (Kp.mut (by simp)) (by rw [upd_same, eo]) (by rw [upd_ne nab.symm, hb4, en])
      | some n =>
        have en : newsD (prs.take (i + 1)) = put (newsD (prs.take i)) n (.str o) := by
          rw [put_new _ (hnn n rfl), List.take_add_one, hpp]; simp [newsD]
        fail "go"
        refine c_isName (by have := name_len (hpn n rfl); omega) fun H6 k6 => ?_
        rw [hpn n rfl]
        have k7 : Kp [pa, pb] H1 H6 := k5.trans (k6.sub (by simp))
        have ha6 := k6.at ha4 (by simp)
        have hb6 := k6.at hb4 (by simp)
        fail "go"
        refine g_fA (hx3 k7) T.cl_Plan T.n_Plan_by_olds rfl ?_
        refine g_inD (DGet.s o ha6) ?_
        rw [lk_none.mpr hno]
        fail "go"
        refine g_fA (hx3 k7) T.cl_Plan T.n_Plan_by_news rfl ?_
        refine g_inD (DGet.s n hb6) ?_
        rw [lk_none.mpr (hnn n rfl)]
        fail "go"
        refine g_fA (hx3 k7) T.cl_Plan T.n_Plan_by_olds rfl ?_
        fail "go"
        refine g_setD ha6 (sz2 (by rw [dS_len]; simp [oldsD]; omega)) ?_
        rw [putK_dS]
        fail "go"
        have k8 : Kp [pa, pb] H6 (upd H6 pa (.dK (dS (put (oldsD (prs.take i)) o (.str n))))) := Kp.mut (by simp)
        refine g_fA (hx3 (k7.trans k8)) T.cl_Plan T.n_Plan_by_news rfl ?_
        fail "go"
        refine g_setD (kvs := dS (newsD (prs.take i))) (by rw [upd_ne nab.symm]; exact hb6) (sz2 (by rw [dS_len]; have : (newsD (prs.take i)).length ≤ (prs.take i).length := List.length_filterMap_le ..; simp at this; omega)) ?_
        rw [putK_dS]
        fail "go"
        exact fin H6 k7 ha6 hb6 _ (k8.upd (by simp)) (by rw [upd_ne nab, upd_same, eo]) (by rw [upd_same, en])
    · rintro σ H2 ⟨v2, v3, rfl, k2, ha2, hb2⟩
      have hvl : vs.length = prs.length := by rw [hvs.length, List.length_map]
      rw [List.take_of_length_le (by omega)] at ha2 hb2
      fail "go"
      refine q pa pb H2 ?_ hpa hb0 (k2.at hx1 (by simpa using ⟨nxa, nxb⟩)) ha2 hb2
      exact fun b' o' e n' => k2.at (kx.at e n') (by simpa using ⟨fun z => ne_of_none e hpa z, fun z => ne_of_none e hb0 z⟩)
end
end Nw
namespace Nw
open PySem L2 NN
section
variable {P : Program} {w : World} {K : PySem.W.Frag} {mg : Str → Option Value} {base : Heap} {C_Held : Addr} {C_LetGo : Addr} {C_Missing : Addr} {C_NewError : Addr} {C_NoName : Addr} {C_NoRow : Addr} {C_NoSpare : Addr} {C_Plan : Addr} {C_Twice : Addr}
end
end Nw
namespace Nw
open PySem L2 NN
abbrev sTwice___init__ : Stmt := inClass (top 3) 0
theorem scTwice___init__ : FnScope ["self", "name"] ["self", "name"] (defScope sTwice___init__) := ⟨rfl, rfl, rfl, by decide +kernel, rfl, by decide +kernel, by decide +kernel⟩
abbrev sMissing___init__ : Stmt := inClass (top 4) 0
theorem scMissing___init__ : FnScope ["self", "name"] ["self", "name"] (defScope sMissing___init__) := ⟨rfl, rfl, rfl, by decide +kernel, rfl, by decide +kernel, by decide +kernel⟩
abbrev sHeld___init__ : Stmt := inClass (top 5) 0
theorem scHeld___init__ : FnScope ["self", "name"] ["self", "name"] (defScope sHeld___init__) := ⟨rfl, rfl, rfl, by decide +kernel, rfl, by decide +kernel, by decide +kernel⟩
abbrev sNoSpare___init__ : Stmt := inClass (top 6) 0
theorem scNoSpare___init__ : FnScope ["self", "ring"] ["self", "ring"] (defScope sNoSpare___init__) := ⟨rfl, rfl, rfl, by decide +kernel, rfl, by decide +kernel, by decide +kernel⟩
section
variable {P : Program} {w : World} {K : PySem.W.Frag} {mg : Str → Option Value} {base : Heap} {C_Held : Addr} {C_LetGo : Addr} {C_Missing : Addr} {C_NewError : Addr} {C_NoName : Addr} {C_NoRow : Addr} {C_NoSpare : Addr} {C_Plan : Addr} {C_Twice : Addr}
theorem ok_x_Twice {f} {fd} (F : Fun K "__init__" "Twice.__init__" sTwice___init__ f fd) (T : Txt K mg C_Held C_LetGo C_Missing C_NewError C_NoName C_NoRow C_NoSpare C_Plan C_Twice) : FnOk P w K mg base CX0 1 f fd ["self", "name"] (spXm C_Twice "name" okName) := by
  refine F.ok scTwice___init__ (fun vs H Q E h => ?_) (fun cdv A outer s H vs Q E hr h => ?_)
  · obtain ⟨a, y, rfl, _⟩ := h
    rfl
  · obtain ⟨a, y, rfl, ha, hy, q⟩ := h
    have hu := hu_of hr
    refine ⟨_, (pss_cons (ps_expr (NN.pe_base T.ne.mg T.ne.ini (pa_cons (NN.pv 0) (pa_cons (NN.pv 1) pa_nil))))
      (pss_one (ps_ost (NN.pv 0) (NN.pv 1)))), ?_⟩
    refine NN.g_st [some (.ref a), some y] rfl ?_
    fail "go"
    refine ⟨a, C_Twice, _, rfl, by simp, T.o_Twice, ha, ?_⟩
    fail "go"
    exact ⟨a, C_Twice, rfl, T.o_Twice, T.er_Twice.no, .inl ⟨ha, q⟩⟩
theorem ok_x_Missing {f} {fd} (F : Fun K "__init__" "Missing.__init__" sMissing___init__ f fd) (T : Txt K mg C_Held C_LetGo C_Missing C_NewError C_NoName C_NoRow C_NoSpare C_Plan C_Twice) : FnOk P w K mg base CX0 1 f fd ["self", "name"] (spXm C_Missing "name" okName) := by
  refine F.ok scMissing___init__ (fun vs H Q E h => ?_) (fun cdv A outer s H vs Q E hr h => ?_)
  · obtain ⟨a, y, rfl, _⟩ := h
    rfl
  · obtain ⟨a, y, rfl, ha, hy, q⟩ := h
    have hu := hu_of hr
    refine ⟨_, (pss_cons (ps_expr (NN.pe_base T.ne.mg T.ne.ini (pa_cons (NN.pv 0) (pa_cons (NN.pv 1) pa_nil))))
      (pss_one (ps_ost (NN.pv 0) (NN.pv 1)))), ?_⟩
    refine NN.g_st [some (.ref a), some y] rfl ?_
    fail "go"
    refine ⟨a, C_Missing, _, rfl, by simp, T.o_Missing, ha, ?_⟩
    fail "go"
    exact ⟨a, C_Missing, rfl, T.o_Missing, T.er_Missing.no, .inl ⟨ha, q⟩⟩
theorem ok_x_Held {f} {fd} (F : Fun K "__init__" "Held.__init__" sHeld___init__ f fd) (T : Txt K mg C_Held C_LetGo C_Missing C_NewError C_NoName C_NoRow C_NoSpare C_Plan C_Twice) : FnOk P w K mg base CX0 1 f fd ["self", "name"] (spXm C_Held "name" okName) := by
  refine F.ok scHeld___init__ (fun vs H Q E h => ?_) (fun cdv A outer s H vs Q E hr h => ?_)
  · obtain ⟨a, y, rfl, _⟩ := h
    rfl
  · obtain ⟨a, y, rfl, ha, hy, q⟩ := h
    have hu := hu_of hr
    refine ⟨_, (pss_cons (ps_expr (NN.pe_base T.ne.mg T.ne.ini (pa_cons (NN.pv 0) (pa_cons (NN.pv 1) pa_nil))))
      (pss_one (ps_ost (NN.pv 0) (NN.pv 1)))), ?_⟩
    refine NN.g_st [some (.ref a), some y] rfl ?_
    fail "go"
    refine ⟨a, C_Held, _, rfl, by simp, T.o_Held, ha, ?_⟩
    fail "go"
    exact ⟨a, C_Held, rfl, T.o_Held, T.er_Held.no, .inl ⟨ha, q⟩⟩
theorem ok_x_NoSpare {f} {fd} (F : Fun K "__init__" "NoSpare.__init__" sNoSpare___init__ f fd) (T : Txt K mg C_Held C_LetGo C_Missing C_NewError C_NoName C_NoRow C_NoSpare C_Plan C_Twice) : FnOk P w K mg base CX0 1 f fd ["self", "ring"] (spXm C_NoSpare "ring" okRing) := by
  refine F.ok scNoSpare___init__ (fun vs H Q E h => ?_) (fun cdv A outer s H vs Q E hr h => ?_)
  · obtain ⟨a, y, rfl, _⟩ := h
    rfl
  · obtain ⟨a, y, rfl, ha, hy, q⟩ := h
    have hu := hu_of hr
    refine ⟨_, (pss_cons (ps_expr (NN.pe_base T.ne.mg T.ne.ini (pa_cons (NN.pv 0) (pa_cons (pe_ix (NN.ix_K (K := K) rfl hu) (NN.pv 1) pe_int (fun _ _ => rfl)) pa_nil))))
      (pss_one (ps_ost (NN.pv 0) (NN.pv 1)))), ?_⟩
    refine NN.g_st [some (.ref a), some y] rfl ?_
    fail "go"
    obtain ⟨t, x, xs, rfl, ht⟩ := hy
    refine g_ixT ht (atI_nat (j := 0) rfl) ?_
    fail "go"
    refine ⟨a, C_NoSpare, _, rfl, by simp, T.o_NoSpare, ha, ?_⟩
    fail "go"
    exact ⟨a, C_NoSpare, rfl, T.o_NoSpare, T.er_NoSpare.no, .inl ⟨ha, q⟩⟩
end
end Nw
namespace Nw
open PySem L2 NN
abbrev sfits : Stmt := top 12
theorem scfits : FnScope ["plan", "names", "old", "new"] ["plan", "names"] (defScope sfits) := ⟨rfl, rfl, rfl, by decide +kernel, rfl, by decide +kernel, by decide +kernel⟩
section
variable {P : Program} {w : World} {K : PySem.W.Frag} {mg : Str → Option Value} {base : Heap} {C_Held : Addr} {C_LetGo : Addr} {C_Missing : Addr} {C_NewError : Addr} {C_NoName : Addr} {C_NoRow : Addr} {C_NoSpare : Addr} {C_Plan : Addr} {C_Twice : Addr}
theorem ok_fits {f} {fd} (F : Fun K "fits" "fits" sfits f fd) (T : Txt K mg C_Held C_LetGo C_Missing C_NewError C_NoName C_NoRow C_NoSpare C_Plan C_Twice) (F_Plan_olds : MtAt P w K mg base CX0 1 C_Plan "olds" ["self"] (spPlanOlds C_Plan)) (F_Plan_news : MtAt P w K mg base CX0 1 C_Plan "news" ["self"] (spPlanNews C_Plan))
    (F_Missing : XmAt P w K mg base 1 "Missing" C_Missing ["self", "name"] (spXm C_Missing "name" okName)) (F_Held : XmAt P w K mg base 1 "Held" C_Held ["self", "name"] (spXm C_Held "name" okName)) :
    FnOk P w K mg base (L2.CX P w) 3 f fd ["plan", "names"] (spFits C_Plan [C_NoName, C_Twice, C_Missing, C_Held, C_LetGo, C_NoSpare, C_NoRow]) := by
  refine F.okX scfits (fun vs H Q E h => ?_) (fun cdv A outer s H vs Q E hr h => ?_)
  · obtain ⟨p, a, prs, nm, rfl, _⟩ := h
    rfl
  · obtain ⟨p, a, prs, nm, rfl, hp, hk, ha, q, qe⟩ := h
    have hu := hu_of hr
    refine ⟨_, (pss_cons (ps_for (passes_of rfl) rfl (NN.pi_listK (K := K) rfl (NN.pe_mt0 F_Plan_olds (NN.pv 0) (hr.mono (by first | decide | omega)))) (pg_name (i := 2) scfits.nd rfl (Or.inl rfl)) (pss_one (ps_if (pt_cmpR (NN.op_notInK (K := K) rfl hu) (NN.pv 2) (NN.pv 1) (by rfl)) (pss_one (ps_raise rfl (takes_of rfl rfl rfl rfl) (NN.pmk_xm F_Missing (hr.mono (by first | decide | omega)) (pa_cons (NN.pv 2) pa_nil)))) pss_nil)))
      (pss_one (ps_for (passes_of rfl) rfl (NN.pi_listK (K := K) rfl (NN.pe_mt0 F_Plan_news (NN.pv 0) (hr.mono (by first | decide | omega)))) (pg_name (i := 3) scfits.nd rfl (Or.inl rfl)) (pss_one (ps_if (PW.pt (pw_and (pt_cmpR (NN.op_inK (K := K) rfl hu) (NN.pv 3) (NN.pv 1) (by rfl)) (pw_and1 (pt_cmpR (NN.op_notInK (K := K) rfl hu) (NN.pv 3) (NN.pe_mt0 F_Plan_olds (NN.pv 0) (hr.mono (by first | decide | omega))) (by rfl))))) (pss_one (ps_raise rfl (takes_of rfl rfl rfl rfl) (NN.pmk_xm F_Held (hr.mono (by first | decide | omega)) (pa_cons (NN.pv 3) pa_nil)))) pss_nil))))), ?_⟩
    refine NN.g_st [some (.ref p), some (.ref a), none, none] rfl ?_
    fail "go"
    obtain ⟨pa, pb, dx, h1, h2, h3, _⟩ := id hp.ex
    refine ⟨p, dx, _, rfl, h1, rfl, p, prs, rfl, hp, hk, fun l H1 hl0 k1 hl1 => ?_⟩
    have hkl := hk.len
    have ha1 := k1.at ha (by simp)
    have no1 : ∀ {i o}, (∀ j y, j < i → (srt (keys prs))[j]? = some y → decide (y ∉ nm) = false) → (srt (keys prs))[i]? = some o → o ∉ nm → fitE prs nm = some (2, .v (.str o)) := fun hj ho hn => by
      unfold fitE lostOf
      rw [find_at hj ho (by simpa using hn)]
    fail "go"
    refine for_it (walk_list (xs := (srt (keys prs)).map V.str)) (fun i σ H' => ∃ v2 v3, σ = [some (.ref p), some (.ref a), v2, v3] ∧ Kp [] H1 H' ∧ ∀ j y, j < i → (srt (keys prs))[j]? = some y → decide (y ∉ nm) = false) ?_ ?_ ?_ ?_
    · exact ⟨_, _, rfl, Kp.refl _ _, fun j y hj => absurd hj (Nat.not_lt_zero _)⟩
    · rintro i σ H' _ ⟨_, _, _, k, _⟩
      exact SqL.of (k.at hl1 (by simp))
    · rintro i z σ H2 H3 hi ⟨v2, v3, rfl, k2, hj⟩ ⟨rfl, hz⟩
      obtain ⟨o, ho, rfl⟩ := str_at hz
      fail "go"
      refine g_inL (k2.at ha1 (by simp)) rfl (flat_strs _) ?_
      rw [inV_strs]
      fail "go"
      refine g_ifB (fun e => ?_) (fun e => ?_)
      · have e : o ∉ nm := by simpa using e
        exact ⟨_, rfl, fun _ _ => trivial, fun dx hdx => (qe _ (no1 hj ho e)).one (Nat.succ_ne_zero 1) rfl rfl (k1.trans k2) hdx (fun _ _ => .v _)⟩
      · have e : o ∈ nm := by simpa using e
        refine ⟨_, _, rfl, k2, fun j y hj' hy => ?_⟩
        by_cases z : j = i
        · subst z; rw [ho] at hy; cases hy; simpa using e
        · exact hj j y (by omega) hy
    · rintro σ H2 ⟨v2, v3, rfl, k2, hj⟩
      rw [List.length_map] at hj
      have hlost : lostOf prs nm = none := find_no hj
      have k12 := k1.trans k2
      have hp2 := hp.kp k12 (by simp)
      fail "go"
      refine ⟨p, dx, _, rfl, k12.at h1 (by simp), rfl, p, prs, rfl, hp2, hk, fun l2 H3 hl20 k3 hl21 => ?_⟩
      have k13 := k12.trans k3
      have ha3 := k13.at ha (by simp)
      fail "go"
      refine for_it (walk_list (xs := (srt (NN.news prs)).map V.str)) (fun i σ H' => ∃ v2 v3, σ = [some (.ref p), some (.ref a), v2, v3] ∧ Kp [] H3 H' ∧ ∀ j y, j < i → (srt (NN.news prs))[j]? = some y → (decide (y ∈ nm) && decide (y ∉ keys prs)) = false) ?_ ?_ ?_ ?_
      · exact ⟨_, _, rfl, Kp.refl _ _, fun j y hj => absurd hj (Nat.not_lt_zero _)⟩
      · rintro i σ H' _ ⟨_, _, _, k, _⟩
        exact SqL.of (k.at hl21 (by simp))
      · rintro i z σ H4 H5 hi ⟨v2, v3, rfl, k4, hj2⟩ ⟨rfl, hz⟩
        obtain ⟨n, hn, rfl⟩ := str_at hz
        have step : ∀ {H'}, Kp [] H3 H' → (decide (n ∈ nm) && decide (n ∉ keys prs)) = false → ∃ v2' v3', [some (V.ref p), some (.ref a), v2, some (.str n)] = [some (V.ref p), some (.ref a), v2', v3'] ∧ Kp [] H3 H' ∧ ∀ j y, j < i + 1 → (srt (NN.news prs))[j]? = some y → (decide (y ∈ nm) && decide (y ∉ keys prs)) = false := fun k e =>
          ⟨_, _, rfl, k, fun j y hj' hy => by
            by_cases z : j = i
            · subst z; rw [hn] at hy; cases hy; exact e
            · exact hj2 j y (by omega) hy⟩
        fail "go"
        refine g_inL (k4.at ha3 (by simp)) rfl (flat_strs _) ?_
        rw [inV_strs]
        fail "go"
        refine g_ifB (fun e => ?_) (fun e => ?_)
        · have e : n ∈ nm := by simpa using e
          have k14 := k13.trans k4
          fail "go"
          refine ⟨p, dx, _, rfl, k14.at h1 (by simp), rfl, p, prs, rfl, hp.kp k14 (by simp), hk, fun l3 H6 hl30 k6 hl31 => ?_⟩
          fail "go"
          refine g_inL hl31 rfl (flat_strs _) ?_
          rw [inV_strs]
          fail "go"
          refine g_ifB (fun e2 => ?_) (fun e2 => ?_)
          · have e2 : n ∉ keys prs := by simpa [mem_srt] using e2
            refine ⟨_, rfl, fun _ _ => trivial, fun dx hdx => (qe (3, .v (.str n)) ?_).one (Nat.succ_ne_zero 2) rfl rfl (k14.trans k6) hdx (fun _ _ => .v _)⟩
            unfold fitE
            rw [hlost]
            dsimp only
            rw [show takenOf prs nm = some n from find_at hj2 hn (by simp [e, e2])]
          · have e2 : n ∈ keys prs := by simpa [mem_srt] using e2
            exact step (k4.trans k6) (by simp [e2])
        · have e : n ∉ nm := by simpa using e
          exact step k4 (by simp [e])
      · rintro σ H4 ⟨v2, v3, rfl, k4, hj2⟩
        rw [List.length_map] at hj2
        fail "go"
        refine q ?_ H4 (k13.trans k4)
        unfold fitE
        rw [hlost]
        dsimp only
        rw [show takenOf prs nm = none from find_no hj2]
end
end Nw
namespace Nw
open PySem L2 NN
abbrev sPlan_rings : Stmt := inClass (top 11) 5
theorem scPlan_rings : FnScope ["self", "found", "seen", "name", "ring", "here"] ["self"] (defScope sPlan_rings) := ⟨rfl, rfl, rfl, by decide +kernel, rfl, by decide +kernel, by decide +kernel⟩
section
variable {P : Program} {w : World} {K : PySem.W.Frag} {mg : Str → Option Value} {base : Heap} {C_Held : Addr} {C_LetGo : Addr} {C_Missing : Addr} {C_NewError : Addr} {C_NoName : Addr} {C_NoRow : Addr} {C_NoSpare : Addr} {C_Plan : Addr} {C_Twice : Addr}
theorem ok_rings {f} {fd} (F : Fun K "rings" "Plan.rings" sPlan_rings f fd) (T : Txt K mg C_Held C_LetGo C_Missing C_NewError C_NoName C_NoRow C_NoSpare C_Plan C_Twice) (F_Plan_olds : MtAt P w K mg base CX0 1 C_Plan "olds" ["self"] (spPlanOlds C_Plan)) : FnOk P w K mg base CX0 2 f fd ["self"] (spPlanRings C_Plan) := by
  refine F.ok scPlan_rings (fun vs H Q E h => ?_) (fun cdv A outer s H vs Q E hr h => ?_)
  · obtain ⟨p, prs, rfl, _⟩ := h
    rfl
  · obtain ⟨p, prs, rfl, hp, hk, q⟩ := h
    have hu := hu_of hr
    have hu64 : (A.deeper (PyProof.Rows.envOfC "Plan.rings" (defScope sPlan_rings) s.heap.objs.size f cdv)).units + 64 < cLine := by have := hr.un; omega
    refine ⟨_, (pss_cons (ps_set (i := 1) scPlan_rings.nd rfl (Or.inl rfl) (pe_lst pa_nil))
      (pss_cons (ps_set (i := 2) scPlan_rings.nd rfl (Or.inl rfl) pe_dnewK)
      (pss_cons (ps_for PassesOwn.never rfl (NN.pi_listK (K := K) rfl (NN.pe_mt0 F_Plan_olds (NN.pv 0) (hr.mono (by first | decide | omega)))) (pg_name (i := 3) scPlan_rings.nd rfl (Or.inl rfl)) (pss_cons (ps_set (i := 4) scPlan_rings.nd rfl (Or.inl rfl) (pe_lst pa_nil))
      (pss_cons (ps_set (i := 5) scPlan_rings.nd rfl (Or.inl rfl) (NN.pv 3))
      (pss_cons (ps_while PassesOwn.never (PW.pt (pw_and (pt_cmpR (NN.op_inK (K := K) rfl hu) (NN.pv 5) (NN.pe_fldK (K := K) rfl (NN.pv 0)) (by rfl)) (pw_and1 (pt_cmpR (NN.op_notInK (K := K) rfl hu) (NN.pv 5) (NN.pv 2) (by rfl))))) (pss_cons (ps_asg pe_bl (pg_sub (NN.pv 2) (NN.pv 5) (NN.set_U hu)))
      (pss_cons (ps_expr (NN.pe_bmK (K := K) rfl PySem.F.plainAttrs_list PySem.F.slot_list_append PySem.F.type_list_append mt_append (NN.pv 4) (pa_cons (NN.pv 5) pa_nil)))
      (pss_one (ps_set (i := 5) scPlan_rings.nd rfl (Or.inl rfl) (pe_ix (NN.ix_K (K := K) rfl hu) (NN.pe_fldK (K := K) rfl (NN.pv 0)) (NN.pv 5) (fun _ _ => rfl)))))))
      (pss_one (ps_if (PW.pt (pw_and (pt_cmpR (NN.op_eqK (K := K) rfl hu64) (NN.pv 5) (NN.pv 3) (nomark _)) (pw_and1 (pt_cmpR NN.op_gtU (pe_callB (NN.call_lenK (K := K) rfl) (by rfl) T.b_len (by decide +kernel) (pa_cons (NN.pv 4) pa_nil)) pe_int (nomark _))))) (pss_one (ps_expr (NN.pe_bmK (K := K) rfl PySem.F.plainAttrs_list PySem.F.slot_list_append PySem.F.type_list_append mt_append (NN.pv 1) (pa_cons (pe_callTy (NN.call_tupleK (K := K) rfl) (by rfl) T.b_tuple (by decide +kernel) (pa_cons (NN.pv 4) pa_nil)) pa_nil)))) pss_nil))))))
      (pss_one (ps_ret (NN.pv 1)))))), ?_⟩
    refine NN.g_st [some (.ref p), none, none, none, none, none] rfl ?_
    fail "go"
    rename_i g hg s1 hs1
    have ngs : g ≠ s1 := ne_of_none upd_same hs1
    have hg0 : H g = none := hg
    have hs0 : H s1 = none := by rw [upd_ne ngs.symm] at hs1; exact hs1
    generalize hH : upd (upd H g (.lst [])) s1 (.dK []) = H1
    have k1 : Kp [] H H1 := by rw [← hH]; exact (Kp.new hg).trans (Kp.new hs1)
    have hg1 : H1 g = some (.lst []) := by rw [← hH, upd_ne ngs]; exact upd_same
    have hs2 : H1 s1 = some (.dK (dS (seenD []))) := by rw [← hH]; exact upd_same
    have hp1 := hp.kp k1 (by simp)
    obtain ⟨a, b, dx, h1, h2, h3, _⟩ := hp.ex
    refine ⟨p, dx, _, rfl, k1.at h1 (by simp), rfl, p, prs, rfl, hp1, hk, fun l H2 hl k2 hl2 => ?_⟩
    have k12 := k1.trans k2
    have h1' : H2 p = some (.ins C_Plan dx (flds a b)) := k12.at h1 (by simp)
    have h2' : H2 a = some (.dK (dS (oldsD prs))) := k12.at h2 (by simp)
    have hg2 := k2.at hg1 (by simp)
    have hs3 := k2.at hs2 (by simp)
    have nlg : l ≠ g := fun e => by rw [e, hg1] at hl; cases hl
    have nls : l ≠ s1 := fun e => by rw [e, hs2] at hl; cases hl
    have npg : p ≠ g := ne_of_none h1 hg0
    have nps : p ≠ s1 := ne_of_none h1 hs0
    have nag : a ≠ g := ne_of_none h2 hg0
    have nas : a ≠ s1 := ne_of_none h2 hs0
    have hkl : (srt (keys prs)).length ≤ 40 := by rw [len_srt]; have := hk.len; simpa [keys] using this
    fail "go"
    refine for_it (walk_list (xs := (srt (keys prs)).map V.str)) (fun i σ H' => ∃ v3 v4 v5 W ws, σ = [some (.ref p), some (.ref g), some (.ref s1), v3, v4, v5] ∧ Kp [g, s1] H2 H' ∧ H' s1 = some (.dK (dS (seenD W))) ∧ H' g = some (.lst ws) ∧ ws.length ≤ i ∧ Seen prs i W ∧ ∀ S, Live S H → AtL (g :: s1 :: S) H' ws (ringsD (((srt (keys prs)).take i).filterMap (ringAt prs)))) ?_ ?_ ?_ ?_
    · exact ⟨none, none, none, [], [], rfl, Kp.refl _ _, hs3, hg2, Nat.le_refl _, Seen.zero prs, fun S _ => .nil⟩
    · rintro i σ H' _ ⟨_, _, _, _, _, _, k, _⟩
      exact SqL.of (k.at hl2 (by simpa using ⟨nlg, nls⟩))
    · rintro i z σ H3 H4 hi ⟨v3, v4, v5, W, ws, rfl, k3, hs4, hg4, hwl, hsn, hat⟩ ⟨rfl, hz⟩
      obtain ⟨n, hn, rfl⟩ := str_at hz
      have hnk : n ∈ keys prs := mem_srt.mp (List.mem_of_getElem? hn)
      rw [List.length_map] at hi
      fail "g1"
      fail "gs"
      fail "g1"
      fail "gs"
      rename_i g2 hg22
      fail "g1"
      fail "gs"
      have ng2g : g ≠ g2 := ne_of_none hg4 hg22
      have ng2s : s1 ≠ g2 := ne_of_none hs4 hg22
      have h1n : ∀ H', Kp [g, s1, g2] H2 H' → H' p = some (.ins C_Plan dx (flds a b)) := fun H' k => k.at h1' (by simp [npg, nps]; exact fun e => by rw [← e] at hg22; rw [k3.at h1' (by simp [npg, nps])] at hg22; cases hg22)
      have h2n : ∀ H', Kp [g, s1, g2] H2 H' → H' a = some (.dK (dS (oldsD prs))) := fun H' k => k.at h2' (by simp [nag, nas]; exact fun e => by rw [← e] at hg22; rw [k3.at h2' (by simp [nag, nas])] at hg22; cases hg22)
      have k5 : Kp [g, s1, g2] H2 (upd H4 g2 (.lst [])) := (k3.sub (by simp)).upn hg22
      have tk : ((srt (keys prs)).take (i + 1)).filterMap (ringAt prs) = ((srt (keys prs)).take i).filterMap (ringAt prs) ++ (ringAt prs n).toList := by
        rw [List.take_add_one, hn, List.filterMap_append]
        cases e : ringAt prs n <;> simp [e]
      refine g_then (fun σ H' => ∃ (r : List Str) (here : V), σ = [some (.ref p), some (.ref g), some (.ref s1), some (.str n), some (.ref g2), some here] ∧ Kp [s1, g2] H4 H' ∧ H' s1 = some (.dK (dS (seenD (W ++ r)))) ∧ H' g2 = some (.lst (r.map V.str)) ∧ Way prs r ∧ (∀ x ∈ r, x ∈ keys prs ∧ x ∉ W) ∧
        ((r = [] ∧ here = .str n ∧ n ∈ W) ∨ (r[0]? = some n ∧ ∃ z o, r[r.length - 1]? = some z ∧ lk prs z = some o ∧ here = oV o ∧ ∀ y, o = some y → y ∈ keys prs → y ∈ W ++ r))) ?_ fun hP => ?_
      · rintro σ H5 ⟨r, here, rfl, k6, hs5, hg5, hway, hrk, hcase⟩
        have hrl : r.length ≤ 40 := Nat.le_trans (nd_le hway.nd fun x hx => (hrk x hx).1) (by have := hk.len; simpa [keys] using this)
        have k7 : Kp [s1] H4 H5 := Kp.drop hg22 (k6.sub (by intro x hx; rcases List.mem_cons.mp hx with e | e <;> simp at * <;> simp [e]))
        have k8 : Kp [g, s1] H2 H5 := k3.trans (k7.sub (by simp))
        have hgg := k7.at hg4 (by simpa using ngs)
        have none_case : ringAt prs n = none → Seen prs (i + 1) (W ++ r) → ∀ v5 : Option V, ∃ v3 v4 v5' W' ws', [some (V.ref p), some (.ref g), some (.ref s1), some (.str n), some (.ref g2), v5] = [some (V.ref p), some (.ref g), some (.ref s1), v3, v4, v5'] ∧ Kp [g, s1] H2 H5 ∧ H5 s1 = some (.dK (dS (seenD W'))) ∧ H5 g = some (.lst ws') ∧ ws'.length ≤ i + 1 ∧ Seen prs (i + 1) W' ∧ ∀ S, Live S H → AtL (g :: s1 :: S) H5 ws' (ringsD (((srt (keys prs)).take (i + 1)).filterMap (ringAt prs))) :=
          fun eN hsn' v5 => ⟨_, _, _, W ++ r, ws, rfl, k8, hs5, hgg, by omega, hsn', fun S hS => by rw [tk, eN, Option.toList, List.append_nil]; exact (hat S hS).kp k7 (by simp)⟩
        fail "gs"
        rcases hcase with ⟨rfl, rfl, hnW⟩ | ⟨h0, z, o, hz, ho, rfl, hstop⟩
        · refine g_eqS rfl ?_
          refine g_isbl (g_ifT (decide_eq_true rfl) ?_)
          fail "go"
          exact none_case (hsn.old hk.ndo hk.ndn hn hnW) (by rw [List.append_nil]; exact hsn.skip hn hnW) _
        · have enx : nx prs z = o := by unfold nx; rw [ho]; rfl
          have hst : ∀ y, nx prs z = some y → y ∈ keys prs → y ∈ W ++ r := fun y e => hstop y (enx.symm.trans e)
          have hnext := hsn.next hn hway h0 (fun x hx => (hrk x hx).1) (fun x hx => (hrk x hx).2) hz hst
          have hno := hsn.noring hn hway h0 (fun x hx => (hrk x hx).2) hz hst
          by_cases e : o = some n
          · subst e
            refine g_eqS rfl ?_
            refine g_isbl (g_ifT (decide_eq_true rfl) ?_)
            fail "go"
            refine g_ifB (fun e => ?_) (fun e => ?_)
            · rw [List.length_map] at e
              have hl : 1 < r.length := by have := of_decide_eq_true e; omega
              have hy := hsn.ring hk.ndo hn hway h0 (fun x hx => (hrk x hx).1) (fun x hx => (hrk x hx).2) hz enx hl
              refine g_ty (tyL hgg) ?_
              refine g_tupL hg5 fun t ht => ?_
              have ngt : g ≠ t := ne_of_none hgg ht
              refine g_append (xs := ws) (by rw [upd_ne ngt]; exact hgg) (sz2 (by rw [len_srt] at hi hkl; omega)) ?_
              refine ⟨_, _, _, W ++ r, ws ++ [.ref t], rfl, (k8.upn ht).upd (by simp), ?_, upd_same, by simp; omega, hnext, fun S hS => ?_⟩
              · rw [upd_ne ngs.symm, upd_ne (ne_of_none hs5 ht)]; exact hs5
              · rw [tk, hy, Option.toList, ringsD, List.map_append]
                have l5 : Live S H5 := (hS.kp k12 (by simp)).kp k8 fun x hx => by
                  rcases List.mem_cons.mp hx with e | e
                  · rw [e]; exact ne_some hgg
                  · rw [List.mem_singleton.mp e]; exact ne_some hs5
                have h9 : At (g :: s1 :: S) (upd H5 t (.tup (r.map V.str))) (.ref t) (.t (strsD r)) := At.newT ht ((l5.cons (ne_some hs5)).cons (ne_some hgg)) (AtL.strsD r)
                exact ((((hat S hS).kp k7 (by simp)).kp (Kp.new (S := []) ht) (by simp)).snoc h9).kp (Kp.mut (S := [g]) (by simp)) (by simp)
            · rw [List.length_map] at e
              have hl : ¬ 1 < r.length := by have := of_decide_eq_false e; omega
              exact none_case (hno (.inr hl)) hnext _
          · have ev : oV o ≠ .str n := fun z => by cases o with
              | none => cases z
              | some y => cases z; exact e rfl
            refine g_eqS (by cases o <;> rfl) ?_
            refine g_isbl (g_ifF (decide_eq_false ev) ?_)
            fail "go"
            exact none_case (hno (.inl fun q => e (enx.symm.trans q))) hnext _
      · refine g_while (fun m σ H' => ∃ (r : List Str) (here : V), σ = [some (.ref p), some (.ref g), some (.ref s1), some (.str n), some (.ref g2), some here] ∧ Kp [s1, g2] H4 H' ∧ H' s1 = some (.dK (dS (seenD (W ++ r)))) ∧ H' g2 = some (.lst (r.map V.str)) ∧ Way prs r ∧ (∀ x ∈ r, x ∈ keys prs ∧ x ∉ W) ∧
          ((∃ y, here = .str y ∧ ((r = [] ∧ y = n) ∨ (r[0]? = some n ∧ ∃ z, r[r.length - 1]? = some z ∧ lk prs z = some (some y)))) ∨ (here = .non ∧ r[0]? = some n ∧ ∃ z, r[r.length - 1]? = some z ∧ lk prs z = some none)) ∧ m + r.length = 50) 50 ?_ ?_
        · refine ⟨[], .str n, rfl, (Kp.new (S := []) hg22).sub (by simp), ?_, upd_same, Way.nil prs, by simp, .inl ⟨n, rfl, .inl ⟨rfl, rfl⟩⟩, rfl⟩
          rw [upd_ne ng2s, List.append_nil]; exact hs4
        · rintro m σ H5 ⟨r, here, rfl, k6, hs5, hg5, hway, hrk, hcase, hm⟩
          have hrl : r.length ≤ 40 := Nat.le_trans (nd_le hway.nd fun x hx => (hrk x hx).1) (by have := hk.len; simpa [keys] using this)
          have hwl2 : (W ++ r).length ≤ 40 := Nat.le_trans (nd_le (List.nodup_append.mpr ⟨hsn.nd, hway.nd, fun a ha b hb e => (hrk b hb).2 (e ▸ ha)⟩) fun x hx => (List.mem_append.mp hx).elim (hsn.sub x) fun q => (hrk x q).1) (by have := hk.len; simpa [keys] using this)
          have k8 : Kp [g, s1, g2] H2 H5 := (k3.sub (by simp)).trans (k6.sub (by simp))
          have hp5 := h1n H5 k8
          have ha5 := h2n H5 k8
          fail "gs"
          refine g_fA hp5 T.cl_Plan T.n_Plan_by_olds rfl ?_
          rcases hcase with ⟨y, rfl, hyc⟩ | ⟨rfl, h0, z, hz, ho⟩
          · refine g_inD (DGet.s y ha5) ?_
            rw [lk_oldsD]
            have exit : (y ∈ keys prs → y ∈ W ++ r) → ∃ (r' : List Str) (here' : V), [some (V.ref p), some (.ref g), some (.ref s1), some (.str n), some (.ref g2), some (.str y)] = [some (V.ref p), some (.ref g), some (.ref s1), some (.str n), some (.ref g2), some here'] ∧ Kp [s1, g2] H4 H5 ∧ H5 s1 = some (.dK (dS (seenD (W ++ r')))) ∧ H5 g2 = some (.lst (r'.map V.str)) ∧ Way prs r' ∧ (∀ x ∈ r', x ∈ keys prs ∧ x ∉ W) ∧
                ((r' = [] ∧ here' = .str n ∧ n ∈ W) ∨ (r'[0]? = some n ∧ ∃ z o, r'[r'.length - 1]? = some z ∧ lk prs z = some o ∧ here' = oV o ∧ ∀ y, o = some y → y ∈ keys prs → y ∈ W ++ r')) := fun hy => by
              refine ⟨r, .str y, rfl, k6, hs5, hg5, hway, hrk, ?_⟩
              rcases hyc with ⟨e1, e2⟩ | ⟨h0, z, hz, ho⟩
              · subst e2
                refine .inl ⟨e1, rfl, ?_⟩
                have := hy hnk
                rwa [e1, List.append_nil] at this
              · exact .inr ⟨h0, z, some y, hz, ho, rfl, fun y' e => by cases e; exact hy⟩
            by_cases hyk : y ∈ keys prs
            · obtain ⟨o, ho⟩ := lk_of_key hyk
              rw [ho]
              refine g_isbl (g_ifT rfl ?_)
              refine g_inD (DGet.s y hs5) ?_
              by_cases hyW : y ∈ W ++ r
              · obtain ⟨v, hv⟩ := lk_of_key (th := seenD (W ++ r)) (k := y) (by rw [keys_seenD]; exact hyW)
                rw [hv]
                refine g_isbl (g_ifF rfl ?_)
                exact hP _ _ (exit fun _ => hyW)
              · rw [lk_none.mpr (by rw [keys_seenD]; exact hyW)]
                refine g_isbl (g_ifT rfl ?_)
                refine g_turn ?_
                fail "go"
                refine g_setD hs5 (sz2 (by rw [dS_len]; simp only [seenD, List.length_map]; omega)) ?_
                rw [putK_dS, put_seenD hyW]
                fail "go"
                have nsg : s1 ≠ g2 := ng2s
                refine g_ty (tyL (xs := r.map V.str) (by rw [upd_ne nsg.symm]; exact hg5)) ?_
                fail "go"
                refine g_append (xs := r.map V.str) (by rw [upd_ne nsg.symm]; exact hg5) (sz2 (by simp; omega)) ?_
                fail "go"
                have k9 : Kp [s1, g2] H5 (upd (upd H5 s1 (.dK (dS (seenD (W ++ r ++ [y]))))) g2 (.lst (r.map V.str ++ [.str y]))) := ((Kp.refl _ _).upd (by simp)).upd (by simp)
                have ha9 := h2n _ (k8.trans (k9.sub (by simp)))
                refine g_fA (h1n _ (k8.trans (k9.sub (by simp)))) T.cl_Plan T.n_Plan_by_olds rfl ?_
                refine g_ixD (v := oV o) (by have := DGet.s y ha9; rw [lk_oldsD, ho] at this; exact this) ?_
                have hw9 : Way prs (r ++ [y]) ∧ (r ++ [y])[0]? = some n := by
                  rcases hyc with ⟨rfl, rfl⟩ | ⟨h0, z, hz, ho⟩
                  · exact ⟨Way.one prs y, rfl⟩
                  · refine ⟨hway.snoc hz (by unfold nx; rw [ho]; rfl) fun q => hyW (List.mem_append_right _ q), ?_⟩
                    rw [List.getElem?_append_left (List.getElem?_eq_some_iff.mp h0).1]; exact h0
                have hlast : (r ++ [y])[(r ++ [y]).length - 1]? = some y := by simp
                refine ⟨m - 1, by omega, r ++ [y], oV o, rfl, k6.trans k9, ?_, ?_, hw9.1, fun x hx => ?_, ?_, by simp; omega⟩
                · rw [upd_ne nsg, upd_same, List.append_assoc]
                · rw [upd_same, List.map_append]; rfl
                · rcases List.mem_append.mp hx with q | q
                  · exact hrk x q
                  · rw [List.mem_singleton.mp q]; exact ⟨hyk, fun q => hyW (List.mem_append_left _ q)⟩
                · cases o with
                  | none => exact .inr ⟨rfl, hw9.2, y, hlast, ho⟩
                  | some y' => exact .inl ⟨y', rfl, .inr ⟨hw9.2, y, hlast, ho⟩⟩
            · rw [lk_none.mpr hyk]
              refine g_isbl (g_ifF rfl ?_)
              exact hP _ _ (exit fun q => absurd q hyk)
          · refine g_inN ha5 ?_
            refine g_isbl (g_ifF rfl ?_)
            exact hP _ _ ⟨r, .non, rfl, k6, hs5, hg5, hway, hrk, .inr ⟨h0, z, none, hz, ho, rfl, by simp⟩⟩
    · rintro σ H3 ⟨v3, v4, v5, W, ws, rfl, k3, hs4, hg4, hwl, hsn, hat⟩
      rw [List.take_of_length_le (by simp)] at hat
      fail "go"
      refine q g ws H3 hg0 ?_ hg4 fun S hS => (hat S hS).sub (by intro x hx; rcases List.mem_cons.mp hx with e | e <;> simp [e])
      exact Kp.drop (S := []) hs0 (Kp.drop hg0 ((k12.sub (by simp)).trans k3))
end
end Nw
namespace Nw
open PySem L2 NN
abbrev sneed_spare : Stmt := top 14
theorem scneed_spare : FnScope ["plan", "names", "spare"] ["plan", "names", "spare"] (defScope sneed_spare) := ⟨rfl, rfl, rfl, by decide +kernel, rfl, by decide +kernel, by decide +kernel⟩
abbrev schain_to : Stmt := top 15
theorem scchain_to : FnScope ["plan", "last", "sources", "found", "old", "new"] ["plan", "last"] (defScope schain_to) := ⟨rfl, rfl, rfl, by decide +kernel, rfl, by decide +kernel, by decide +kernel⟩
abbrev sring_deeds : Stmt := top 16
theorem scring_deeds : FnScope ["ring", "spare", "found", "place"] ["ring", "spare"] (defScope sring_deeds) := ⟨rfl, rfl, rfl, by decide +kernel, rfl, by decide +kernel, by decide +kernel⟩
abbrev sdeeds_by : Stmt := top 17
theorem scdeeds_by : FnScope ["plan", "spare", "found", "old", "new", "ring"] ["plan", "spare"] (defScope sdeeds_by) := ⟨rfl, rfl, rfl, by decide +kernel, rfl, by decide +kernel, by decide +kernel⟩
abbrev sdeeds : Stmt := top 18
theorem scdeeds : FnScope ["plan", "names", "spare"] ["plan", "names", "spare"] (defScope sdeeds) := ⟨rfl, rfl, rfl, by decide +kernel, rfl, by decide +kernel, by decide +kernel⟩
section
variable {P : Program} {w : World} {K : PySem.W.Frag} {mg : Str → Option Value} {base : Heap} {C_Held : Addr} {C_LetGo : Addr} {C_Missing : Addr} {C_NewError : Addr} {C_NoName : Addr} {C_NoRow : Addr} {C_NoSpare : Addr} {C_Plan : Addr} {C_Twice : Addr}
theorem ok_need_spare {f} {fd} (F : Fun K "need_spare" "need_spare" sneed_spare f fd) (T : Txt K mg C_Held C_LetGo C_Missing C_NewError C_NoName C_NoRow C_NoSpare C_Plan C_Twice) (F_is_name : FnAt P w K mg base CX0 1 "is_name" ["thing"] (spIsName K)) (F_Plan_news : MtAt P w K mg base CX0 1 C_Plan "news" ["self"] (spPlanNews C_Plan)) (F_Plan_rings : MtAt P w K mg base CX0 2 C_Plan "rings" ["self"] (spPlanRings C_Plan))
    (F_Held : XmAt P w K mg base 1 "Held" C_Held ["self", "name"] (spXm C_Held "name" okName)) (F_NoSpare : XmAt P w K mg base 1 "NoSpare" C_NoSpare ["self", "ring"] (spXm C_NoSpare "ring" okRing)) :
    FnOk P w K mg base (L2.CX P w) 3 f fd ["plan", "names", "spare"] (spNeedSpare C_Plan [C_NoName, C_Twice, C_Missing, C_Held, C_LetGo, C_NoSpare, C_NoRow]) := by
  refine F.okX scneed_spare (fun vs H Q E h => ?_) (fun cdv A outer s H vs Q E hr h => ?_)
  · obtain ⟨p, a, prs, nm, sp, rfl, _⟩ := h
    rfl
  · obtain ⟨p, a, prs, nm, sp, rfl, hp, hk, ha, hsl, q, qe⟩ := h
    have hu := hu_of hr
    have hu64 : (A.deeper (PyProof.Rows.envOfC "need_spare" (defScope sneed_spare) s.heap.objs.size f cdv)).units + 64 < cLine := by have := hr.un; omega
    refine ⟨_, (pss_one (ps_if (pt_cmpR NN.op_isNotU (NN.pv 2) pe_non (nomark _)) (pss_cons (ps_if (pt_not (pt_val (NN.pe_fn F_is_name (hr.mono (by first | decide | omega)) (pa_cons (NN.pv 2) pa_nil)))) (pss_one (ps_raise rfl (takes_of rfl rfl rfl rfl) (NN.pmk_o T.own_NoName T.g_NoName))) pss_nil)
      (pss_one (ps_if (PW.pt (pw_or (pt_cmpR (NN.op_inK (K := K) rfl hu) (NN.pv 2) (NN.pv 1) (by rfl)) (pw_or1 (pt_cmpR (NN.op_inK (K := K) rfl hu) (NN.pv 2) (NN.pe_mt0 F_Plan_news (NN.pv 0) (hr.mono (by first | decide | omega))) (by rfl))))) (pss_one (ps_raise rfl (takes_of rfl rfl rfl rfl) (NN.pmk_xm F_Held (hr.mono (by first | decide | omega)) (pa_cons (NN.pv 2) pa_nil)))) pss_nil))) (pss_one (ps_if (pt_cmpR (NN.op_neK (K := K) rfl hu64) (NN.pe_mt0 F_Plan_rings (NN.pv 0) (hr.mono (by first | decide | omega))) (pe_lst pa_nil) (nomark _)) (pss_one (ps_raise rfl (takes_of rfl rfl rfl rfl) (NN.pmk_xm F_NoSpare (hr.mono (by first | decide | omega)) (pa_cons (pe_ix (NN.ix_K (K := K) rfl hu) (NN.pe_mt0 F_Plan_rings (NN.pv 0) (hr.mono (by first | decide | omega))) pe_int (fun _ _ => rfl)) pa_nil)))) pss_nil)))), ?_⟩
    refine NN.g_st [some (.ref p), some (.ref a), some (oV sp), ] rfl ?_
    obtain ⟨pa, pb, dx, h1, h2, h3, _⟩ := id hp.ex
    cases sp with
    | some z =>
      have hzl := hsl z rfl
      rw [show oV (some z) = V.str z from rfl]
      fail "go"
      refine c_isName (z := z) (Nat.le_trans hzl (by decide)) fun H1 k1 => ?_
      fail "go"
      by_cases hn : isName z = true
      · rw [hn]
        fail "go"
        refine g_inL (k1.at ha (by simp)) rfl (flat_strs _) ?_
        rw [inV_strs]
        fail "go"
        have held : ∀ {H'}, Kp [] H H' → (z ∈ nm ∨ z ∈ NN.news prs) → ∃ y, [V.str z] = [y] ∧ (∀ a : Addr, H' a = none → okName y (upd H' a (exo a C_Held none))) ∧ ∀ dx : Addr, H' dx = none → E (.ref C_Held) (some dx) (upd H' dx (.xd [("name", y)])) := fun k hz =>
          ⟨_, rfl, fun _ _ => trivial, fun dx hdx => (qe (3, .v (.str z)) (by unfold spareE; dsimp only; rw [if_pos hn, if_pos hz])).one (Nat.succ_ne_zero 2) rfl rfl k hdx (fun _ _ => .v _)⟩
        by_cases h : z ∈ nm
        · rw [decide_eq_true h]
          fail "go"
          exact held k1 (.inl h)
        · rw [decide_eq_false h]
          fail "go"
          refine ⟨p, dx, _, rfl, k1.at h1 (by simp), rfl, p, prs, rfl, hp.kp k1 (by simp), hk, fun l H2 hl0 k2 hl1 => ?_⟩
          fail "go"
          refine g_inL hl1 rfl (flat_strs _) ?_
          rw [inV_strs]
          fail "go"
          by_cases h' : z ∈ NN.news prs
          · rw [decide_eq_true (mem_srt.mpr h')]
            fail "go"
            exact held (k1.trans k2) (.inr h')
          · rw [decide_eq_false (fun e => h' (mem_srt.mp e))]
            fail "go"
            exact q (by unfold spareE; dsimp only; rw [if_pos hn, if_neg (by simp [h, h'])]) _ (k1.trans k2)
      · have hn : isName z = false := by simpa using hn
        rw [hn]
        fail "go"
        exact (qe (0, .v .non) (by unfold spareE; dsimp only; rw [if_neg (by simp [hn])])).no rfl rfl k1
    | none =>
      fail "go"
      refine ⟨p, dx, _, rfl, h1, rfl, p, prs, rfl, hp, hk, fun l ws H1 hl0 k1 hl1 hat => ?_⟩
      fail "go"
      rename_i b hb
      refine g_neNilD (S := [b]) (ds := ringsD (rings prs)) (.l (by simpa using ne_of_none hl1 hb) (by rw [upd_ne (ne_of_none hl1 hb)]; exact hl1) ((((hat [] (fun _ z => nomatch z)).sub (by simp)).ext hb).kp (Kp.new (S := []) hb) (by simp))) upd_same ((fine_rings hk).fine (by decide)) ?_
      have k2 : Kp [] H (upd H1 b (.lst [])) := k1.upn hb
      cases hr2 : rings prs with
      | nil =>
        fail "go"
        exact q (by unfold spareE; dsimp only; rw [hr2]) _ k2
      | cons r rest =>
        fail "go"
        refine ⟨p, dx, _, rfl, k2.at h1 (by simp), rfl, p, prs, rfl, hp.kp k2 (by simp), hk, fun l2 ws2 H3 hl20 k3 hl21 hat2 => ?_⟩
        have a2 := hat2 [] (fun _ z => nomatch z)
        rw [hr2] at a2
        cases ws2 with
        | nil => nomatch a2
        | cons x xs =>
          cases a2 with
          | cons hx _ =>
            obtain ⟨t, vs, rfl, _, ht, hvs⟩ := hx.isT
            have hr3 : r ∈ rings prs := by rw [hr2]; exact List.mem_cons_self ..
            have hsh := rings_shape hr3
            cases r with
            | nil => simp at hsh
            | cons r0 rr =>
              have evs : vs = (r0 :: rr).map V.str := by
                have := AtL.vals_eq (S := [l2]) (H := H3) (vs := vs) (ws := (r0 :: rr).map V.str) (by rw [List.map_map]; exact hvs)
                exact this
              subst evs
              refine g_ixL hl21 (atI_nat (j := 0) rfl) ?_
              refine ⟨_, rfl, fun a' ha' => ⟨t, _, _, rfl, by rw [upd_ne (ne_of_none ht ha')]; exact ht⟩, fun dx hdx => (qe (5, .t (strsD (r0 :: rr))) (by unfold spareE; dsimp only; rw [hr2])).one (Nat.succ_ne_zero 4) rfl rfl (k2.trans k3) hdx (fun S' hS' => ?_)⟩
              have a3 := hat2 S' ((hS'.kp k1 (by simp)).upn)
              rw [hr2] at a3
              cases a3 with
              | cons hx3 _ => exact hx3.sub (fun z hz => List.mem_cons_of_mem _ hz)
theorem ok_chain_to {f} {fd} (F : Fun K "chain_to" "chain_to" schain_to f fd) (T : Txt K mg C_Held C_LetGo C_Missing C_NewError C_NoName C_NoRow C_NoSpare C_Plan C_Twice) (F_Plan_pairs : MtAt P w K mg base CX0 1 C_Plan "pairs" ["self"] (spPlanPairs C_Plan)) :
    FnOk P w K mg base CX0 2 f fd ["plan", "last"] (spChainTo C_Plan) := by
  refine F.ok scchain_to (fun vs H Q E h => ?_) (fun cdv A outer s H vs Q E hr h => ?_)
  · obtain ⟨p, prs, n, rfl, _⟩ := h
    rfl
  · obtain ⟨p, prs, n, rfl, hp, hk, hnx, q⟩ := h
    have hu := hu_of hr
    refine ⟨_, (pss_cons (ps_set (i := 2) scchain_to.nd rfl (Or.inl rfl) (pe_callTy (NN.call_dictK (K := K) rfl rfl) (by rfl) T.b_dict (by decide +kernel) (pa_cons (pe_lc (own := [("old", 4), ("new", 5)]) rfl scchain_to.nd (NN.pi_listK (K := K) rfl (NN.pe_mt0 F_Plan_pairs (NN.pv 0) (hr.mono (by first | decide | omega)))) (blkOk_by (own := [("old", 4), ("new", 5)]) (N := ["plan", "last", "sources", "found", "old", "new"]) (sc := defScope schain_to) (by decide +kernel)) (fun _ _ _ _ _ => (NN.pg_tupK (K := K) (n := 2) rfl rfl (pgs_cons (pg_name (i := 4) scchain_to.nd rfl (Or.inl rfl)) (pgs_cons (pg_name (i := 5) scchain_to.nd rfl (Or.inl rfl)) pgs_nil)))) (fun _ _ _ _ _ => (pts_one (pt_cmpR NN.op_isNotU (NN.pv 5) pe_non (nomark _)))) (fun _ _ _ _ _ => (pe_tup (pa_cons (NN.pv 5) (pa_cons (NN.pv 4) pa_nil))))) pa_nil)))
      (pss_cons (ps_set (i := 3) scchain_to.nd rfl (Or.inl rfl) (pe_lst pa_nil))
      (pss_cons (ps_while PassesOwn.never (pt_cmpR (NN.op_inK (K := K) rfl hu) (NN.pv 1) (NN.pv 2) (by rfl)) (pss_cons (ps_expr (NN.pe_bmK (K := K) rfl PySem.F.plainAttrs_list PySem.F.slot_list_append PySem.F.type_list_append mt_append (NN.pv 3) (pa_cons (pe_tup (pa_cons pe_str (pa_cons (pe_ix (NN.ix_K (K := K) rfl hu) (NN.pv 2) (NN.pv 1) (fun _ _ => rfl)) (pa_cons (NN.pv 1) pa_nil)))) pa_nil)))
      (pss_one (ps_set (i := 1) scchain_to.nd rfl (Or.inl rfl) (pe_ix (NN.ix_K (K := K) rfl hu) (NN.pv 2) (NN.pv 1) (fun _ _ => rfl))))))
      (pss_one (ps_ret (NN.pv 3)))))), ?_⟩
    refine NN.g_st [some (.ref p), some (.str n), none, none, none, none] rfl ?_
    obtain ⟨pa, pb, dx, h1, h2, h3, _⟩ := id hp.ex
    fail "go"
    refine ⟨p, dx, _, rfl, h1, rfl, p, prs, rfl, hp, hk, fun l ws H1 hl0 k1 hl1 hat => ?_⟩
    have hlen : (byOlds prs).length ≤ 40 := by have := hk.len; unfold byOlds; rw [List.length_map, len_srt]; simpa [keys] using this
    fail "go"
    intro D hD
    have nlD := ne_of_none hl1 hD
    have hat0 := hat [] (fun _ z => nomatch z)
    refine lc_kp (walk_list (xs := ws)) [] (fun i acc H' => AtL [D] H' acc ((newsD ((byOlds prs).take i)).map encK)) hD .nil (fun i acc H5 _ k5 _ => SqL.of (k5.at hl1 (by simpa using nlD))) ?_ ?_
    · rintro i x H2 H3 acc hi hacc hl' k2 hat1 ⟨rfl, hx⟩
      obtain ⟨t, o, n, rfl, ho, ht⟩ := item_P (hat0.ext hD) hx k2 (by simp)
      have tk : newsD ((byOlds prs).take (i + 1)) = newsD ((byOlds prs).take i) ++ (newsD [(o, n)]) := by
        rw [List.take_add_one, ho]; unfold newsD; rw [List.filterMap_append]; rfl
      refine g_tgt (SqT.of ht) rfl ?_
      fail "go"
      cases n with
      | none =>
        fail "go"
        refine lc_skip hacc hl' k2 ?_
        rw [tk, show newsD [(o, none)] = [] from rfl, List.append_nil]; exact hat1
      | some m =>
        fail "go"
        rename_i t2 ht2
        have n2 := ne_of_none hacc ht2
        refine lc_add (acc := acc) (by rw [upd_ne n2]; exact hacc) hl' (by have : ws.length = (byOlds prs).length := (by rw [hat0.length, List.length_map]); omega) (k2.upn ht2) ?_
        rw [tk, show newsD [(o, some m)] = [(m, V.str o)] from rfl, List.map_append]
        have lv : Live [D] H3 := live_one (ne_some hacc)
        have h9 : At [D] (upd H3 t2 (.tup [.str m, .str o])) (.ref t2) (encK (m, V.str o)) := At.newT ht2 lv (AtL.two _ _)
        exact ((hat1.kp (Kp.new (S := []) ht2) (by simp)).snoc h9).kp (Kp.mut (S := [D]) (by simp)) (by simp)
    rintro H2 acc hacc k2 hat2
    have hwl : ws.length = (byOlds prs).length := by rw [hat0.length, List.length_map]
    rw [List.take_of_length_le (by omega)] at hat2
    have hbk := hk.by
    fail "go"
    refine g_dictP hacc (th := newsD (byOlds prs)) hat2 (by rw [keys_newsD]; exact hbk.ndn) fun d hd => ?_
    have k3 : Kp [] H (upd H2 d (.dK (dS (newsD (byOlds prs))))) := (k1.trans k2).upn hd
    have hd1 : upd H2 d (.dK (dS (newsD (byOlds prs)))) d = some (.dK (dS (newsD (byOlds prs)))) := upd_same
    generalize upd H2 d (.dK (dS (newsD (byOlds prs)))) = H3 at k3 hd1 ⊢
    fail "gs"
    fail "g1"
    fail "gs"
    rename_i g hg
    have ndg := ne_of_none hd1 hg
    have hg0 : H g = none := k3.free hg (by simp)
    have k4 : Kp [] H (upd H3 g (.lst [])) := k3.upn hg
    have hd4 : upd H3 g (.lst []) d = some (.dK (dS (newsD (byOlds prs)))) := by rw [upd_ne ndg]; exact hd1
    have hg4 : upd H3 g (.lst []) g = some (.lst []) := upd_same
    generalize upd H3 g (.lst []) = H4 at k4 hd4 hg4 ⊢
    refine g_thenO (fun σ H' => ∃ h vs, σ = [some (.ref p), some (.str h), some (.ref d), some (.ref g), none, none] ∧ Kp [g] H4 H' ∧ H' g = some (.lst vs) ∧ ∀ S, Live S H → AtL (g :: S) H' vs ((chainL prs 50 n).map encDd)) ?_ fun nx2 hP => ?_
    · rintro σ H5 ⟨h, vs, rfl, k5, hg5, hat5⟩
      fail "go"
      exact q g vs H5 hg0 (Kp.drop hg0 ((k4.sub (by simp)).trans k5)) hg5 hat5
    · refine g_while (fun m σ H' => ∃ (h : Str) (B : List Str) (l : List Dd) (vs : List V), σ = [some (.ref p), some (.str h), some (.ref d), some (.ref g), none, none] ∧ Kp [g] H4 H' ∧ H' g = some (.lst vs) ∧ (∀ S, Live S H → AtL (g :: S) H' vs (l.map encDd)) ∧ vs.length = B.length ∧ Back prs (h :: B) ∧ B.length + m = 50 ∧ l ++ chainL prs m h = chainL prs 50 n) 50 ?_ ?_
      · exact ⟨n, [], [], [], rfl, Kp.refl _ _, hg4, fun _ _ => .nil, rfl, Back.one hnx, rfl, rfl⟩
      · rintro m σ H5 ⟨h, B, l, vs, rfl, k5, hg5, hat5, hvl, hB, hm, hch⟩
        have hBl := hB.len40 hk
        rw [List.length_cons] at hBl
        have hd5 : H5 d = some (.dK (dS (newsD (byOlds prs)))) := k5.at hd4 (by simpa using ndg)
        have hget := DGet.s h hd5
        rw [lk_newsD hbk.ndn, src_by hk] at hget
        cases hs : src prs h with
        | none =>
          rw [hs] at hget
          refine g_inD hget ?_
          refine g_isbl (g_ifF rfl ?_)
          exact hP _ _ ⟨h, vs, rfl, k5, hg5, by rw [← hch, chain_none hs, List.append_nil]; exact hat5⟩
        | some o =>
          rw [hs] at hget
          refine g_inD hget ?_
          refine g_isbl (g_ifT rfl ?_)
          refine g_turn ?_
          obtain ⟨m, rfl⟩ : ∃ m', m = m' + 1 := ⟨m - 1, by omega⟩
          rw [chain_some hs] at hch
          fail "go"
          refine g_ty (tyL hg5) ?_
          refine g_ixD hget ?_
          fail "go"
          rename_i t ht
          have ngt := ne_of_none hg5 ht
          refine g_append (xs := vs) (by rw [upd_ne ngt]; exact hg5) (sz2 (by omega)) ?_
          fail "go"
          have hdn : upd (upd H5 t (.tup [.str "move", .str o, .str h])) g (.lst (vs ++ [.ref t])) d = some (.dK (dS (newsD (byOlds prs)))) := by
            rw [upd_ne ndg, upd_ne (ne_of_none hd5 ht)]; exact hd5
          have hget2 := DGet.s h hdn
          rw [lk_newsD hbk.ndn, src_by hk, hs] at hget2
          refine g_ixD hget2 ?_
          refine ⟨m, by omega, o, h :: B, l ++ [(o, some h)], vs ++ [.ref t], rfl, (k5.upn ht).upd (by simp), upd_same, fun S hS => ?_, by simp [hvl], hB.cons (nx_of_mem hk.ndo (src_mem hs)), by simp; omega, by rw [List.append_assoc]; exact hch⟩
          have l5 : Live S H5 := (hS.kp k4 (by simp)).kp k5 fun x hx => by rw [List.mem_singleton.mp hx]; exact ne_some hg5
          have h9 : At (g :: S) (upd H5 t (.tup [.str "move", .str o, .str h])) (.ref t) (encDd (o, some h)) := encDd_at (d := (o, some h)) ht (l5.cons (ne_some hg5))
          rw [List.map_append]
          exact (((hat5 S hS).kp (Kp.new (S := []) ht) (by simp)).snoc h9).kp (Kp.mut (S := [g]) (by simp)) (by simp)
theorem ok_ring_deeds {f} {fd} (F : Fun K "ring_deeds" "ring_deeds" sring_deeds f fd) (T : Txt K mg C_Held C_LetGo C_Missing C_NewError C_NoName C_NoRow C_NoSpare C_Plan C_Twice) :
    FnOk P w K mg base CX0 1 f fd ["ring", "spare"] spRingDeeds := by
  refine F.ok scring_deeds (fun vs H Q E h => ?_) (fun cdv A outer s H vs Q E hr h => ?_)
  · obtain ⟨t, r, sp, rfl, _⟩ := h
    rfl
  · obtain ⟨t, r, sp, rfl, ht, hr1, hr2, q⟩ := h
    have hu := hu_of hr
    refine ⟨_, (pss_cons (ps_set (i := 2) scring_deeds.nd rfl (Or.inl rfl) (pe_lst (pa_cons (pe_tup (pa_cons pe_str (pa_cons (pe_ix (NN.ix_K (K := K) rfl hu) (NN.pv 0) (pe_un un_neg pe_int) (fun _ _ => rfl)) (pa_cons (NN.pv 1) pa_nil)))) pa_nil)))
      (pss_cons (ps_for PassesOwn.never rfl (pi_range3 (by rfl) T.b_range (pa_cons (pe_op op_sub (pe_callB (NN.call_lenK (K := K) rfl) (by rfl) T.b_len (by decide +kernel) (pa_cons (NN.pv 0) pa_nil)) pe_int) (pa_cons pe_int (pa_cons (pe_un un_neg pe_int) pa_nil)))) (pg_name (i := 3) scring_deeds.nd rfl (Or.inl rfl)) (pss_one (ps_expr (NN.pe_bmK (K := K) rfl PySem.F.plainAttrs_list PySem.F.slot_list_append PySem.F.type_list_append mt_append (NN.pv 2) (pa_cons (pe_tup (pa_cons pe_str (pa_cons (pe_ix (NN.ix_K (K := K) rfl hu) (NN.pv 0) (pe_op op_sub (NN.pv 3) pe_int) (fun _ _ => rfl)) (pa_cons (pe_ix (NN.ix_K (K := K) rfl hu) (NN.pv 0) (NN.pv 3) (fun _ _ => rfl)) pa_nil)))) pa_nil)))))
      (pss_one (ps_ret (pe_op NN.op_addU (NN.pv 2) (pe_lst (pa_cons (pe_tup (pa_cons pe_str (pa_cons (NN.pv 1) (pa_cons (pe_ix (NN.ix_K (K := K) rfl hu) (NN.pv 0) pe_int (fun _ _ => rfl)) pa_nil)))) pa_nil))))))), ?_⟩
    refine NN.g_st [some (.ref t), some (.str sp), none, none] rfl ?_
    have at_ : ∀ {j : Nat} {i : Int}, j < r.length → i = (j : Int) → atI (r.map V.str) i = some (.str (r.getD j "")) := fun {j i} h e => by
      subst e
      refine atI_nat ?_
      rw [List.getElem?_map, List.getD_eq_getElem?_getD, List.getElem?_eq_getElem h]; rfl
    fail "g1"
    fail "gs"
    refine g_ixT ht (v := .str (r.getD (r.length - 1) "")) (at_last ?_) ?_
    · rw [List.length_map, List.getElem?_map, List.getD_eq_getElem?_getD, List.getElem?_eq_getElem (by omega)]; rfl
    fail "gs"
    rename_i d1 hd1 g hg
    have n1g := ne_of_none upd_same hg
    have hg0 : H g = none := by rw [upd_ne n1g.symm] at hg; exact hg
    generalize hH : upd (upd H d1 (.tup [.str "move", .str (r.getD (r.length - 1) ""), .str sp])) g (.lst [.ref d1]) = H1
    have k1 : Kp [] H H1 := by rw [← hH]; exact (Kp.new hd1).trans (Kp.new hg)
    have hg1 : H1 g = some (.lst [.ref d1]) := by rw [← hH]; exact upd_same
    have hat1 : ∀ S, Live S H → AtL (g :: S) H1 [.ref d1] (([(r.getD (r.length - 1) "", some sp)] : List Dd).map encDd) := fun S hS => by
      have h9 : At S (upd H d1 (.tup [.str "move", .str (r.getD (r.length - 1) ""), .str sp])) (.ref d1) (encDd (r.getD (r.length - 1) "", some sp)) := encDd_at (d := (_, some sp)) hd1 hS
      rw [← hH]
      exact .cons ((h9.ext hg).kp (Kp.new (S := []) hg) (by simp)) .nil
    have ht1 := k1.at ht (by simp)
    have ntg := ne_of_none ht hg0
    fail "g1"
    fail "gs"
    refine NN.g_iRng3 ?_
    fail "gs"
    rw [List.length_map]
    refine ⟨_, _, _, _, rfl, RgC.neg (by omega) (by omega) (by omega) (by omega), ?_⟩
    have hn : (((r.length : Int) - 1) - 0).toNat = r.length - 1 := by omega
    rw [hn]
    let mid : Nat → List Dd := fun i => (List.range i).map fun k => (r.getD (r.length - 2 - k) "", some (r.getD (r.length - 1 - k) ""))
    refine for_it walk_rangeC (fun i σ H' => ∃ (v3 : Option V) (vs : List V), σ = [some (.ref t), some (.str sp), some (.ref g), v3] ∧ Kp [g] H1 H' ∧ H' g = some (.lst vs) ∧ vs.length = i + 1 ∧ ∀ S, Live S H → AtL (g :: S) H' vs (([(r.getD (r.length - 1) "", some sp)] ++ mid i : List Dd).map encDd)) ?_ (fun _ _ _ _ _ => trivial) ?_ ?_
    · exact ⟨_, _, rfl, Kp.refl _ _, hg1, rfl, hat1⟩
    · rintro i x σ H2 H3 hi ⟨v3, vs, rfl, k2, hg2, hvl, hat2⟩ ⟨rfl, rfl⟩
      have ht2 : H3 t = some (.tup (r.map V.str)) := k2.at ht1 (by simpa using ntg)
      fail "gs"
      refine g_ty (tyL hg2) ?_
      fail "gs"
      refine g_ixT ht2 (at_ (j := r.length - 2 - i) (by omega) (by omega)) ?_
      fail "gs"
      refine g_ixT ht2 (at_ (j := r.length - 1 - i) (by omega) (by omega)) ?_
      fail "gs"
      rename_i t2 hn2
      have ngt := ne_of_none hg2 hn2
      refine g_append (xs := vs) (by rw [upd_ne ngt]; exact hg2) (sz2 (by omega)) ?_
      refine ⟨_, vs ++ [.ref t2], rfl, (k2.upn hn2).upd (by simp), upd_same, by simp [hvl], fun S hS => ?_⟩
      have l3 : Live S H3 := (hS.kp k1 (by simp)).kp k2 fun x hx => by rw [List.mem_singleton.mp hx]; exact ne_some hg2
      have h9 : At (g :: S) (upd H3 t2 (.tup [.str "move", .str (r.getD (r.length - 2 - i) ""), .str (r.getD (r.length - 1 - i) "")])) (.ref t2) (encDd (r.getD (r.length - 2 - i) "", some (r.getD (r.length - 1 - i) ""))) := encDd_at (d := (_, some _)) hn2 (l3.cons (ne_some hg2))
      have em : mid (i + 1) = mid i ++ [(r.getD (r.length - 2 - i) "", some (r.getD (r.length - 1 - i) ""))] := by
        show (List.range (i + 1)).map _ = (List.range i).map _ ++ _
        rw [List.range_succ, List.map_append]; rfl
      rw [em, ← List.append_assoc, List.map_append]
      exact snoc_at (hat2 S hS) (Kp.new hn2) h9
    · rintro σ H2 ⟨v3, vs, rfl, k2, hg2, hvl, hat2⟩
      have ht2 : H2 t = some (.tup (r.map V.str)) := k2.at ht1 (by simpa using ntg)
      fail "go"
      refine g_ixT ht2 (at_ (j := 0) (by omega) rfl) ?_
      fail "go"
      rename_i t3 ht3 l3 hl3
      have nt3 := ne_of_none hg2 ht3
      have nl3 : g ≠ l3 := fun e => by rw [← e, upd_ne nt3, hg2] at hl3; cases hl3
      refine g_addLk (xs := vs) (ys := [.ref t3]) (by rw [upd_ne nl3, upd_ne nt3]; exact hg2) upd_same (sz1 (by simp; omega)) fun a H4 ha k4 ha4 => ?_
      have k3 : Kp [] H2 H4 := ((Kp.new ht3).trans (Kp.new hl3)).trans k4
      have k2' : Kp [] H H2 := Kp.drop hg0 ((k1.sub (by simp)).trans k2)
      fail "go"
      refine q a _ H4 (((k2'.trans (Kp.new ht3)).trans (Kp.new hl3)).free ha (by simp)) (k2'.trans k3) ha4 fun S hS => ?_
      have L2' : Live S H2 := hS.kp k2' (by simp)
      have hfr : a ∉ S := (L2'.upn.upn).fresh ha
      have h9 : At S (upd H2 t3 (.tup [.str "move", .str sp, .str (r.getD 0 "")])) (.ref t3) (encDd (sp, some (r.getD 0 ""))) := encDd_at (d := (_, some _)) ht3 L2'
      have h10 : At (a :: S) H4 (.ref t3) (encDd (sp, some (r.getD 0 ""))) := ((h9.kp (Kp.new (S := []) hl3) (by simp)).ext ha).kp k4 (by simp)
      have h11 : AtL (a :: S) H4 vs (([(r.getD (r.length - 1) "", some sp)] ++ mid (r.length - 1) : List Dd).map encDd) := ((((hat2 S hS).sub (fun x hx => List.mem_cons_of_mem _ hx)).kp ((Kp.new (S := []) ht3).trans (Kp.new hl3)) (by simp)).ext ha).kp k4 (by simp)
      have := h11.snoc h10
      unfold ringD1
      rw [List.map_append]
      exact this
theorem ok_deeds_by {f} {fd} (F : Fun K "deeds_by" "deeds_by" sdeeds_by f fd) (T : Txt K mg C_Held C_LetGo C_Missing C_NewError C_NoName C_NoRow C_NoSpare C_Plan C_Twice) (F_Plan_pairs : MtAt P w K mg base CX0 1 C_Plan "pairs" ["self"] (spPlanPairs C_Plan)) (F_Plan_olds : MtAt P w K mg base CX0 1 C_Plan "olds" ["self"] (spPlanOlds C_Plan)) (F_Plan_news : MtAt P w K mg base CX0 1 C_Plan "news" ["self"] (spPlanNews C_Plan)) (F_Plan_rings : MtAt P w K mg base CX0 2 C_Plan "rings" ["self"] (spPlanRings C_Plan))
    (F_chain_to : FnAt P w K mg base CX0 2 "chain_to" ["plan", "last"] (spChainTo C_Plan)) (F_ring_deeds : FnAt P w K mg base CX0 1 "ring_deeds" ["ring", "spare"] spRingDeeds) :
    FnOk P w K mg base CX0 3 f fd ["plan", "spare"] (spDeedsBy C_Plan) := by
  refine F.ok scdeeds_by (fun vs H Q E h => ?_) (fun cdv A outer s H vs Q E hr h => ?_)
  · obtain ⟨p, prs, sp, rfl, _⟩ := h
    rfl
  · obtain ⟨p, prs, sp, rfl, hp, hk, hsp, q⟩ := h
    have hu := hu_of hr
    refine ⟨_, (pss_cons (ps_set (i := 2) scdeeds_by.nd rfl (Or.inl rfl) (pe_lst pa_nil))
      (pss_cons (ps_for PassesOwn.never rfl (NN.pi_listK (K := K) rfl (NN.pe_mt0 F_Plan_pairs (NN.pv 0) (hr.mono (by first | decide | omega)))) (NN.pg_tupK (K := K) (n := 2) rfl rfl (pgs_cons (pg_name (i := 3) scdeeds_by.nd rfl (Or.inl rfl)) (pgs_cons (pg_name (i := 4) scdeeds_by.nd rfl (Or.inl rfl)) pgs_nil))) (pss_one (ps_if (pt_cmpR NN.op_isU (NN.pv 4) pe_non (nomark _)) (pss_one (ps_expr (NN.pe_bmK (K := K) rfl PySem.F.plainAttrs_list PySem.F.slot_list_append PySem.F.type_list_append mt_append (NN.pv 2) (pa_cons (pe_tup (pa_cons pe_str (pa_cons (NN.pv 3) pa_nil))) pa_nil)))) pss_nil)))
      (pss_cons (ps_for PassesOwn.never rfl (NN.pi_listK (K := K) rfl (NN.pe_mt0 F_Plan_news (NN.pv 0) (hr.mono (by first | decide | omega)))) (pg_name (i := 4) scdeeds_by.nd rfl (Or.inl rfl)) (pss_one (ps_if (pt_cmpR (NN.op_notInK (K := K) rfl hu) (NN.pv 4) (NN.pe_mt0 F_Plan_olds (NN.pv 0) (hr.mono (by first | decide | omega))) (by rfl)) (pss_one (ps_expr (NN.pe_bmK (K := K) rfl PySem.F.plainAttrs_list PySem.F.slot_list_extend PySem.F.type_list_extend mt_extend (NN.pv 2) (pa_cons (NN.pe_fn F_chain_to (hr.mono (by first | decide | omega)) (pa_cons (NN.pv 0) (pa_cons (NN.pv 4) pa_nil))) pa_nil)))) pss_nil)))
      (pss_cons (ps_for PassesOwn.never rfl (NN.pi_listK (K := K) rfl (NN.pe_mt0 F_Plan_pairs (NN.pv 0) (hr.mono (by first | decide | omega)))) (NN.pg_tupK (K := K) (n := 2) rfl rfl (pgs_cons (pg_name (i := 3) scdeeds_by.nd rfl (Or.inl rfl)) (pgs_cons (pg_name (i := 4) scdeeds_by.nd rfl (Or.inl rfl)) pgs_nil))) (pss_one (ps_if (pt_cmpR NN.op_isU (NN.pv 4) pe_non (nomark _)) (pss_one (ps_expr (NN.pe_bmK (K := K) rfl PySem.F.plainAttrs_list PySem.F.slot_list_extend PySem.F.type_list_extend mt_extend (NN.pv 2) (pa_cons (NN.pe_fn F_chain_to (hr.mono (by first | decide | omega)) (pa_cons (NN.pv 0) (pa_cons (NN.pv 3) pa_nil))) pa_nil)))) pss_nil)))
      (pss_cons (ps_for PassesOwn.never rfl (NN.pi_listK (K := K) rfl (NN.pe_mt0 F_Plan_rings (NN.pv 0) (hr.mono (by first | decide | omega)))) (pg_name (i := 5) scdeeds_by.nd rfl (Or.inl rfl)) (pss_one (ps_expr (NN.pe_bmK (K := K) rfl PySem.F.plainAttrs_list PySem.F.slot_list_extend PySem.F.type_list_extend mt_extend (NN.pv 2) (pa_cons (NN.pe_fn F_ring_deeds (hr.mono (by first | decide | omega)) (pa_cons (NN.pv 5) (pa_cons (NN.pv 1) pa_nil))) pa_nil)))))
      (pss_one (ps_ret (NN.pv 2)))))))), ?_⟩
    refine NN.g_st [some (.ref p), some (oV sp), none, none, none, none] rfl ?_
    obtain ⟨pa, pb, dx, h1, h2, h3, _⟩ := id hp.ex
    have hbl : (byOlds prs).length ≤ 40 := by have := hk.len; unfold byOlds; rw [List.length_map, len_srt]; simpa [keys] using this
    have hnl : (srt (NN.news prs)).length ≤ 40 := by have := hk.len; rw [len_srt]; have h : (NN.news prs).length ≤ prs.length := List.length_filterMap_le ..; omega
    have hrl := rings_len hk
    fail "g1"
    fail "gs"
    rename_i g hg
    have k1 : Kp [] H (upd H g (.lst [])) := Kp.new hg
    have hg1 : upd H g (.lst []) g = some (.lst []) := upd_same
    generalize upd H g (.lst []) = H1 at k1 hg1 ⊢
    have npg := ne_of_none h1 hg
    have St : ∀ {H'}, Kp [g] H1 H' → Kp [] H H' := fun k => Kp.drop hg ((k1.sub (by simp)).trans k)
    -- what is let go
    fail "g1"
    fail "gs"
    refine ⟨p, dx, _, rfl, k1.at h1 (by simp), rfl, p, prs, rfl, hp.kp k1 (by simp), hk, fun l1 ws1 H2 hl10 k2 hl11 hat1 => ?_⟩
    have nl1g : l1 ≠ g := fun e => by rw [e, hg1] at hl10; cases hl10
    have hg2 := k2.at hg1 (by simp)
    have hat10 := hat1 [] (fun _ z => nomatch z)
    have hw1 : ws1.length = (byOlds prs).length := by rw [hat10.length, List.length_map]
    have hatg : AtL [g] H2 ws1 ((byOlds prs).map encP) := (hat1 [g] (live_one (ne_some hg1))).sub (fun x hx => List.mem_cons_of_mem _ hx)
    fail "gs"
    refine for_it (walk_list (xs := ws1)) (fun i σ H' => ∃ (v3 v4 : Option V) (vs : List V), σ = [some (.ref p), some (oV sp), some (.ref g), v3, v4, none] ∧ Kp [g] H2 H' ∧ H' g = some (.lst vs) ∧ ∀ S, Live S H → AtL (g :: S) H' vs ((dropP prs i).map encDd)) ?_ ?_ ?_ ?_
    · exact ⟨_, _, [], rfl, Kp.refl _ _, hg2, fun S _ => .nil⟩
    · rintro i σ H' _ ⟨_, _, _, _, k, _⟩
      exact SqL.of (k.at hl11 (by simpa using nl1g))
    · rintro i z σ H3 H4 hi ⟨v3, v4, vs, rfl, k3, hg3, hat3⟩ ⟨rfl, hz⟩
      obtain ⟨t, o, n, rfl, ho, ht⟩ := item_P hatg hz k3 (by simp)
      have tk : dropP prs (i + 1) = dropP prs i ++ (([(o, n)] : Pr).filter fun p => p.2.isNone).map fun p => (p.1, none) := by
        unfold dropP; rw [List.take_add_one, ho, List.filter_append, List.map_append]; rfl
      have hvl : vs.length ≤ 40 := by have := (hat3 [] (fun _ z => nomatch z)).length; rw [List.length_map] at this; have := dropP_len prs i; omega
      refine g_tgt (SqT.of ht) rfl ?_
      fail "go"
      cases n with
      | some m =>
        fail "go"
        exact ⟨_, _, vs, rfl, k3, hg3, by rw [tk, show (([(o, some m)] : Pr).filter fun p => p.2.isNone) = [] from rfl, List.map_nil, List.append_nil]; exact hat3⟩
      | none =>
        fail "go"
        refine g_ty (tyL hg3) ?_
        fail "go"
        rename_i t2 ht2
        have ngt := ne_of_none hg3 ht2
        refine g_append (xs := vs) (by rw [upd_ne ngt]; exact hg3) (sz2 (by omega)) ?_
        refine ⟨_, _, vs ++ [.ref t2], rfl, (k3.upn ht2).upd (by simp), upd_same, fun S hS => ?_⟩
        have l3 : Live S H4 := ((hS.kp k1 (by simp)).kp k2 (by simp)).kp k3 fun x hx => by rw [List.mem_singleton.mp hx]; exact ne_some hg3
        have h9 : At (g :: S) (upd H4 t2 (.tup [.str "drop", .str o])) (.ref t2) (encDd (o, none)) := encDd_at (d := (o, none)) ht2 (l3.cons (ne_some hg3))
        rw [tk, List.map_append]
        exact snoc_at (hat3 S hS) (Kp.new ht2) h9
    rintro σ H3 ⟨v3, v4, vs, rfl, k3, hg3, hat3⟩
    have k13 : Kp [g] H1 H3 := (k2.sub (by simp)).trans k3
    rw [hw1] at hat3
    -- chains to free names
    have hp3 := hp.kp (St k13) (by simp)
    fail "g1"
    fail "gs"
    refine ⟨p, dx, _, rfl, (St k13).at h1 (by simp), rfl, p, prs, rfl, hp3, hk, fun l2 H4 hl20 k4 hl21 => ?_⟩
    have nl2g : l2 ≠ g := fun e => by rw [e, hg3] at hl20; cases hl20
    have hg4 := k4.at hg3 (by simp)
    fail "gs"
    refine for_it (walk_list (xs := (srt (NN.news prs)).map V.str)) (fun i σ H' => ∃ (v3 v4 : Option V) (vs : List V), σ = [some (.ref p), some (oV sp), some (.ref g), v3, v4, none] ∧ Kp [g] H4 H' ∧ H' g = some (.lst vs) ∧ ∀ S, Live S H → AtL (g :: S) H' vs ((dropP prs (byOlds prs).length ++ newP prs i).map encDd)) ?_ ?_ ?_ ?_
    · exact ⟨_, _, vs, rfl, Kp.refl _ _, hg4, fun S hS => by rw [show newP prs 0 = [] from rfl, List.append_nil]; exact (hat3 S hS).kp k4 (by simp)⟩
    · rintro i σ H' _ ⟨_, _, _, _, k, _⟩
      exact SqL.of (k.at hl21 (by simpa using nl2g))
    · rintro i z σ H5 H6 hi ⟨v3, v4, vs, rfl, k5, hg5, hat5⟩ ⟨rfl, hz⟩
      obtain ⟨n, hn, rfl⟩ := str_at hz
      have k15 : Kp [g] H1 H6 := (k13.trans (k4.sub (by simp))).trans k5
      have tk : newP prs (i + 1) = newP prs i ++ ([n].filter fun n => decide (n ∉ keys prs)).flatMap (chainL prs 50) := by
        unfold newP; rw [List.take_add_one, hn, List.filter_append, List.flatMap_append]; rfl
      have hvl : vs.length ≤ 40 + 40 * 50 := by
        have := (hat5 [] (fun _ z => nomatch z)).length
        rw [List.length_map, List.length_append] at this
        have h1 := dropP_len prs (byOlds prs).length
        have h2 := newP_len prs i
        rw [List.length_map] at hi
        have h3 : i * 50 ≤ 40 * 50 := Nat.mul_le_mul_right _ (by omega)
        omega
      have hp5 := hp.kp (St k15) (by simp)
      fail "go"
      refine ⟨p, dx, _, rfl, (St k15).at h1 (by simp), rfl, p, prs, rfl, hp5, hk, fun l3 H7 hl30 k7 hl31 => ?_⟩
      have k17 : Kp [g] H1 H7 := k15.trans (k7.sub (by simp))
      have hg7 := k7.at hg5 (by simp)
      fail "go"
      refine g_inL hl31 rfl (flat_strs _) ?_
      rw [inV_strs]
      fail "go"
      by_cases hnk : n ∈ keys prs
      · rw [decide_eq_true (mem_srt.mpr hnk)]
        fail "go"
        exact ⟨_, _, vs, rfl, k5.trans (k7.sub (by simp)), hg7, by rw [tk, show ([n].filter fun n => decide (n ∉ keys prs)) = [] from by simp [hnk], List.flatMap_nil, List.append_nil]; exact fun S hS => (hat5 S hS).kp k7 (by simp)⟩
      · rw [decide_eq_false (fun e => hnk (mem_srt.mp e))]
        fail "go"
        refine g_ty (tyL hg7) ?_
        fail "go"
        refine ⟨p, prs, n, rfl, hp.kp (St k17) (by simp), hk, by unfold nx; rw [lk_none.mpr hnk]; rfl, fun q8 ws8 H8 hq80 k8 hq81 hat8 => ?_⟩
        have hwl : ws8.length ≤ 50 := by have := (hat8 [] (fun _ z => nomatch z)).length; rw [List.length_map] at this; have := chain_len prs 50 n; omega
        refine g_extend (k8.at hg7 (by simp)) hq81 (sz1 (by omega)) ?_
        have k9 : Kp [] H6 H8 := k7.trans k8
        refine ⟨_, _, vs ++ ws8, rfl, (k5.trans (k9.sub (by simp))).upd (by simp), upd_same, fun S hS => ?_⟩
        have l7 : Live (g :: S) H7 := (hS.kp (St k17) (by simp)).cons (ne_some hg7)
        rw [tk, show ([n].filter fun n => decide (n ∉ keys prs)) = [n] from by simp [hnk], ← List.append_assoc, List.map_append, show [n].flatMap (chainL prs 50) = chainL prs 50 n from by simp]
        exact ext_at (hat5 S hS) k9 (hat8 (g :: S) l7)
    rintro σ H5 ⟨v3', v4', vs5, rfl, k5, hg5, hat5⟩
    have k15 : Kp [g] H1 H5 := (k13.trans (k4.sub (by simp))).trans k5
    rw [List.length_map] at hat5
    -- chains to names let go
    have hp5 := hp.kp (St k15) (by simp)
    fail "g1"
    fail "gs"
    refine ⟨p, dx, _, rfl, (St k15).at h1 (by simp), rfl, p, prs, rfl, hp5, hk, fun l4 ws4 H6 hl40 k6 hl41 hat4 => ?_⟩
    have nl4g : l4 ≠ g := fun e => by rw [e, hg5] at hl40; cases hl40
    have hg6 := k6.at hg5 (by simp)
    have hat4g : AtL [g] H6 ws4 ((byOlds prs).map encP) := (hat4 [g] (live_one (ne_some hg5))).sub (fun x hx => List.mem_cons_of_mem _ hx)
    have hw4 : ws4.length = (byOlds prs).length := by rw [hat4g.length, List.length_map]
    fail "gs"
    refine for_it (walk_list (xs := ws4)) (fun i σ H' => ∃ (v3 v4 : Option V) (vs : List V), σ = [some (.ref p), some (oV sp), some (.ref g), v3, v4, none] ∧ Kp [g] H6 H' ∧ H' g = some (.lst vs) ∧ ∀ S, Live S H → AtL (g :: S) H' vs ((dropP prs (byOlds prs).length ++ newP prs (srt (NN.news prs)).length ++ goneP prs i).map encDd)) ?_ ?_ ?_ ?_
    · exact ⟨_, _, vs5, rfl, Kp.refl _ _, hg6, fun S hS => by rw [show goneP prs 0 = [] from rfl, List.append_nil]; exact (hat5 S hS).kp k6 (by simp)⟩
    · rintro i σ H' _ ⟨_, _, _, _, k, _⟩
      exact SqL.of (k.at hl41 (by simpa using nl4g))
    · rintro i z σ H7 H8 hi ⟨v3, v4, vs, rfl, k7, hg7, hat7⟩ ⟨rfl, hz⟩
      obtain ⟨t, o, n, rfl, ho, ht⟩ := item_P hat4g hz k7 (by simp)
      have k17 : Kp [g] H1 H8 := (k15.trans (k6.sub (by simp))).trans k7
      have tk : goneP prs (i + 1) = goneP prs i ++ ((([(o, n)] : Pr).filter fun p => p.2.isNone).map (·.1)).flatMap (chainL prs 50) := by
        unfold goneP; rw [List.take_add_one, ho, List.filter_append, List.map_append, List.flatMap_append]; rfl
      have hvl : vs.length ≤ 40 + 40 * 50 + 40 * 50 := by
        have := (hat7 [] (fun _ z => nomatch z)).length
        rw [List.length_map, List.length_append, List.length_append] at this
        have h1 := dropP_len prs (byOlds prs).length
        have h2 := newP_len prs (srt (NN.news prs)).length
        have h3 := goneP_len prs i
        have h4 : i * 50 ≤ 40 * 50 := Nat.mul_le_mul_right _ (by omega)
        have h5 : (srt (NN.news prs)).length * 50 ≤ 40 * 50 := Nat.mul_le_mul_right _ (by omega)
        omega
      refine g_tgt (SqT.of ht) rfl ?_
      fail "go"
      cases n with
      | some m =>
        fail "go"
        exact ⟨_, _, vs, rfl, k7, hg7, by rw [tk, show (([(o, some m)] : Pr).filter fun p => p.2.isNone) = [] from rfl, List.map_nil, List.flatMap_nil, List.append_nil]; exact hat7⟩
      | none =>
        have hno : nx prs o = none := by
          have hm : (o, none) ∈ prs := (byOlds_self hk.ndo).mem_iff.mp (List.mem_of_getElem? ho)
          unfold nx; rw [lk_of_mem hk.ndo hm]; rfl
        fail "go"
        refine g_ty (tyL hg7) ?_
        fail "go"
        refine ⟨p, prs, o, rfl, hp.kp (St k17) (by simp), hk, hno, fun q8 ws8 H9 hq80 k8 hq81 hat8 => ?_⟩
        have hwl : ws8.length ≤ 50 := by have := (hat8 [] (fun _ z => nomatch z)).length; rw [List.length_map] at this; have := chain_len prs 50 o; omega
        refine g_extend (k8.at hg7 (by simp)) hq81 (sz1 (by omega)) ?_
        refine ⟨_, _, vs ++ ws8, rfl, (k7.trans (k8.sub (by simp))).upd (by simp), upd_same, fun S hS => ?_⟩
        have l7 : Live (g :: S) H8 := (hS.kp (St k17) (by simp)).cons (ne_some hg7)
        rw [tk, ← List.append_assoc, List.map_append, show ((([(o, none)] : Pr).filter fun p => p.2.isNone).map (·.1)).flatMap (chainL prs 50) = chainL prs 50 o from by simp]
        exact ext_at (hat7 S hS) k8 (hat8 (g :: S) l7)
    rintro σ H7 ⟨v3'', v4'', vs7, rfl, k7, hg7, hat7⟩
    have k17 : Kp [g] H1 H7 := (k15.trans (k6.sub (by simp))).trans k7
    rw [hw4] at hat7
    -- rings
    have hp7 := hp.kp (St k17) (by simp)
    fail "g1"
    fail "gs"
    refine ⟨p, dx, _, rfl, (St k17).at h1 (by simp), rfl, p, prs, rfl, hp7, hk, fun l8 ws8 H8 hl80 k8 hl81 hat8 => ?_⟩
    have nl8g : l8 ≠ g := fun e => by rw [e, hg7] at hl80; cases hl80
    have hg8 := k8.at hg7 (by simp)
    have hat8g : AtL [g] H8 ws8 (ringsD (rings prs)) := (hat8 [g] (live_one (ne_some hg7))).sub (fun x hx => List.mem_cons_of_mem _ hx)
    have hw8 : ws8.length = (rings prs).length := by rw [hat8g.length]; unfold ringsD; rw [List.length_map]
    fail "gs"
    refine for_it (walk_list (xs := ws8)) (fun i σ H' => ∃ (v5 : Option V) (vs : List V), σ = [some (.ref p), some (oV sp), some (.ref g), v3'', v4'', v5] ∧ Kp [g] H8 H' ∧ H' g = some (.lst vs) ∧ ∀ S, Live S H → AtL (g :: S) H' vs ((dropP prs (byOlds prs).length ++ newP prs (srt (NN.news prs)).length ++ goneP prs (byOlds prs).length ++ ringP prs sp i).map encDd)) ?_ ?_ ?_ ?_
    · exact ⟨_, vs7, rfl, Kp.refl _ _, hg8, fun S hS => by rw [show ringP prs sp 0 = [] from by unfold ringP; simp, List.append_nil]; exact (hat7 S hS).kp k8 (by simp)⟩
    · rintro i σ H' _ ⟨_, _, _, k, _⟩
      exact SqL.of (k.at hl81 (by simpa using nl8g))
    · rintro i z σ H9 H10 hi ⟨v5, vs, rfl, k9, hg9, hat9⟩ ⟨rfl, hz⟩
      have k19 : Kp [g] H1 H10 := (k17.trans (k8.sub (by simp))).trans k9
      obtain ⟨d, hd, hxd⟩ := (hat8g.kp k9 (by simp)).get' hz
      unfold ringsD at hd
      rw [List.getElem?_map] at hd
      obtain ⟨r, hr9, rfl⟩ := Option.map_eq_some_iff.mp hd
      obtain ⟨t, ts, rfl, _, ht, hts⟩ := hxd.isT
      have ets : ts = r.map V.str := by
        have := AtL.vals_eq (S := [g]) (H := H10) (vs := ts) (ws := r.map V.str) (by rw [List.map_map]; exact hts)
        exact this
      subst ets
      have hrm := List.mem_of_getElem? hr9
      have hsh := rings_shape hrm
      have hrl2 := ring_len hk hrm
      obtain ⟨s9, rfl⟩ : ∃ s9, sp = some s9 := by
        cases sp with
        | some s9 => exact ⟨s9, rfl⟩
        | none => rw [hsp rfl] at hrm; cases hrm
      have tk : ringP prs (some s9) (i + 1) = ringP prs (some s9) i ++ ringD1 r s9 := by
        unfold ringP; rw [List.take_add_one, hr9, List.flatMap_append, Option.toList_some, List.flatMap_cons, List.flatMap_nil, List.append_nil]; rfl
      have hvl : vs.length ≤ 40 + 40 * 50 + 40 * 50 + 40 * 50 := by
        have := (hat9 [] (fun _ z => nomatch z)).length
        rw [List.length_map, List.length_append, List.length_append, List.length_append] at this
        have h1 := dropP_len prs (byOlds prs).length
        have h2 := newP_len prs (srt (NN.news prs)).length
        have h3 := goneP_len prs (byOlds prs).length
        have h4 := ringP_len hk (some s9) i
        have h5 : i * 50 ≤ 40 * 50 := Nat.mul_le_mul_right _ (by omega)
        have h6 : (srt (NN.news prs)).length * 50 ≤ 40 * 50 := Nat.mul_le_mul_right _ (by omega)
        have h7 : (byOlds prs).length * 50 ≤ 40 * 50 := Nat.mul_le_mul_right _ (by omega)
        omega
      fail "go"
      refine g_ty (tyL hg9) ?_
      fail "go"
      refine ⟨t, r, s9, rfl, ht, hsh.1, by omega, fun q10 ws10 H11 hq0 k11 hq1 hat10 => ?_⟩
      have hwl : ws10.length ≤ 50 := by have := (hat10 [] (fun _ z => nomatch z)).length; rw [List.length_map, ring_dlen] at this; omega
      refine g_extend (k11.at hg9 (by simp)) hq1 (sz1 (by omega)) ?_
      refine ⟨_, vs ++ ws10, rfl, (k9.trans (k11.sub (by simp))).upd (by simp), upd_same, fun S hS => ?_⟩
      have l9 : Live (g :: S) H10 := (hS.kp (St k19) (by simp)).cons (ne_some hg9)
      rw [tk, ← List.append_assoc, List.map_append]
      exact ext_at (hat9 S hS) k11 (hat10 (g :: S) l9)
    rintro σ H9 ⟨v5, vs9, rfl, k9, hg9, hat9⟩
    fail "go"
    refine q g vs9 H9 hg (St ((k17.trans (k8.sub (by simp))).trans k9)) hg9 fun S hS => ?_
    rw [deedsL_parts sp (Nat.le_refl _) (Nat.le_refl _) (Nat.le_refl _), ← hw8]
    exact hat9 S hS
theorem ok_deeds {f} {fd} (F : FunD K "deeds" "deeds" (defArgs sdeeds) (defBody sdeeds) (defScope sdeeds) [V.non] [] f fd) (T : Txt K mg C_Held C_LetGo C_Missing C_NewError C_NoName C_NoRow C_NoSpare C_Plan C_Twice) (F_fits : FnAt P w K mg base (L2.CX P w) 3 "fits" ["plan", "names"] (spFits C_Plan [C_NoName, C_Twice, C_Missing, C_Held, C_LetGo, C_NoSpare, C_NoRow]))
    (F_need_spare : FnAt P w K mg base (L2.CX P w) 3 "need_spare" ["plan", "names", "spare"] (spNeedSpare C_Plan [C_NoName, C_Twice, C_Missing, C_Held, C_LetGo, C_NoSpare, C_NoRow])) (F_deeds_by : FnAt P w K mg base CX0 3 "deeds_by" ["plan", "spare"] (spDeedsBy C_Plan)) :
    FnOk P w K mg base (L2.CX P w) 4 f fd ["plan", "names", "spare"] (spDeeds C_Plan [C_NoName, C_Twice, C_Missing, C_Held, C_LetGo, C_NoSpare, C_NoRow]) := by
  refine F.ok scdeeds (fun vs H Q E h => ?_) (fun cdv A outer s H vs Q E hr h => ?_)
  · obtain ⟨p, a, prs, nm, sp, rfl, _⟩ := h
    rfl
  · obtain ⟨p, a, prs, nm, sp, rfl, hp, hk, ha, hsl, q, qe⟩ := h
    have hu := hu_of hr
    refine ⟨_, (pss_cons (ps_expr (NN.pe_fnX F_fits (hr.mono (by first | decide | omega)) (takes_of rfl rfl rfl rfl) (pa_cons (NN.pv 0) (pa_cons (NN.pv 1) pa_nil))))
      (pss_cons (ps_expr (NN.pe_fnX F_need_spare (hr.mono (by first | decide | omega)) (takes_of rfl rfl rfl rfl) (pa_cons (NN.pv 0) (pa_cons (NN.pv 1) (pa_cons (NN.pv 2) pa_nil)))))
      (pss_one (ps_ret (NN.pe_fn F_deeds_by (hr.mono (by first | decide | omega)) (pa_cons (NN.pv 0) (pa_cons (NN.pv 2) pa_nil))))))), ?_⟩
    refine NN.g_st [some (.ref p), some (.ref a), some (oV sp), ] rfl ?_
    fail "go"
    refine ⟨p, a, prs, nm, rfl, hp, hk, ha, fun hf H1 k1 => ?_, fun e he => qe e (by unfold deedsE; rw [he])⟩
    fail "go"
    refine ⟨p, a, prs, nm, sp, rfl, hp.kp k1 (by simp), hk, k1.at ha (by simp), hsl, fun hs H2 k2 => ?_, fun e he => (qe e (by unfold deedsE; rw [hf]; exact he)).after k1 (by simp)⟩
    have k12 := k1.trans k2
    fail "go"
    refine ⟨p, prs, sp, rfl, hp.kp k12 (by simp), hk, spare_none hs, fun q3 ws H3 hq0 k3 hq1 hat => ?_⟩
    refine q (by unfold deedsE; rw [hf]; exact hs) q3 ws H3 (k12.free hq0 (by simp)) (k12.trans k3) hq1 fun S hS => hat S (hS.kp k12 (by simp))
end
end Nw
namespace Nw
open PySem L2 NN
abbrev slaw_further : Stmt := top 24
theorem sclaw_further : FnScope ["_law_places", "_law_names", "_law_goals", "_law_found", "_law_k", "_law_free", "_law_name"] ["_law_places", "_law_names", "_law_goals"] (defScope slaw_further) := ⟨rfl, rfl, rfl, by decide +kernel, rfl, by decide +kernel, by decide +kernel⟩
section
variable {P : Program} {w : World} {K : PySem.W.Frag} {mg : Str → Option Value} {base : Heap} {C_Held : Addr} {C_LetGo : Addr} {C_Missing : Addr} {C_NewError : Addr} {C_NoName : Addr} {C_NoRow : Addr} {C_NoSpare : Addr} {C_Plan : Addr} {C_Twice : Addr}
theorem ok_further {f} {fd} (F : Fun K "_law_further" "_law_further" slaw_further f fd) (T : Txt K mg C_Held C_LetGo C_Missing C_NewError C_NoName C_NoRow C_NoSpare C_Plan C_Twice) : FnOk P w K mg base CX0 1 f fd ["_law_places", "_law_names", "_law_goals"] spFurther := by
  refine F.ok sclaw_further (fun vs H Q E h => ?_) (fun cdv A outer s H vs Q E hr h => ?_)
  · obtain ⟨p, nm, g, pl, goals, names, rfl, _⟩ := h
    rfl
  · obtain ⟨p, nm, g, pl, goals, names, rfl, hp, hnm, hg, hpl, hgl, hnl, q⟩ := h
    have hu := hu_of hr
    have hu64 : (A.deeper (PyProof.Rows.envOfC "_law_further" (defScope slaw_further) s.heap.objs.size f cdv)).units + 64 < cLine := by have := hr.un; omega
    refine ⟨_, (pss_cons (ps_set (i := 3) sclaw_further.nd rfl (Or.inl rfl) (pe_lst pa_nil))
      (pss_cons (ps_for PassesOwn.never rfl (pi_range1 (by rfl) T.b_range (pa_cons (pe_callB (NN.call_lenK (K := K) rfl) (by rfl) T.b_len (by decide +kernel) (pa_cons (NN.pv 0) pa_nil)) pa_nil)) (pg_name (i := 4) sclaw_further.nd rfl (Or.inr rfl)) (pss_one (ps_if (pt_cmpR NN.op_isNotU (pe_ix (NN.ix_K (K := K) rfl hu) (NN.pv 0) (NN.pv 4) (fun _ _ => rfl)) pe_non (nomark _)) (pss_cons (ps_setLc (i := 5) (own := [("_law_name", 6)]) rfl sclaw_further.nd rfl rfl (sw_true rfl rfl rfl (by decide +kernel)) (NN.pi_listK (K := K) rfl (NN.pv 1)) (blkOk_by (own := [("_law_name", 6)]) (N := ["_law_places", "_law_names", "_law_goals", "_law_found", "_law_k", "_law_free", "_law_name"]) (sc := defScope slaw_further) (by decide +kernel)) (fun _ _ _ _ _ => (pg_name (i := 6) sclaw_further.nd rfl (Or.inl rfl))) (fun _ _ _ _ _ => (pts_one (pt_cmpR (NN.op_notInK (K := K) rfl hu) (NN.pv 6) (NN.pv 0) (by rfl)))) (fun _ _ _ _ _ => (NN.pv 6)))
      (pss_cons (ps_if (pt_cmpR NN.op_isU (pe_ix (NN.ix_K (K := K) rfl hu) (NN.pv 2) (NN.pv 4) (fun _ _ => rfl)) pe_non (nomark _)) (pss_one (ps_set (i := 5) sclaw_further.nd rfl (Or.inl rfl) (pe_op NN.op_addU (NN.pv 5) (pe_lst (pa_cons pe_non pa_nil))))) pss_nil)
      (pss_one (ps_set (i := 3) sclaw_further.nd rfl (Or.inl rfl) (pe_op NN.op_addU (NN.pv 3) (pe_lc (own := [("_law_name", 6)]) rfl sclaw_further.nd (NN.pi_listK (K := K) rfl (NN.pv 5)) (blkOk_by (own := [("_law_name", 6)]) (N := ["_law_places", "_law_names", "_law_goals", "_law_found", "_law_k", "_law_free", "_law_name"]) (sc := defScope slaw_further) (by decide +kernel)) (fun _ _ _ _ _ => (pg_name (i := 6) sclaw_further.nd rfl (Or.inl rfl))) (fun _ _ _ _ _ => pts_nil) (fun _ _ _ _ _ => (pe_op (NN.op_catAK (K := K) rfl) (pe_op (NN.op_catAK (K := K) rfl) (pe_slice (NN.slT_K (K := K) rfl) (NN.pv 0) po_none (po_some (NN.pv 4))) (pe_tup (pa_cons (NN.pv 6) pa_nil))) (pe_slice (NN.slT_K (K := K) rfl) (NN.pv 0) (po_some (pe_op NN.op_addU (NN.pv 4) pe_int)) po_none))))))))) pss_nil)))
      (pss_one (ps_ret (NN.pv 3))))), ?_⟩
    refine NN.g_st [some (.ref p), some (.ref nm), some (.ref g), none, none, none, none] rfl ?_
    fail "g1"
    fail "gs"
    rename_i pf hpf
    have kf : Kp [] H (upd H pf (.lst [])) := Kp.new hpf
    have hf0 : upd H pf (.lst []) pf = some (.lst (([] : List Addr).map V.ref)) := upd_same
    generalize upd H pf (.lst []) = H0 at kf hf0 ⊢
    have pl1 : p ≠ p → False := fun h => h rfl
    fail "g1"
    fail "gs"
    refine g_lenT (kf.at hp (by simp)) ?_
    fail "gs"
    rw [List.length_map]
    refine for_it (walk_range (lo := 0) (n := pl.length)) (fun j σ H' => ∃ (fa : Addr) (ps : List Addr) (u4 u5 : Option V), σ = [some (.ref p), some (.ref nm), some (.ref g), some (.ref fa), u4, u5, none] ∧ Kp [] H H' ∧ H fa = none ∧ H' fa = some (.lst (ps.map V.ref)) ∧ Pls H' ps ((List.range j).flatMap (fromL names goals pl))) ?_ (fun _ _ _ _ _ => trivial) ?_ ?_
    · exact ⟨pf, [], _, _, rfl, kf, hpf, hf0, .nil⟩
    · rintro j y σ H1 H2 hj ⟨fa, ps, u4, u5, rfl, k1, hfa0, hfa, hps⟩ ⟨rfl, rfl⟩
      have hp1 := hp.kp k1 (by simp)
      have hg1 := hg.kp k1 (by simp)
      have hnm1 := k1.at hnm (by simp)
      obtain ⟨x, hx⟩ : ∃ x, pl[j]? = some x := ⟨_, List.getElem?_eq_getElem hj⟩
      obtain ⟨gx, hgx⟩ : ∃ x, goals[j]? = some x := ⟨_, List.getElem?_eq_getElem (by omega)⟩
      have rsucc : (List.range (j + 1)).flatMap (fromL names goals pl) = (List.range j).flatMap (fromL names goals pl) ++ fromL names goals pl j := by
        rw [List.range_succ, List.flatMap_append]; simp
      fail "gs"
      refine g_ixT hp1 (v := oV x) (by rw [show ((0 : Int) + (j : Nat)) = (j : Nat) by omega]; exact atI_nat (by rw [List.getElem?_map, hx]; rfl)) ?_
      refine g_isN ?_
      cases x with
      | none =>
        refine ⟨false, rfl, ?_⟩
        rw [if_neg Bool.false_ne_true]
        fail "gs"
        exact ⟨fa, ps, _, _, rfl, k1, hfa0, hfa, by rw [rsucc, from_none hx, List.append_nil]; exact hps⟩
      | some s0 =>
        refine ⟨true, rfl, ?_⟩
        rw [if_pos rfl]
        fail "gs"
        fail "g1"
        fail "gs"
        intro D hD
        have nD := ne_of_none hnm1 hD
        refine lc_kp (walk_list (xs := names.map V.str)) [] (fun i acc _ => acc = ((names.take i).filter fun n => decide (some n ∉ pl)).map V.str) hD rfl (fun i acc H5 _ k5 _ => SqL.of (k5.at hnm1 (by simpa using nD))) ?_ ?_
        · rintro i y H3 H4 acc hi hacc hl k3 rfl ⟨rfl, hy⟩
          obtain ⟨n, hn, rfl⟩ := str_at hy
          rw [List.length_map] at hi
          fail "gs"
          refine g_inT ((k3.drop hD).at hp1 (by simp)) rfl (flat_pl _) ?_
          rw [inV_pl]
          refine ⟨_, rfl, ?_⟩
          have tk : (names.take (i + 1)).filter (fun n => decide (some n ∉ pl)) = (names.take i).filter (fun n => decide (some n ∉ pl)) ++ [n].filter (fun n => decide (some n ∉ pl)) := by
            rw [List.take_add_one, hn, List.filter_append]; rfl
          by_cases hin : some n ∈ pl
          · rw [if_neg (by simp [hin])]
            refine lc_skip hacc hl k3 ?_
            rw [tk]; simp [hin]
          · rw [if_pos (by simp [hin])]
            fail "gs"
            refine lc_add hacc hl (by omega) k3 ?_
            rw [tk]; simp [hin]
        rintro H3 acc hacc k3 rfl
        rw [List.length_map, List.take_length] at hacc
        generalize hfr : names.filter (fun n => decide (some n ∉ pl)) = fr at hacc
        have hfl : fr.length ≤ names.length := by rw [← hfr]; exact List.length_filter_le _ _
        fail "gs"
        refine g_thenO (fun σ H' => ∃ (fb : Addr) (fs : Pl), σ = [some (.ref p), some (.ref nm), some (.ref g), some (.ref fa), some (.int (0 + (j : Nat))), some (.ref fb), none] ∧ Kp [] H3 H' ∧ H' fb = some (.lst (fs.map oV)) ∧ fs = fr.map some ++ (if goals[j]? = some none then [none] else [])) ?_ fun nx2 hP => ?_
        rotate_left
        · fail "gs"
          refine g_ixT (hg1.kp k3 (by simp)) (v := oV gx) (by rw [show ((0 : Int) + (j : Nat)) = (j : Nat) by omega]; exact atI_nat (by rw [List.getElem?_map, hgx]; rfl)) ?_
          refine g_isN ?_
          have hfrO : H3 D = some (.lst ((fr.map some).map oV)) := by rw [List.map_map]; exact hacc
          cases gx with
          | none =>
            refine ⟨true, rfl, ?_⟩
            rw [if_pos rfl]
            fail "gs"
            rename_i pn hpn
            refine g_addLk ((Kp.new (S := []) hpn).at hfrO (by simp)) upd_same (sz1 (by simp; omega)) fun p6 H6 np6 k6 h6 => ?_
            fail "gs"
            exact hP _ _ ⟨p6, fr.map some ++ [none], rfl, (Kp.new hpn).trans k6, by rw [List.map_append]; exact h6, by rw [if_pos hgx]⟩
          | some s1 =>
            refine ⟨false, rfl, ?_⟩
            rw [if_neg Bool.false_ne_true]
            exact hP _ _ ⟨D, fr.map some, rfl, Kp.refl _ _, hfrO, by rw [if_neg (by rw [hgx]; simp), List.append_nil]⟩
        rintro σ H4 ⟨fb, fs, rfl, k4, hfb, hfs⟩
        have hfs2 : fs = freeL names goals pl j := by
          rw [hfs]
          unfold freeL
          rw [← hfr]
        have k34 := k3.trans k4
        fail "gs"
        intro D2 hD2
        have nD2 := ne_of_none hfb hD2
        have hp4 := hp1.kp k34 (by simp)
        have hfa4 := k34.at hfa (by simp)
        have hps4 := hps.kp0 k34
        have hjl : j < pl.length := hj
        have hfsl : fs.length ≤ names.length + 1 := by rw [hfs2]; exact free_len
        refine lc_kp (walk_list (xs := fs.map oV)) [] (fun i acc H' => ∃ qs : List Addr, acc = qs.map V.ref ∧ Pls H' qs ((fs.take i).map fun x => pl.set j x)) hD2 ⟨[], rfl, .nil⟩ (fun i acc H5 _ k5 _ => SqL.of (k5.at hfb (by simpa using nD2))) ?_ ?_
        · rintro i y H5 H6 acc hi hacc2 hl k5 ⟨qs, rfl, hqs⟩ ⟨rfl, hy⟩
          have hy : (fs.map oV)[i]? = some y := hy
          rw [List.getElem?_map] at hy
          obtain ⟨x, hx2, rfl⟩ := Option.map_eq_some_iff.mp hy
          rw [List.length_map] at hi
          have hp5 := hp4.kp (k5.drop hD2) (by simp)
          fail "gs"
          refine g_slT hp5 (fun ⟨_, h2⟩ => ?_) fun p6 hp6 => ?_
          · have h2 : (if ((0 : Int) + (j : Nat)) < 0 then (((0 : Int) + (j : Nat)) + ((pl.map oV).length : Int)).toNat else min ((0 : Int) + (j : Nat)).toNat (pl.map oV).length) = (pl.map oV).length := h2
            rw [if_neg (by omega), List.length_map] at h2
            omega
          rw [cutV_to (by omega), ← List.map_take]
          have k6 : Kp [] H6 (upd H6 p6 (.tup ((pl.take ((0 : Int) + (j : Nat)).toNat).map oV))) := Kp.new hp6
          have h6 : upd H6 p6 (.tup ((pl.take ((0 : Int) + (j : Nat)).toNat).map oV)) p6 = some (.tup ((pl.take ((0 : Int) + (j : Nat)).toNat).map oV)) := upd_same
          rw [show ((0 : Int) + (j : Nat)).toNat = j by omega] at k6 h6 ⊢
          generalize upd H6 p6 (.tup ((pl.take j).map oV)) = H7 at k6 h6 ⊢
          refine ⟨sz1 (by simp), fun p8 hp8 => ?_⟩
          have k8 : Kp [] H7 (upd H7 p8 (.tup [oV x])) := Kp.new hp8
          have h8 : upd H7 p8 (.tup [oV x]) p8 = some (.tup [oV x]) := upd_same
          generalize upd H7 p8 (.tup [oV x]) = H8 at k8 h8 ⊢
          refine g_cat (k8.at h6 (by simp)) h8 (sz1 (by simp; omega)) fun p9 H9 k9 h9 => ?_
          have hp9 := ((hp5.kp k6 (by simp)).kp k8 (by simp)).kp k9 (by simp)
          refine g_slT hp9 (fun ⟨h2, _⟩ => ?_) fun p10 hp10 => ?_
          · have h2 : (if ((0 : Int) + (j : Nat) + 1) < 0 then (((0 : Int) + (j : Nat) + 1) + ((pl.map oV).length : Int)).toNat else min ((0 : Int) + (j : Nat) + 1).toNat (pl.map oV).length) = 0 := h2
            rw [if_neg (by omega), List.length_map] at h2
            omega
          rw [cutV_from (by omega), ← List.map_drop, show ((0 : Int) + (j : Nat) + 1).toNat = j + 1 by omega]
          have k10 : Kp [] H9 (upd H9 p10 (.tup ((pl.drop (j + 1)).map oV))) := Kp.new hp10
          have h10 : upd H9 p10 (.tup ((pl.drop (j + 1)).map oV)) p10 = some (.tup ((pl.drop (j + 1)).map oV)) := upd_same
          generalize upd H9 p10 (.tup ((pl.drop (j + 1)).map oV)) = H10 at k10 h10 ⊢
          refine g_cat (k10.at h9 (by simp)) h10 (sz1 (by simp; omega)) fun p11 H11 k11 h11 => ?_
          have k611 := (((k6.trans k8).trans k9).trans k10).trans k11
          have e11 : (pl.take j).map oV ++ [oV x] ++ (pl.drop (j + 1)).map oV = (pl.set j x).map oV := by
            rw [← set_split hjl x, List.map_append, List.map_append]; rfl
          rw [e11] at h11
          have hacc11 := k611.at hacc2 (by simp)
          refine lc_add hacc11 hl (by omega) (k5.trans (k611.sub (by simp))) ⟨qs ++ [p11], by simp, ?_⟩
          have kD : Kp [D2] H11 (upd H11 D2 (.lst (qs.map V.ref ++ [.ref p11]))) := Kp.mut (by simp)
          have tupD : ∀ {b : Addr} {t : Pl}, PlAt H11 b t → PlAt (upd H11 D2 (.lst (qs.map V.ref ++ [.ref p11]))) b t := fun {b t} e => kD.at e (by
            simp only [List.mem_singleton]
            exact hne e hacc11 (fun z => by cases z))
          rw [List.take_add_one, hx2, Option.toList, List.map_append]
          exact Paired.mapP (Pls.app (hqs.kp0 k611) (.cons h11 .nil)) fun _ _ z => tupD z
        rintro H5 acc hacc2 k5 ⟨qs, rfl, hqs⟩
        rw [List.length_map, List.take_length, hfs2] at hqs
        have hql : qs.length = (freeL names goals pl j).length := by rw [hqs.len, List.length_map]
        have hpsl : ps.length ≤ 8 * 9 := by
          rw [hps.len]
          refine Nat.le_trans (further_len j) (Nat.mul_le_mul (by omega) (by omega))
        refine g_addLk (k5.at hfa4 (by simp)) hacc2 (sz1 (by rw [List.length_map, List.length_map, hql]; have := free_len (names := names) (goals := goals) (p := pl) (k := j); omega)) fun p12 H12 np12 k12 h12 => ?_
        have k1H := ((k1.trans k34).trans k5).trans k12
        refine ⟨p12, ps ++ qs, _, _, rfl, k1H, ((k1.trans k34).trans k5).free np12 (by simp), by rw [List.map_append]; exact h12, ?_⟩
        rw [rsucc, from_some hx]
        exact Pls.app ((hps4.kp0 k5).kp0 k12) (hqs.kp0 k12)
    · rintro σ H1 ⟨fa, ps, u4, u5, rfl, k1, hfa0, hfa, hps⟩
      fail "gs"
      exact q fa ps _ hfa0 k1 hfa hps
end
end Nw
namespace Nw
open PySem L2 NN
abbrev slaw_fewest : Stmt := top 25
theorem sclaw_fewest : FnScope ["_law_begin", "_law_goals", "_law_names", "_law_met", "_law_waiting", "_law_at", "_law_here", "_law_there"] ["_law_begin", "_law_goals", "_law_names"] (defScope slaw_fewest) := ⟨rfl, rfl, rfl, by decide +kernel, rfl, by decide +kernel, by decide +kernel⟩
section
variable {P : Program} {w : World} {K : PySem.W.Frag} {mg : Str → Option Value} {base : Heap} {C_Held : Addr} {C_LetGo : Addr} {C_Missing : Addr} {C_NewError : Addr} {C_NoName : Addr} {C_NoRow : Addr} {C_NoSpare : Addr} {C_Plan : Addr} {C_Twice : Addr}
theorem ok_fewest {f} {fd} (F : Fun K "_law_fewest" "_law_fewest" slaw_fewest f fd) (T : Txt K mg C_Held C_LetGo C_Missing C_NewError C_NoName C_NoRow C_NoSpare C_Plan C_Twice) (F_law_further : FnAt P w K mg base CX0 1 "_law_further" ["_law_places", "_law_names", "_law_goals"] spFurther) : FnOk P w K mg base CX0 2 f fd ["_law_begin", "_law_goals", "_law_names"] spFewest := by
  refine F.ok sclaw_fewest (fun vs H Q E h => ?_) (fun cdv A outer s H vs Q E hr h => ?_)
  · obtain ⟨b, g, nm, beg, goals, names, N, rfl, _⟩ := h
    rfl
  · obtain ⟨b, g, nm, beg, goals, names, N, rfl, hb, hg, hnm, hbl, hgl, hnl, hbn, hrch, q⟩ := h
    have hu := hu_of hr
    have hu64 : (A.deeper (PyProof.Rows.envOfC "_law_fewest" (defScope slaw_fewest) s.heap.objs.size f cdv)).units + 64 < cLine := by have := hr.un; omega
    refine ⟨_, (pss_cons (ps_set (i := 3) sclaw_fewest.nd rfl (Or.inl rfl) (NN.pe_dispP (P := P) (w := w) rfl rfl hu64 (NN.pv 0) pe_int))
      (pss_cons (ps_set (i := 4) sclaw_fewest.nd rfl (Or.inl rfl) (pe_lst (pa_cons (NN.pv 0) pa_nil)))
      (pss_cons (ps_set (i := 5) sclaw_fewest.nd rfl (Or.inl rfl) pe_int)
      (pss_cons (ps_while PassesOwn.never (pt_cmpR (NN.op_notInP (P := P) (w := w) rfl rfl hu) (NN.pv 1) (NN.pv 3) (by rfl)) (pss_cons (ps_set (i := 6) sclaw_fewest.nd rfl (Or.inl rfl) (pe_ix (NN.ix_K (K := K) rfl hu) (NN.pv 4) (NN.pv 5) (fun _ _ => rfl)))
      (pss_cons (ps_aug (i := 5) sclaw_fewest.nd rfl (.inl rfl) pe_int ip_add)
      (pss_one (ps_for PassesOwn.never rfl (NN.pi_listK (K := K) rfl (NN.pe_fn F_law_further (hr.mono (by first | decide | omega)) (pa_cons (NN.pv 6) (pa_cons (NN.pv 2) (pa_cons (NN.pv 1) pa_nil))))) (pg_name (i := 7) sclaw_fewest.nd rfl (Or.inl rfl)) (pss_one (ps_if (pt_cmpR (NN.op_notInP (P := P) (w := w) rfl rfl hu) (NN.pv 7) (NN.pv 3) (by rfl)) (pss_cons (ps_asg (pe_op NN.op_addU (pe_ix (NN.ix_P (P := P) (w := w) rfl rfl hu) (NN.pv 3) (NN.pv 6) (fun _ _ => rfl)) pe_int) (pg_sub (NN.pv 3) (NN.pv 7) (NN.set_P (P := P) (w := w) rfl rfl hu)))
      (pss_one (ps_expr (NN.pe_bmK (K := K) rfl PySem.F.plainAttrs_list PySem.F.slot_list_append PySem.F.type_list_append mt_append (NN.pv 4) (pa_cons (NN.pv 7) pa_nil))))) pss_nil)))))))
      (pss_one (ps_ret (pe_ix (NN.ix_P (P := P) (w := w) rfl rfl hu) (NN.pv 3) (NN.pv 1) (fun _ _ => rfl)))))))), ?_⟩
    refine NN.g_st [some (.ref b), some (.ref g), some (.ref nm), none, none, none, none, none] rfl ?_
    fail "g1"
    fail "gs"
    intro m hm
    refine ⟨b, beg, rfl, hb.kp (Kp.new (S := []) hm) (by simp), upd_same, ?_⟩
    have k1 : Kp [] H (upd (upd H m (dP P w m [])) m (dP P w m [(beg, b, V.int 0)])) := fun a o e _ => by rw [upd_ne (ne_of_none e hm), upd_ne (ne_of_none e hm)]; exact e
    have hd1 : upd (upd H m (dP P w m [])) m (dP P w m [(beg, b, V.int 0)]) m = some (dP P w m (kasW [(beg, b, 0)])) := upd_same
    generalize upd (upd H m (dP P w m [])) m (dP P w m [(beg, b, V.int 0)]) = H1 at k1 hd1 ⊢
    have dn1 : DN P w H1 m (kasW [(beg, b, 0)]) := ⟨hd1, fun x hx => by rw [List.mem_singleton.mp hx]; exact hb.kp k1 (by simp)⟩
    fail "g1"
    fail "gs"
    rename_i wt hwt
    have k2 : Kp [] H1 (upd H1 wt (.lst [.ref b])) := Kp.new hwt
    have hw2 : upd H1 wt (.lst [.ref b]) wt = some (.lst (([(beg, b, 0)] : Wt).map fun x => V.ref x.2.1)) := upd_same
    generalize upd H1 wt (.lst [.ref b]) = H2 at k2 hw2 ⊢
    have s2 : Srch P w H2 m wt [(beg, b, 0)] := ⟨dn1.kp k2 (by simp) (by simp), hw2⟩
    have fwt : H wt = none := k1.free hwt (by simp)
    have k02 := k1.trans k2
    fail "g1"
    fail "gs"
    have lenB : ∀ {wl : List (Pl × Nat)} {p : Nat}, Bfs (furtherL names goals) beg wl p → wl.length ≤ 4096 := fun {wl p} B => bfs_len B hbl hbn hnl hgl
    have bl : ∀ ws : Wt, (bfsW ws).length = ws.length := fun ws => by unfold bfsW; rw [List.length_map]
    have offH : ∀ {H' : Hp}, Kp [m, wt] H H' → Kp [] H H' := fun {H'} k a o e _ => k a o e (by
      simp only [List.mem_cons, List.not_mem_nil, or_false, not_or]
      exact ⟨ne_of_none e hm, ne_of_none e fwt⟩)
    refine g_while (fun mm σ H' => ∃ (ws : Wt) (p : Nat) (u6 u7 : Option V), σ = [some (.ref b), some (.ref g), some (.ref nm), some (.ref m), some (.ref wt), some (.int (p : Nat)), u6, u7] ∧ Kp [] H H' ∧ Srch P w H' m wt ws ∧ Bfs (furtherL names goals) beg (bfsW ws) p ∧ mm + p = 5000) 5000 ?_ ?_
    · exact ⟨[(beg, b, 0)], 0, _, _, rfl, k02, s2, Bfs.start _ _, rfl⟩
    · rintro mm σ H3 ⟨ws, p, u6, u7, rfl, k3, s3, B, hmm⟩
      have hg3 := hg.kp k3 (by simp)
      fail "gs"
      refine g_notInP hg3 s3.d ?_
      refine ⟨_, rfl, ?_⟩
      by_cases hin : goals ∈ (bfsW ws).map (·.1)
      · obtain ⟨D, hD⟩ := mem_fst hin
        rw [if_neg (by rw [valP_some B.nd hD]; simp)]
        fail "gs"
        refine g_ixP hg3 s3.d (valP_some B.nd hD) ?_
        fail "gs"
        exact q D H3 k3 (fun n r => B.least hD r) (B.real _ hD)
      · rw [if_pos (by rw [valP_none hin]; rfl)]
        refine g_turn ?_
        have hmore := B.more hrch hin
        rw [bl] at hmore
        obtain ⟨⟨h, hbA, d⟩, hx⟩ : ∃ x, ws[p]? = some x := ⟨_, List.getElem?_eq_getElem hmore⟩
        have hbx : (bfsW ws)[p]? = some (h, d) := by unfold bfsW; rw [List.getElem?_map, hx]; rfl
        have hh3 : PlAt H3 hbA h := s3.d.ks (h, hbA, V.int (d : Nat)) (List.mem_map.mpr ⟨_, List.mem_of_getElem? hx, rfl⟩)
        have hhu := reach_u (B.real (h, d) (List.mem_of_getElem? hbx)) hbl hbn
        have hwl := lenB B
        have hhl : h.length = goals.length := hhu.1
        fail "g1"
        fail "gs"
        refine g_ixL s3.l (v := .ref hbA) (by exact atI_nat (by rw [List.getElem?_map, hx]; rfl)) ?_
        fail "gs"
        fail "g1"
        refine NN.g_aug (x := .int (p : Nat)) rfl ?_
        refine ⟨(p : Nat), 1, rfl, rfl, ?_⟩
        fail "gs"
        refine ⟨hbA, nm, g, h, goals, names, rfl, hh3, k3.at hnm (by simp), hg3, by omega, hhu.1.symm, by omega, fun ql ps H4 hq0 k4 hq4 hps4 => ?_⟩
        refine ⟨ql, rfl, ⟨_, SqL.of hq4⟩, ?_⟩
        have s4 := s3.kp0 k4
        have nq : ql ∉ [m, wt] := by
          simp only [List.mem_cons, List.not_mem_nil, or_false, not_or]
          exact ⟨(ne_of_none s3.d.d hq0).symm, (ne_of_none s3.l hq0).symm⟩
        have hh4 := hh3.kp k4 (by simp)
        refine for_it (walk_list (xs := ps.map V.ref)) (fun j σ H' => ∃ (ws' : Wt) (u7 : Option V), σ = [some (.ref b), some (.ref g), some (.ref nm), some (.ref m), some (.ref wt), some (.int ((p : Nat) + 1)), some (.ref hbA), u7] ∧ Kp [m, wt] H4 H' ∧ Srch P w H' m wt ws' ∧ Inn (furtherL names goals) beg h d p ((furtherL names goals h).take j) (bfsW ws')) ?_ ?_ ?_ ?_
        · exact ⟨ws, _, rfl, Kp.refl _ _, s4, B.inn hbx⟩
        · rintro j σ H' _ ⟨_, _, _, k, _⟩
          exact SqL.of (k.at hq4 nq)
        · rintro j y σ H5 H6 hj ⟨ws', u7, rfl, k5, s5, I5⟩ ⟨rfl, hy⟩
          have hy : (ps.map V.ref)[j]? = some y := hy
          rw [List.getElem?_map] at hy
          obtain ⟨bt, hbt, rfl⟩ := Option.map_eq_some_iff.mp hy
          obtain ⟨t, ht, ht4⟩ := hps4.get hbt
          have htm : t ∈ furtherL names goals h := List.mem_of_getElem? ht
          have ht5 := ht4.kp k5 (s4.off ht4)
          have hh5 := hh4.kp k5 (s4.off hh4)
          have tk : (furtherL names goals h).take (j + 1) = (furtherL names goals h).take j ++ [t] := by rw [List.take_add_one, ht]; rfl
          have I6 := I5.add htm
          rw [← tk] at I6
          unfold addB at I6
          fail "gs"
          refine g_notInP ht5 s5.d ?_
          refine ⟨_, rfl, ?_⟩
          by_cases hin2 : t ∈ (bfsW ws').map (·.1)
          · obtain ⟨D, hD⟩ := mem_fst hin2
            rw [if_neg (by rw [valP_some I5.b.nd hD]; simp)]
            rw [if_pos hin2] at I6
            fail "gs"
            exact ⟨ws', _, rfl, k5, s5, I6⟩
          · rw [if_pos (by rw [valP_none hin2]; rfl)]
            rw [if_neg hin2] at I6
            have hwl5 := lenB I5.b
            rw [bl] at hwl5
            fail "g1"
            fail "gs"
            refine g_ixP hh5 s5.d (valP_some I5.b.nd (List.mem_of_getElem? I5.hp)) ?_
            fail "gs"
            refine ⟨bt, m, t, kasW ws', rfl, rfl, ht5, s5.d, valP_none hin2, sz2 (by unfold kasW; rw [List.length_map]; omega), ?_⟩
            rw [show ((d : Nat) : Int) + 1 = ((d + 1 : Nat) : Int) by omega]
            have hl6 : upd H6 m (dP P w m (kasW ws' ++ [(t, bt, V.int ((d + 1 : Nat) : Int))])) wt = some (.lst (ws'.map fun x => V.ref x.2.1)) := by rw [upd_ne s5.ne]; exact s5.l
            fail "gs"
            refine ⟨tyL hl6, g_append hl6 (sz2 (by rw [List.length_map]; omega)) ?_⟩
            fail "gs"
            refine ⟨ws' ++ [(t, bt, d + 1)], _, rfl, k5.trans ((Kp.mut (by simp)).trans (Kp.mut (by simp))), s5.add ht5, by rw [bfsW_snoc]; exact I6⟩
        · rintro σ H5 ⟨ws', u7, rfl, k5, s5, I5⟩
          rw [List.length_map, hps4.len, List.take_length] at I5
          refine ⟨mm - 1, by rw [bl] at hwl; omega, ws', p + 1, _, _, rfl, offH (((k3.trans k4).sub (by simp)).trans k5), s5, I5.bfs, by rw [bl] at hwl; omega⟩
end
end Nw
namespace Nw
open PySem L2 NN
abbrev slaw_small_pairs : Stmt := top 23
theorem sclaw_small_pairs : FnScope ["_law_state_here", "_law_held", "_law_names", "_law_movers", "_law_some", "_law_name", "_law_old"] ["_law_state_here", "_law_held"] (defScope slaw_small_pairs) := ⟨rfl, rfl, rfl, by decide +kernel, rfl, by decide +kernel, by decide +kernel⟩
section
variable {P : Program} {w : World} {K : PySem.W.Frag} {mg : Str → Option Value} {base : Heap} {C_Held : Addr} {C_LetGo : Addr} {C_Missing : Addr} {C_NewError : Addr} {C_NoName : Addr} {C_NoRow : Addr} {C_NoSpare : Addr} {C_Plan : Addr} {C_Twice : Addr}
theorem ok_small {f} {fd} (F : Fun K "_law_small_pairs" "_law_small_pairs" slaw_small_pairs f fd) (T : Txt K mg C_Held C_LetGo C_Missing C_NewError C_NoName C_NoRow C_NoSpare C_Plan C_Twice) (F_law_next : FnAt P w K mg base CX0 1 "_law_next" ["_law_state_here", "_law_size"] spNext)
    (F_law_turned : FnAt P w K mg base CX0 2 "_law_turned" ["_law_state_here", "_law_things"] spTurnedV) : FnOk P w K mg base CX0 3 f fd ["_law_state_here", "_law_held"] spSmall := by
  refine F.ok sclaw_small_pairs (fun vs H Q E h => ?_) (fun cdv A outer s H vs Q E hr h => ?_)
  · obtain ⟨st, hd, held, rfl, _⟩ := h
    rfl
  · obtain ⟨st, hd, held, rfl, hst, hhd, hhl, hnd, hh5, q⟩ := h
    have hu := hu_of hr
    have hu64 : (A.deeper (PyProof.Rows.envOfC "_law_small_pairs" (defScope slaw_small_pairs) s.heap.objs.size f cdv)).units + 64 < cLine := by have := hr.un; omega
    refine ⟨_, (pss_cons (ps_set (i := 2) sclaw_small_pairs.nd rfl (Or.inl rfl) (pe_lst (pa_cons pe_str (pa_cons pe_str (pa_cons pe_str (pa_cons pe_str (pa_cons pe_str pa_nil)))))))
      (pss_cons (ps_setLc (i := 3) (own := [("_law_name", 5)]) rfl sclaw_small_pairs.nd rfl rfl (sw_true rfl rfl rfl (by decide +kernel)) (NN.pi_listK (K := K) rfl (NN.pv 1)) (blkOk_by (own := [("_law_name", 5)]) (N := ["_law_state_here", "_law_held", "_law_names", "_law_movers", "_law_some", "_law_name", "_law_old"]) (sc := defScope slaw_small_pairs) (by decide +kernel)) (fun _ _ _ _ _ => (pg_name (i := 5) sclaw_small_pairs.nd rfl (Or.inl rfl))) (fun _ _ _ _ _ => (pts_one (pt_cmpR NN.op_gtU (NN.pe_fn F_law_next (hr.mono (by first | decide | omega)) (pa_cons (NN.pv 0) (pa_cons pe_int pa_nil))) pe_int (nomark _)))) (fun _ _ _ _ _ => (NN.pv 5)))
      (pss_cons (ps_set (i := 4) sclaw_small_pairs.nd rfl (Or.inr rfl) (NN.pe_fn F_law_turned (hr.mono (by first | decide | omega)) (pa_cons (NN.pv 0) (pa_cons (pe_op NN.op_addU (NN.pv 3) (pe_lc (own := [("_law_name", 5)]) rfl sclaw_small_pairs.nd (NN.pi_listK (K := K) rfl (NN.pv 2)) (blkOk_by (own := [("_law_name", 5)]) (N := ["_law_state_here", "_law_held", "_law_names", "_law_movers", "_law_some", "_law_name", "_law_old"]) (sc := defScope slaw_small_pairs) (by decide +kernel)) (fun _ _ _ _ _ => (pg_name (i := 5) sclaw_small_pairs.nd rfl (Or.inl rfl))) (fun _ _ _ _ _ => (pts_one (pt_cmpR (NN.op_notInK (K := K) rfl hu) (NN.pv 5) (NN.pv 1) (by rfl)))) (fun _ _ _ _ _ => (NN.pv 5)))) pa_nil))))
      (pss_one (ps_ret (pe_lc (own := [("_law_old", 6)]) rfl sclaw_small_pairs.nd (NN.pi_listK (K := K) rfl (NN.pv 3)) (blkOk_by (own := [("_law_old", 6)]) (N := ["_law_state_here", "_law_held", "_law_names", "_law_movers", "_law_some", "_law_name", "_law_old"]) (sc := defScope slaw_small_pairs) (by decide +kernel)) (fun _ _ _ _ _ => (pg_name (i := 6) sclaw_small_pairs.nd rfl (Or.inl rfl))) (fun _ _ _ _ _ => pts_nil) (fun _ _ _ _ _ => (pe_tup (pa_cons (NN.pv 6) (pa_cons (pe_ix (NN.ix_K (K := K) rfl hu) (pe_lst (pa_cons (NN.pe_bm0K (K := K) rfl PySem.F.plainAttrs_list PySem.F.slot_list_pop PySem.F.type_list_pop mt_pop (NN.pv 4)) (pa_cons pe_non pa_nil))) (pe_callTy call_int1 (by rfl) T.b_int (by decide +kernel) (pa_cons (pe_cmpR (NN.op_eqK (K := K) rfl hu64) (NN.pe_fn F_law_next (hr.mono (by first | decide | omega)) (pa_cons (NN.pv 0) (pa_cons pe_int pa_nil))) pe_int (nomark _)) pa_nil)) (fun _ _ => rfl)) pa_nil)))))))))), ?_⟩
    refine NN.g_st [some (.ref st), some (.ref hd), none, none, none, none, none] rfl ?_
    fail "g1"
    fail "gs"
    rename_i nm hnm0
    have k0 : Kp [] H (upd H nm (.lst [.str "a", .str "b", .str "c", .str "d", .str "e"])) := Kp.new hnm0
    have hnm : (upd H nm (.lst [.str "a", .str "b", .str "c", .str "d", .str "e"])) nm = some (.lst (fiveS.map V.str)) := upd_same
    generalize upd H nm (.lst [.str "a", .str "b", .str "c", .str "d", .str "e"]) = H0 at k0 hnm ⊢
    have hst0 := hst.kp k0 (by simp)
    have hhd0 := k0.at hhd (by simp)
    have five26 : fiveS.length = 5 := rfl
    -- movers
    fail "g1"
    fail "gs"
    intro D hD
    have nhD := ne_of_none hhd0 hD
    have hDst := hst0.ne hD
    have nhst : hd ≠ st := fun e => by
      obtain ⟨z, ez⟩ := hst
      rw [e, ez] at hhd
      have := congrArg (fun o : Option HO => match o with | some (.lst (x :: _)) => some x | _ => none) hhd
      cases held with
      | nil => cases this
      | cons n r => cases this
    refine lc_kp (walk_list (xs := held.map V.str)) [st] (fun i acc H' => ∃ ms : List Str, acc = ms.map V.str ∧ ms.Sublist (held.take i) ∧ St1 H' st) hD ⟨[], rfl, .slnil, hst0.upn hD⟩ (fun i acc H5 _ k5 _ => SqL.of (k5.at hhd0 (by simpa using ⟨nhD, nhst⟩))) ?_ ?_
    · rintro i x H5 H6 acc hi hacc hl k5 ⟨ms, rfl, hms, hst5⟩ ⟨rfl, hx⟩
      obtain ⟨n, hn, rfl⟩ := str_at hx
      rw [List.length_map] at hi
      fail "go"
      refine c_next hst5 (by decide) fun r H7 hr0 hr1 k7 hst7 => ?_
      have hacc7 := k7.at hacc (by simpa using hDst)
      fail "go"
      refine g_ifB (fun _ => ?_) (fun _ => ?_)
      · fail "go"
        refine lc_add hacc7 hl (by omega) (k5.trans (k7.sub (by simp))) ⟨ms ++ [n], by simp, ?_, hst7.kp (S := [D]) (Kp.mut (by simp)) (by simpa using hDst.symm)⟩
        rw [List.take_add_one, hn]
        exact hms.append (List.Sublist.refl _)
      · refine lc_skip hacc7 hl (k5.trans (k7.sub (by simp))) ⟨ms, rfl, ?_, hst7⟩
        rw [List.take_add_one]
        exact hms.trans (List.sublist_append_left ..)
    rintro H1 acc hacc k1 ⟨ms, rfl, hms, hst1⟩
    have hms' : ms.Sublist held := hms.trans (List.take_sublist ..)
    have hmsl : ms.length ≤ 4 := Nat.le_trans hms'.length_le hhl
    have nnst : nm ≠ st := fun e => hst.live (e ▸ hnm0)
    have hnm1 := k1.at hnm (by simpa using nnst)
    have hhd1 := k1.at hhd0 (by simpa using nhst)
    fail "gs"
    -- free ones
    fail "g1"
    fail "gs"
    intro D3 hD3
    have nnD3 := ne_of_none hnm1 hD3
    refine lc_kp (walk_list (xs := fiveS.map V.str)) [] (fun i acc H' => acc = ((fiveS.take i).filter fun n => decide (n ∉ held)).map V.str) hD3 rfl (fun i acc H5 _ k5 _ => SqL.of (k5.at hnm1 (by simpa using nnD3))) ?_ ?_
    · rintro i x H5 H6 acc hi hacc3 hl k5 rfl ⟨rfl, hx⟩
      obtain ⟨n, hn, rfl⟩ := str_at hx
      rw [List.length_map] at hi
      have hhd5 := (k5.drop hD3).at hhd1 (by simp)
      fail "go"
      refine g_inL hhd5 rfl (flat_strs _) ?_
      rw [inV_strs]
      refine ⟨_, rfl, ?_⟩
      by_cases e : n ∈ held
      · rw [if_neg (by simp [e])]
        refine lc_skip hacc3 hl k5 ?_
        rw [List.take_add_one, hn]
        simp [e]
      · rw [if_pos (by simp [e])]
        fail "go"
        refine lc_add hacc3 hl (by omega) k5 ?_
        rw [List.take_add_one, hn]
        simp [e]
    rintro H3 acc hacc3 k3 rfl
    rw [List.length_map, List.take_length] at hacc3
    generalize hfr : fiveS.filter (fun n => decide (n ∉ held)) = fr at hacc3
    have hfr1 : ∀ n ∈ fr, n ∈ fiveS ∧ n ∉ held := fun n hn => by rw [← hfr] at hn; simpa using hn
    have hfr2 : fr.Nodup := by rw [← hfr]; exact (show fiveS.Nodup by decide +kernel).sublist List.filter_sublist
    have hfr3 : fr.length ≤ 5 := by rw [← hfr]; exact List.length_filter_le _ _
    have hst3 := hst1.kp k3 (by simp)
    have hD3' := k3.at hacc (by simp)
    refine g_addLk hD3' hacc3 (sz1 (by simp; omega)) fun p6 H6 np6 k6 h6 => ?_
    rw [← List.map_append] at h6
    have hst6 := hst3.kp k6 (by simp)
    have hD6 := k6.at hD3' (by simp)
    have k06 : Kp [st] H H6 := ((k0.sub (by simp)).trans k1).trans ((k3.trans k6).sub (by simp))
    generalize hso : ms ++ fr = so at h6
    have hso1 : so.Nodup := by
      rw [← hso]
      exact List.nodup_append.mpr ⟨hnd.sublist hms', hfr2, fun x hx y hy e => (hfr1 y hy).2 (e ▸ hms'.subset hx)⟩
    have hso2 : ∀ n ∈ so, isName n = true ∧ (n ∈ keys (thOf held) ∨ n ∈ fiveS.take 12) ∧ (n ∈ keys (thOf held) → n ∈ ms) := fun n hn => by
      rw [keys_thOf]
      rw [← hso] at hn
      rcases List.mem_append.mp hn with h | h
      · exact ⟨five_name n (hh5 n (hms'.subset h)), .inl (hms'.subset h), fun _ => h⟩
      · exact ⟨five_name n (hfr1 n h).1, .inr (hfr1 n h).1, fun z => absurd z (hfr1 n h).2⟩
    have hso3 : ms.length ≤ so.length := by rw [← hso]; simp
    have hso4 : so.length ≤ 9 := by rw [← hso]; simp; omega
    have hth : ThG (thOf held) := ⟨by rw [keys_thOf]; exact hnd, by rw [keys_thOf]; exact fun k hk => five_name k (hh5 k hk), by unfold thOf; rw [List.length_map]; omega⟩
    fail "gs"
    refine ⟨st, p6, so.map V.str, rfl, hst6, .inl h6, by simp; omega, fun x hx => ?_, fun p7 ys H7 hp7 k7 hst7 hy hperm => ?_⟩
    · obtain ⟨n, hn, rfl⟩ := List.mem_map.mp hx
      exact .str (name_fine (hso2 n hn).1)
    obtain ⟨so2, rfl, hperm2⟩ := perm_strs hperm
    have hsol : so2.length = so.length := hperm2.length_eq
    have hD7 := k7.at hD6 (by simpa using hDst)
    have np7 := hst6.ne hp7
    have k07 := k06.trans k7
    have f7 : H p7 = none := k06.free hp7 (by simpa using np7)
    fail "gs"
    intro D4 hD4
    have hD4st := hst7.ne hD4
    have n74 := ne_of_none hy hD4
    have nD4 := ne_of_none hD7 hD4
    have nD7 : D ≠ p7 := ne_of_none hD6 hp7
    obtain ⟨prs0, hprs0⟩ : ∃ z, ms.zip (so2.reverse.map some) = z := ⟨_, rfl⟩
    have hlz : prs0.length = ms.length := by rw [← hprs0, List.length_zip, List.length_map, List.length_reverse]; omega
    have hok : PrG fiveS (thOf held) prs0 := pairs_okG hprs0 (List.Perm.refl _) hperm2 (by rw [keys_thOf]; exact hms') hth hso1 hso2 hso3
    refine lc_kp (walk_list (xs := ms.map V.str)) [st, p7] (fun i acc H' => ∃ bs : List Bool, bs.length = i ∧ AtL [p7, D4, st] H' acc ((cutN (prs0.take i) bs).map encP) ∧ St1 H' st ∧ H' p7 = some (.lst ((so2.take (so2.length - i)).map V.str))) hD4 ⟨[], rfl, .nil, hst7.upn hD4, by rw [upd_ne n74]; simpa using hy⟩
      (fun i acc H5 _ k5 _ => SqL.of (k5.at hD7 (by simp [nD4, nD7, hDst]))) ?_ ?_
    · rintro i x H8 H9 acc hi hacc hl k8 ⟨bs, hbs, hat, hst8, h78⟩ ⟨rfl, hx⟩
      obtain ⟨n, hn, rfl⟩ := str_at hx
      have hi' : i < ms.length := by simpa using hi
      have hlast : (so2.take (so2.length - i))[(so2.take (so2.length - i)).length - 1]? = so2[so2.length - 1 - i]? := by
        rw [List.length_take, Nat.min_eq_left (by omega), List.getElem?_take_of_lt (by omega)]
        congr 1; omega
      obtain ⟨m, hm⟩ : ∃ m, so2[so2.length - 1 - i]? = some m := ⟨_, List.getElem?_eq_getElem (by omega)⟩
      have hz : prs0[i]? = some (n, some m) := by
        rw [← hprs0, List.getElem?_zip_eq_some]
        refine ⟨hn, ?_⟩
        rw [List.getElem?_map, List.getElem?_reverse (by omega), hm]; rfl
      fail "gs"
      refine g_ty (tyL h78) ?_
      refine g_pop (y := .str m) h78 (by rw [List.length_map, List.getElem?_map, hlast, hm]; rfl) ?_
      have k10 : Kp [p7] H9 (upd H9 p7 (.lst ((so2.take (so2.length - i)).map V.str).dropLast)) := Kp.mut (by simp)
      have h710 : upd H9 p7 (.lst ((so2.take (so2.length - i)).map V.str).dropLast) p7 = some (.lst ((so2.take (so2.length - (i + 1))).map V.str)) := by
        have e1 : (so2.take (so2.length - i)).dropLast = so2.take (so2.length - (i + 1)) := by
          rw [List.dropLast_eq_take, List.take_take, List.length_take]
          congr 1; omega
        rw [upd_same, ← List.map_dropLast, e1]
      generalize upd H9 p7 (.lst ((so2.take (so2.length - i)).map V.str).dropLast) = H10 at k10 h710 ⊢
      have hst10 := hst8.kp k10 (by simpa using np7.symm)
      have hacc10 := k10.at hacc (by simpa using n74.symm)
      fail "gs"
      rename_i p12 hp12
      have n12 := hst10.ne hp12
      have k11 : Kp [] H10 (upd H10 p12 (.lst [.str m, .non])) := Kp.new hp12
      have h11 : upd H10 p12 (.lst [.str m, .non]) p12 = some (.lst [.str m, .non]) := upd_same
      generalize upd H10 p12 (.lst [.str m, .non]) = H11 at k11 h11 ⊢
      refine c_next (hst10.kp k11 (by simp)) (by decide) fun r2 H12 hr2 hr3 k12 hst12 => ?_
      have h12 := k12.at h11 (by simpa using n12)
      fail "go"
      obtain ⟨b, hb1⟩ : ∃ b : Bool, atI [V.str m, V.non] (if decide (V.int r2 = V.int 0) = true then (1 : Int) else 0) = some (oV (if b = true then none else some m)) := by
        cases decide (V.int r2 = V.int 0) with
        | true => exact ⟨true, rfl⟩
        | false => exact ⟨false, rfl⟩
      refine g_ixL h12 hb1 ?_
      fail "go"
      rename_i p16 hp16
      have k1012 := k11.trans (S := []) (Kp.refl _ _) |> fun _ => (k11.sub (S' := [st]) (by simp)).trans k12
      have hacc12 := k1012.at hacc10 (by simpa using hD4st)
      have h712 := k1012.at h710 (by simpa using np7)
      have n4_16 := ne_of_none hacc12 hp16
      have n7_16 := ne_of_none h712 hp16
      refine lc_add (acc := acc) (by rw [upd_ne n4_16]; exact hacc12) hl (by omega) (k8.trans ((k10.sub (by simp)).trans ((k1012.sub (by simp)).upn hp16))) ⟨bs ++ [b], by simp [hbs], ?_, (hst12.upn hp16).kp (S := [D4]) (Kp.mut (by simp)) (by simpa using hD4st.symm), by rw [upd_ne n74, upd_ne n7_16]; exact h712⟩
      have l12 : Live [p7, D4, st] H12 := fun z hz => by
        simp only [List.mem_cons, List.not_mem_nil, or_false] at hz
        rcases hz with rfl | rfl | rfl
        · exact ne_some h712
        · exact ne_some hacc12
        · exact hst12.live
      have h16 : At [p7, D4, st] (upd H12 p16 (.tup [.str n, oV (if b = true then none else some m)])) (.ref p16) (encP (n, if b = true then none else some m)) := At.newT hp16 l12 (AtL.two _ _)
      have hat2 := ((hat.kp k10 (by simp)).kp k1012 (by simp)).kp (Kp.new (S := []) (o := .tup [.str n, oV (if b = true then none else some m)]) hp16) (by simp)
      rw [List.take_add_one, hz, Option.toList_some, cutN_snoc (by rw [List.length_take, hbs, Nat.min_eq_left]; omega), List.map_append]
      exact (hat2.snoc h16).kp (Kp.mut (S := [D4]) (by simp)) (by simp)
    rintro H8 acc hacc k8 ⟨bs, hbs, hat, hst8, h78⟩
    rw [List.length_map] at hbs
    rw [List.length_map, List.take_of_length_le (by omega)] at hat
    try (fail "gs")
    refine q _ (cutN prs0 bs) H8 (fun a o e na => k8 a o (k07 a o e na) (by
      simp only [List.mem_cons, List.not_mem_nil, or_false, not_or]
      exact ⟨by simpa using na, ne_of_none e f7⟩)) hst8 (.l (by simpa using hD4st) hacc (hat.sub (by simp))) (cutN_okG (by omega) hok)
end
end Nw
namespace Nw
open PySem L2 NN
abbrev slaw : Stmt := top 26
theorem sclaw : FnScope ["_law_script", "_law_names", "_law_k", "_law_cell", "_law_state_here", "_law_held", "_law_pairs", "_law_leads", "_law_goals", "_law_rows", "_law_name"] ["_law_script"] (defScope slaw) := ⟨rfl, rfl, rfl, by decide +kernel, rfl, by decide +kernel, by decide +kernel⟩
section
variable {P : Program} {w : World} {K : PySem.W.Frag} {mg : Str → Option Value} {base : Heap} {C_Held : Addr} {C_LetGo : Addr} {C_Missing : Addr} {C_NewError : Addr} {C_NoName : Addr} {C_NoRow : Addr} {C_NoSpare : Addr} {C_Plan : Addr} {C_Twice : Addr}
theorem ok_law {f} {fd} (F : Fun K "law" "law" slaw f fd) (T : Txt K mg C_Held C_LetGo C_Missing C_NewError C_NoName C_NoRow C_NoSpare C_Plan C_Twice) (F_law_state : FnAt P w K mg base CX0 1 "_law_state" ["_law_cell", "_law_k"] spState) (F_law_next : FnAt P w K mg base CX0 1 "_law_next" ["_law_state_here", "_law_size"] spNext)
    (F_law_small_pairs : FnAt P w K mg base CX0 3 "_law_small_pairs" ["_law_state_here", "_law_held"] spSmall) (F_Plan : MkAt P w K mg base CX0 2 "Plan" C_Plan ["self", "pairs"] (spPlanInit C_Plan))
    (F_deeds : FnAt P w K mg base CX0 4 "deeds" ["plan", "names", "spare"] (qt (spDeeds C_Plan [C_NoName, C_Twice, C_Missing, C_Held, C_LetGo, C_NoSpare, C_NoRow]))) (F_law_fewest : FnAt P w K mg base CX0 2 "_law_fewest" ["_law_begin", "_law_goals", "_law_names"] spFewest) :
    FnOk P w K mg base CX0 6 f fd ["_law_script"] (spLaw K) := by
  refine F.ok sclaw (fun vs H Q E h => ?_) (fun cdv A outer sh H vs Q E hr h => ?_)
  · obtain ⟨a, ns, rfl, _⟩ := h
    rfl
  · obtain ⟨a, ns, rfl, hS, hlen, q⟩ := h
    have hu := hu_of hr
    have hu64 : (A.deeper (PyProof.Rows.envOfC "law" (defScope slaw) sh.heap.objs.size f cdv)).units + 64 < cLine := by have := hr.un; omega
    refine ⟨_, (pss_cons (ps_set (i := 1) sclaw.nd rfl (Or.inl rfl) (pe_lst (pa_cons pe_str (pa_cons pe_str (pa_cons pe_str (pa_cons pe_str (pa_cons pe_str (pa_cons pe_str (pa_cons pe_str pa_nil)))))))))
      (pss_cons (ps_for PassesOwn.never rfl (NN.pi_enumK (K := K) rfl (by rfl) T.b_enumerate (pa_cons (pe_slice (NN.sl_K (K := K) rfl) (NN.pv 0) po_none (po_some pe_int)) pa_nil)) (NN.pg_tupK (K := K) (n := 2) rfl rfl (pgs_cons (pg_name (i := 2) sclaw.nd rfl (Or.inl rfl)) (pgs_cons (pg_name (i := 3) sclaw.nd rfl (Or.inl rfl)) pgs_nil))) (pss_cons (ps_set (i := 4) sclaw.nd rfl (Or.inl rfl) (NN.pe_fn F_law_state (hr.mono (by first | decide | omega)) (pa_cons (NN.pv 3) (pa_cons (NN.pv 2) pa_nil))))
      (pss_cons (ps_set (i := 5) sclaw.nd rfl (Or.inl rfl) (pe_slice (NN.sl_K (K := K) rfl) (NN.pv 1) po_none (po_some (pe_op NN.op_addU pe_int (NN.pe_fn F_law_next (hr.mono (by first | decide | omega)) (pa_cons (NN.pv 4) (pa_cons pe_int pa_nil)))))))
      (pss_cons (ps_set (i := 6) sclaw.nd rfl (Or.inl rfl) (NN.pe_fn F_law_small_pairs (hr.mono (by first | decide | omega)) (pa_cons (NN.pv 4) (pa_cons (NN.pv 5) pa_nil))))
      (pss_cons (ps_set (i := 7) sclaw.nd rfl (Or.inr rfl) (pe_callTy (NN.call_dictK (K := K) rfl rfl) (by rfl) T.b_dict (by decide +kernel) (pa_cons (NN.pv 6) pa_nil)))
      (pss_cons (ps_set (i := 8) sclaw.nd rfl (Or.inl rfl) (pe_callTy (NN.call_tupleK (K := K) rfl) (by rfl) T.b_tuple (by decide +kernel) (pa_cons (pe_lc (own := [("_law_name", 10)]) rfl sclaw.nd (NN.pi_listK (K := K) rfl (NN.pv 5)) (blkOk_by (own := [("_law_name", 10)]) (N := ["_law_script", "_law_names", "_law_k", "_law_cell", "_law_state_here", "_law_held", "_law_pairs", "_law_leads", "_law_goals", "_law_rows", "_law_name"]) (sc := defScope slaw) (by decide +kernel)) (fun _ _ _ _ _ => (pg_name (i := 10) sclaw.nd rfl (Or.inl rfl))) (fun _ _ _ _ _ => pts_nil) (fun _ _ _ _ _ => (pe_dget2 hu (NN.pv 7) (NN.pv 10) (NN.pv 10) ⟨rfl, rfl, rfl, rfl⟩))) pa_nil)))
      (pss_cons (ps_set (i := 9) sclaw.nd rfl (Or.inl rfl) (NN.pe_fn F_deeds (hr.mono (by first | decide | omega)) (pa_cons (NN.pe_mk F_Plan (hr.mono (by first | decide | omega)) (pa_cons (NN.pv 6) pa_nil)) (pa_cons (NN.pv 5) (pa_cons pe_str pa_nil)))))
      (pss_one (ps_if (pt_cmpR (NN.op_neK (K := K) rfl hu64) (pe_callB (NN.call_lenK (K := K) rfl) (by rfl) T.b_len (by decide +kernel) (pa_cons (NN.pv 9) pa_nil)) (NN.pe_fn F_law_fewest (hr.mono (by first | decide | omega)) (pa_cons (pe_callTy (NN.call_tupleK (K := K) rfl) (by rfl) T.b_tuple (by decide +kernel) (pa_cons (NN.pv 5) pa_nil)) (pa_cons (NN.pv 8) (pa_cons (NN.pv 1) pa_nil)))) (nomark _)) (pss_one (ps_ret pe_bl)) pss_nil)))))))))
      (pss_one (ps_ret pe_bl)))), ?_⟩
    refine NN.g_st [some (.ref a), none, none, none, none, none, none, none, none, none, none] rfl ?_
    fail "g1"
    fail "gs"
    rename_i nm hnm0
    have kN : Kp [] H (upd H nm (.lst [.str "a", .str "b", .str "c", .str "d", .str "e", .str "f", .str "g"])) := Kp.new hnm0
    have hnmN : upd H nm (.lst [.str "a", .str "b", .str "c", .str "d", .str "e", .str "f", .str "g"]) nm = some (.lst (sevenS.map V.str)) := upd_same
    generalize upd H nm (.lst [.str "a", .str "b", .str "c", .str "d", .str "e", .str "f", .str "g"]) = HN at kN hnmN ⊢
    fail "g1"
    fail "gs"
    refine .inl ⟨a, ns.map V.int, rfl, kN.same.seq hS, fun p0 hp0 => ?_⟩
    rw [cutV_to (by decide), ← List.map_take]
    generalize hns : ns.take (Int.toNat 10) = ns2
    have k0 : Kp [] HN (upd HN p0 (.lst (ns2.map V.int))) := Kp.new hp0
    have hp01 : upd HN p0 (.lst (ns2.map V.int)) p0 = some (.lst (ns2.map V.int)) := upd_same
    have hnm1 := k0.at hnmN (by simp)
    generalize upd HN p0 (.lst (ns2.map V.int)) = H0 at k0 hp01 hnm1 ⊢
    refine ⟨p0, ns2.map V.int, rfl, SqL.of hp01, ?_⟩
    refine for_it (walk_enum (xs := ns2.map V.int)) (fun i σ H' => ∃ v2 v3 v4 v5 v6 v7 v8 v9 v10, σ = [some (.ref a), some (.ref nm), v2, v3, v4, v5, v6, v7, v8, v9, v10] ∧ Kp [] H0 H') ?_ ?_ ?_ ?_
    · exact ⟨none, none, none, none, none, none, none, none, none, rfl, Kp.refl _ _⟩
    · rintro i σ H1 _ ⟨_, _, _, _, _, _, _, _, _, _, k⟩
      exact SqL.of (k.at hp01 (by simp))
    · rintro i z σ H1 H2 hi ⟨v2, v3, v4, v5, v6, v7, v8, v9, v10, rfl, k⟩ ⟨p, x, y, rfl, hp, rfl, hx, hy⟩
      have k1 : Kp [] H0 (upd H1 p (.tup [x, y])) := k.upn hp
      refine g_tgt (SqT.of upd_same) rfl ?_
      obtain ⟨c, rfl⟩ := script_int hy
      cases hx
      generalize upd H1 p (.tup [V.int (i : Nat), V.int c]) = H2 at k1 ⊢
      fail "gs"
      fail "g1"
      fail "gs"
      refine c_state fun st H3 fst k3 hst3 => ?_
      have kk3 : Kp [] H0 H3 := k1.trans k3
      have fst0 : H0 st = none := k1.free fst (by simp)
      have hnm3 := kk3.at hnm1 (by simp)
      have nmst : nm ≠ st := fun e => by rw [e, fst0] at hnm1; cases hnm1
      fail "gs"
      fail "g1"
      fail "gs"
      refine c_next (n := 4) hst3 (by decide) fun rn H4 rn0 rn1 k4 hst4 => ?_
      have hnm4 := k4.at hnm3 (by simpa using nmst)
      fail "gs"
      intro hd hd0
      rw [cutV_to (by omega), ← List.map_take]
      obtain ⟨held, hheld⟩ : ∃ z, sevenS.take (1 + rn).toNat = z := ⟨_, rfl⟩
      rw [hheld]
      have k5 : Kp [] H4 (upd H4 hd (.lst (held.map V.str))) := Kp.new hd0
      have hhd : upd H4 hd (.lst (held.map V.str)) hd = some (.lst (held.map V.str)) := upd_same
      generalize upd H4 hd (.lst (held.map V.str)) = H5 at k5 hhd ⊢
      have hhl : held.length ≤ 4 := by rw [← hheld, List.length_take]; omega
      have hnd : held.Nodup := by rw [← hheld]; exact (show sevenS.Nodup by decide +kernel).sublist (List.take_sublist ..)
      have hh5 : ∀ n ∈ held, n ∈ fiveS := fun n hn => by
        rw [← hheld] at hn
        have : sevenS.take (1 + rn).toNat = (sevenS.take 4).take (1 + rn).toNat := by rw [List.take_take]; congr 1; omega
        rw [this] at hn
        exact (show ∀ n ∈ sevenS.take 4, n ∈ fiveS by decide +kernel) n (List.mem_of_mem_take hn)
      have h57 : ∀ n ∈ fiveS, n ∈ sevenS := by decide +kernel
      have hst5 := hst4.kp k5 (by simp)
      have nhst := hst4.ne hd0
      fail "gs"
      fail "g1"
      fail "gs"
      refine ⟨st, hd, held, rfl, hst5, hhd, hhl, hnd, hh5, fun x prs H6 k6 hst6 hx6 hpr => ?_⟩
      have hth : ThG (thOf held) := ⟨by rw [keys_thOf]; exact hnd, by rw [keys_thOf]; exact fun k hk => five_name k (hh5 k hk), by unfold thOf; rw [List.length_map]; omega⟩
      have hpo : PlOk prs := hpr.pl hth
      have hf : fitE prs held = none := hpr.fit (by rw [keys_thOf])
      have hks : ∀ k ∈ keys prs, k ∈ held := fun k hk => by have := hpr.olds k hk; rwa [keys_thOf] at this
      have hns5 : ∀ n ∈ NN.news prs, n ∈ fiveS := fun n hn => by
        rcases (hpr.news n hn).2.1 with h | h
        · rw [keys_thOf] at h; exact hh5 n h
        · exact List.mem_of_mem_take h
      have g5 : ("g" : Str) ∉ fiveS := by decide +kernel
      have gk : ("g" : Str) ∉ held := fun h => g5 (hh5 _ h)
      have gn : ("g" : Str) ∉ NN.news prs := fun h => g5 (hns5 _ h)
      have hrow := few_row (names := sevenS) (z := ("g" : Str)) hpo hnd hf ⟨gk, gn⟩ (fun k hk => h57 k (hh5 k (hks k hk))) (fun k hk => h57 k (hns5 k hk)) (by decide +kernel)
      obtain ⟨ax, vx, rfl, nax, hax, hvx⟩ := id hx6.isL
      have hhd6 := k6.at hhd (by simpa using nhst)
      have hnm6 := ((k5.sub (by simp)).trans k6).at hnm4 (by simpa using nmst)
      have k36 : Kp [st] H3 H6 := k4.trans ((k5.sub (by simp)).trans k6)
      -- leads, goals
      fail "gs"
      fail "g1"
      fail "gs"
      refine g_dictP hax (th := oldsD prs) (by have := hvx; rw [show prs.map encP = (oldsD prs).map encK from by unfold oldsD; rw [List.map_map]; rfl] at this; exact this) (by rw [keys_oldsD]; exact hpo.ndo) fun ld hld => ?_
      have k7 : Kp [] H6 (upd H6 ld (.dK (dS (oldsD prs)))) := Kp.new hld
      have hld1 : upd H6 ld (.dK (dS (oldsD prs))) ld = some (.dK (dS (oldsD prs))) := upd_same
      generalize upd H6 ld (.dK (dS (oldsD prs))) = H7 at k7 hld1 ⊢
      have hhd7 := k7.at hhd6 (by simp)
      fail "gs"
      fail "g1"
      fail "gs"
      intro D hD
      have nhD := ne_of_none hhd7 hD
      refine lc_kp (walk_list (xs := held.map V.str)) [] (fun i acc _ => acc = ((held.take i).map (toO prs)).map oV) hD rfl (fun i acc H5 _ k5 _ => SqL.of (k5.at hhd7 (by simpa using nhD))) ?_ ?_
      · rintro i1 y H8 H9 acc hi1 hacc hl k8 rfl ⟨rfl, hy1⟩
        obtain ⟨n, hn, rfl⟩ := str_at hy1
        rw [List.length_map] at hi1
        have hld8 := (k8.drop hD).at hld1 (by simp)
        fail "gs"
        refine ⟨ld, rfl, .inl ⟨_, .inl hld8⟩, _, DGet.s n hld8, ?_⟩
        have hg : ((lk (oldsD prs) n).getD (.str n)) = oV (toO prs n) := by rw [lk_oldsD]; exact toV_O prs n
        rw [hg]
        refine lc_add hacc hl (by omega) k8 ?_
        rw [List.take_add_one, hn]
        simp
      rintro H8 acc hacc k8 rfl
      rw [List.length_map, List.take_length] at hacc
      fail "gs"
      refine g_tupL hacc fun gp hgp => ?_
      have k9 : Kp [] H8 (upd H8 gp (.tup ((held.map (toO prs)).map oV))) := Kp.new hgp
      have hgp1 : PlAt (upd H8 gp (.tup ((held.map (toO prs)).map oV))) gp (held.map (toO prs)) := upd_same
      generalize upd H8 gp (.tup ((held.map (toO prs)).map oV)) = H9 at k9 hgp1 ⊢
      have k69 := (k7.trans k8).trans k9
      have hx9 := (hx6.kp k69 (by simp)).sub (S' := []) (by simp)
      -- the rows
      fail "gs"
      fail "g1"
      fail "gs"
      intro px dx hpx hdx hne1
      have npd : px ≠ dx := fun z => hne1 z.symm
      have k10 : Kp [] H9 (upd (upd H9 dx (.own px)) px (.ins C_Plan dx [])) := (Kp.new hdx).trans (Kp.new (by rw [upd_ne npd]; exact hpx))
      have h10 : upd (upd H9 dx (.own px)) px (.ins C_Plan dx []) px = some (.ins C_Plan dx []) := upd_same
      generalize upd (upd H9 dx (.own px)) px (.ins C_Plan dx []) = H10 at k10 h10 ⊢
      refine ⟨px, dx, .ref ax, prs, rfl, h10, (hx9.ext hpx).kp k10 (by simp), hpo, fun pa pb H11 k11 fa fb e1 e2 e3 => ?_⟩
      have k911 : Kp [] H9 H11 := fun a o e n => k11.at (k10.at e n) (by simpa using ne_of_none e hpx)
      have hplan : PlanAt [] C_Plan H11 px prs := plan_new (fun _ z => nomatch z) hpx k10 h10 fa fb e1 e2 e3
      refine ⟨rfl, ?_⟩
      have k611 := k69.trans k911
      have hhd11 := k611.at hhd6 (by simp)
      fail "gs"
      refine ⟨px, hd, prs, held, some ("g" : Str), rfl, hplan, hpo, hhd11, (fun s e => by cases e; decide +kernel), fun _ rq rws H12 hrq0 k12 hrq hrat => ?_, fun e he => by rw [spare_good hf (by decide +kernel) gk gn] at he; cases he⟩
      have hrl : rws.length = (deedsL prs (some ("g" : Str))).length := by rw [(hrat [] (fun _ z => nomatch z)).length, List.length_map]
      have k612 := k611.trans k12
      fail "gs"
      have hhd12 := k12.at hhd11 (by simp)
      refine g_tupL hhd12 fun bp hbp => ?_
      have k13 : Kp [] H12 (upd H12 bp (.tup (held.map V.str))) := Kp.new hbp
      have hbp1 : PlAt (upd H12 bp (.tup (held.map V.str))) bp (held.map some) := by
        have e : (held.map some).map oV = held.map V.str := by rw [List.map_map]; rfl
        show upd H12 bp (.tup (held.map V.str)) bp = some (.tup ((held.map some).map oV))
        rw [e]; exact upd_same
      generalize upd H12 bp (.tup (held.map V.str)) = H13 at k13 hbp1 ⊢
      have k913 := (k911.trans k12).trans k13
      have hgp13 := hgp1.kp k913 (by simp)
      have hnm13 := (k69.trans k913).at hnm6 (by simp)
      refine ⟨bp, gp, nm, held.map some, held.map (toO prs), sevenS, _, rfl, hbp1, hgp13, hnm13, by simp, by rw [List.length_map]; exact hhl, by decide, fun x hx => ?_, hrow.1, fun D H14 k14 hleast hreal => ?_⟩
      · obtain ⟨n, hn, rfl⟩ := List.mem_map.mp hx
        exact List.mem_cons_of_mem _ (List.mem_map.mpr ⟨n, h57 n (hh5 n hn), rfl⟩)
      have hD : D = rws.length := by
        have h1 := no_fewer hpo hks hnd hreal
        have h2 := hleast _ hrow.1
        have h3 := hrow.2
        omega
      refine g_neS rfl ?_
      rw [hD, decide_eq_true rfl]
      fail "gs"
      refine ⟨_, _, _, _, _, _, _, _, _, rfl, Kp.dropAll (S := [st]) kk3 (fun z hz => by rw [List.mem_singleton.mp hz]; exact fst0) (k36.trans (((k69.trans k913).trans k14).sub (by simp)))⟩
    · rintro σ H1 ⟨v2, v3, v4, v5, v6, v7, v8, v9, v10, rfl, k⟩
      fail "go"
      exact q _
end
end Nw
namespace NN
open PySem L2
theorem FnAtD.quiet {P : Program} {w : World} {K : PySem.W.Frag} {mg : Str → Option Value} {base : Heap} {k : Nat} {x : Str} {ps : List Str} {sp : Sp} (F : FnAtD P w K mg base (L2.CX P w) k x ps sp) : FnAtD P w K mg base CX0 k x ps (qt sp) := let ⟨f, fd, a, b, c, d⟩ := F; ⟨f, fd, a, b, c, quietF d⟩
end NN
namespace Nw
open PySem L2 NN
theorem all_mk {l : PySem.W.OpenLaw} {w : World} {K : PySem.W.Frag} {h : Heap} {mg : Str → Option Value} {fa : Addr} (X : K.In h) (G : h.Ns mainGlobals mg) (hfa : mg "law" = some (.ref fa))
    {C_Held : Addr}
    (aC_Held : PySem.W.nsIn K mainGlobals "Held" = some (some (.ref C_Held)))
    {C_LetGo : Addr}
    (d_LetGo : C_LetGo = 0)
    {C_Missing : Addr}
    (aC_Missing : PySem.W.nsIn K mainGlobals "Missing" = some (some (.ref C_Missing)))
    {C_NewError : Addr}
    (aC_NewError : PySem.W.nsIn K mainGlobals "NewError" = some (some (.ref C_NewError)))
    {C_NoName : Addr}
    (aC_NoName : PySem.W.nsIn K mainGlobals "NoName" = some (some (.ref C_NoName)))
    {C_NoRow : Addr}
    (d_NoRow : C_NoRow = 0)
    {C_NoSpare : Addr}
    (aC_NoSpare : PySem.W.nsIn K mainGlobals "NoSpare" = some (some (.ref C_NoSpare)))
    {C_Plan : Addr}
    (aC_Plan : PySem.W.nsIn K mainGlobals "Plan" = some (some (.ref C_Plan)))
    {C_Twice : Addr}
    (aC_Twice : PySem.W.nsIn K mainGlobals "Twice" = some (some (.ref C_Twice)))
    {f_is_name : Addr} {od_is_name an_is_name : Option Addr} {sl_is_name : Array (Option Value)} {oc_is_name kV_is_name dc_is_name pm_is_name cd_is_name ct_is_name : Value}
    (a_is_name : PySem.W.nsIn K mainGlobals "is_name" = some (some (.ref f_is_name)))
    (l_is_name : K.lookup f_is_name = some ⟨oc_is_name, od_is_name, .func (PySem.W.fnOf "is_name" "is_name" (defArgs sis_name) (defBody sis_name) (defScope sis_name) .none kV_is_name dc_is_name pm_is_name an_is_name cd_is_name ct_is_name), sl_is_name⟩)
    (c_is_name : PySem.W.codeIn K cd_is_name "is_name" = true)
    (k_is_name : PySem.W.keepIn K (.ref f_is_name) = true)
    {f_law_state : Addr} {od_law_state an_law_state : Option Addr} {sl_law_state : Array (Option Value)} {oc_law_state kV_law_state dc_law_state pm_law_state cd_law_state ct_law_state : Value}
    (a_law_state : PySem.W.nsIn K mainGlobals "_law_state" = some (some (.ref f_law_state)))
    (l_law_state : K.lookup f_law_state = some ⟨oc_law_state, od_law_state, .func (PySem.W.fnOf "_law_state" "_law_state" (defArgs slaw_state) (defBody slaw_state) (defScope slaw_state) .none kV_law_state dc_law_state pm_law_state an_law_state cd_law_state ct_law_state), sl_law_state⟩)
    (c_law_state : PySem.W.codeIn K cd_law_state "_law_state" = true)
    (k_law_state : PySem.W.keepIn K (.ref f_law_state) = true)
    {f_law_next : Addr} {od_law_next an_law_next : Option Addr} {sl_law_next : Array (Option Value)} {oc_law_next kV_law_next dc_law_next pm_law_next cd_law_next ct_law_next : Value}
    (a_law_next : PySem.W.nsIn K mainGlobals "_law_next" = some (some (.ref f_law_next)))
    (l_law_next : K.lookup f_law_next = some ⟨oc_law_next, od_law_next, .func (PySem.W.fnOf "_law_next" "_law_next" (defArgs slaw_next) (defBody slaw_next) (defScope slaw_next) .none kV_law_next dc_law_next pm_law_next an_law_next cd_law_next ct_law_next), sl_law_next⟩)
    (c_law_next : PySem.W.codeIn K cd_law_next "_law_next" = true)
    (k_law_next : PySem.W.keepIn K (.ref f_law_next) = true)
    {f_law_turned : Addr} {od_law_turned an_law_turned : Option Addr} {sl_law_turned : Array (Option Value)} {oc_law_turned kV_law_turned dc_law_turned pm_law_turned cd_law_turned ct_law_turned : Value}
    (a_law_turned : PySem.W.nsIn K mainGlobals "_law_turned" = some (some (.ref f_law_turned)))
    (l_law_turned : K.lookup f_law_turned = some ⟨oc_law_turned, od_law_turned, .func (PySem.W.fnOf "_law_turned" "_law_turned" (defArgs slaw_turned) (defBody slaw_turned) (defScope slaw_turned) .none kV_law_turned dc_law_turned pm_law_turned an_law_turned cd_law_turned ct_law_turned), sl_law_turned⟩)
    (c_law_turned : PySem.W.codeIn K cd_law_turned "_law_turned" = true)
    (k_law_turned : PySem.W.keepIn K (.ref f_law_turned) = true)
    {f_Missing___init__ : Addr} {od_Missing___init__ an_Missing___init__ : Option Addr} {sl_Missing___init__ : Array (Option Value)} {oc_Missing___init__ kV_Missing___init__ dc_Missing___init__ pm_Missing___init__ cd_Missing___init__ ct_Missing___init__ : Value}
    (a_Missing___init__ : PySem.W.findIn K (.ref C_Missing) "__init__" = some (some (.ref f_Missing___init__)))
    (i_Missing___init__ : PySem.W.isFn K (.ref f_Missing___init__) = true)
    (l_Missing___init__ : K.lookup f_Missing___init__ = some ⟨oc_Missing___init__, od_Missing___init__, .func (PySem.W.fnOf "__init__" "Missing.__init__" (defArgs sMissing___init__) (defBody sMissing___init__) (defScope sMissing___init__) .none kV_Missing___init__ dc_Missing___init__ pm_Missing___init__ an_Missing___init__ cd_Missing___init__ ct_Missing___init__), sl_Missing___init__⟩)
    (c_Missing___init__ : PySem.W.codeIn K cd_Missing___init__ "Missing.__init__" = true)
    (k_Missing___init__ : PySem.W.keepIn K (.ref f_Missing___init__) = true)
    {f_Held___init__ : Addr} {od_Held___init__ an_Held___init__ : Option Addr} {sl_Held___init__ : Array (Option Value)} {oc_Held___init__ kV_Held___init__ dc_Held___init__ pm_Held___init__ cd_Held___init__ ct_Held___init__ : Value}
    (a_Held___init__ : PySem.W.findIn K (.ref C_Held) "__init__" = some (some (.ref f_Held___init__)))
    (i_Held___init__ : PySem.W.isFn K (.ref f_Held___init__) = true)
    (l_Held___init__ : K.lookup f_Held___init__ = some ⟨oc_Held___init__, od_Held___init__, .func (PySem.W.fnOf "__init__" "Held.__init__" (defArgs sHeld___init__) (defBody sHeld___init__) (defScope sHeld___init__) .none kV_Held___init__ dc_Held___init__ pm_Held___init__ an_Held___init__ cd_Held___init__ ct_Held___init__), sl_Held___init__⟩)
    (c_Held___init__ : PySem.W.codeIn K cd_Held___init__ "Held.__init__" = true)
    (k_Held___init__ : PySem.W.keepIn K (.ref f_Held___init__) = true)
    {f_NoSpare___init__ : Addr} {od_NoSpare___init__ an_NoSpare___init__ : Option Addr} {sl_NoSpare___init__ : Array (Option Value)} {oc_NoSpare___init__ kV_NoSpare___init__ dc_NoSpare___init__ pm_NoSpare___init__ cd_NoSpare___init__ ct_NoSpare___init__ : Value}
    (a_NoSpare___init__ : PySem.W.findIn K (.ref C_NoSpare) "__init__" = some (some (.ref f_NoSpare___init__)))
    (i_NoSpare___init__ : PySem.W.isFn K (.ref f_NoSpare___init__) = true)
    (l_NoSpare___init__ : K.lookup f_NoSpare___init__ = some ⟨oc_NoSpare___init__, od_NoSpare___init__, .func (PySem.W.fnOf "__init__" "NoSpare.__init__" (defArgs sNoSpare___init__) (defBody sNoSpare___init__) (defScope sNoSpare___init__) .none kV_NoSpare___init__ dc_NoSpare___init__ pm_NoSpare___init__ an_NoSpare___init__ cd_NoSpare___init__ ct_NoSpare___init__), sl_NoSpare___init__⟩)
    (c_NoSpare___init__ : PySem.W.codeIn K cd_NoSpare___init__ "NoSpare.__init__" = true)
    (k_NoSpare___init__ : PySem.W.keepIn K (.ref f_NoSpare___init__) = true)
    {f_Plan___init__ : Addr} {od_Plan___init__ an_Plan___init__ : Option Addr} {sl_Plan___init__ : Array (Option Value)} {oc_Plan___init__ kV_Plan___init__ dc_Plan___init__ pm_Plan___init__ cd_Plan___init__ ct_Plan___init__ : Value}
    (a_Plan___init__ : PySem.W.findIn K (.ref C_Plan) "__init__" = some (some (.ref f_Plan___init__)))
    (i_Plan___init__ : PySem.W.isFn K (.ref f_Plan___init__) = true)
    (l_Plan___init__ : K.lookup f_Plan___init__ = some ⟨oc_Plan___init__, od_Plan___init__, .func (PySem.W.fnOf "__init__" "Plan.__init__" (defArgs sPlan___init__) (defBody sPlan___init__) (defScope sPlan___init__) .none kV_Plan___init__ dc_Plan___init__ pm_Plan___init__ an_Plan___init__ cd_Plan___init__ ct_Plan___init__), sl_Plan___init__⟩)
    (c_Plan___init__ : PySem.W.codeIn K cd_Plan___init__ "Plan.__init__" = true)
    (k_Plan___init__ : PySem.W.keepIn K (.ref f_Plan___init__) = true)
    {f_Plan_pairs : Addr} {od_Plan_pairs an_Plan_pairs : Option Addr} {sl_Plan_pairs : Array (Option Value)} {oc_Plan_pairs kV_Plan_pairs dc_Plan_pairs pm_Plan_pairs cd_Plan_pairs ct_Plan_pairs : Value}
    (a_Plan_pairs : PySem.W.findIn K (.ref C_Plan) "pairs" = some (some (.ref f_Plan_pairs)))
    (i_Plan_pairs : PySem.W.isFn K (.ref f_Plan_pairs) = true)
    (l_Plan_pairs : K.lookup f_Plan_pairs = some ⟨oc_Plan_pairs, od_Plan_pairs, .func (PySem.W.fnOf "pairs" "Plan.pairs" (defArgs sPlan_pairs) (defBody sPlan_pairs) (defScope sPlan_pairs) .none kV_Plan_pairs dc_Plan_pairs pm_Plan_pairs an_Plan_pairs cd_Plan_pairs ct_Plan_pairs), sl_Plan_pairs⟩)
    (c_Plan_pairs : PySem.W.codeIn K cd_Plan_pairs "Plan.pairs" = true)
    (k_Plan_pairs : PySem.W.keepIn K (.ref f_Plan_pairs) = true)
    {f_Plan_olds : Addr} {od_Plan_olds an_Plan_olds : Option Addr} {sl_Plan_olds : Array (Option Value)} {oc_Plan_olds kV_Plan_olds dc_Plan_olds pm_Plan_olds cd_Plan_olds ct_Plan_olds : Value}
    (a_Plan_olds : PySem.W.findIn K (.ref C_Plan) "olds" = some (some (.ref f_Plan_olds)))
    (i_Plan_olds : PySem.W.isFn K (.ref f_Plan_olds) = true)
    (l_Plan_olds : K.lookup f_Plan_olds = some ⟨oc_Plan_olds, od_Plan_olds, .func (PySem.W.fnOf "olds" "Plan.olds" (defArgs sPlan_olds) (defBody sPlan_olds) (defScope sPlan_olds) .none kV_Plan_olds dc_Plan_olds pm_Plan_olds an_Plan_olds cd_Plan_olds ct_Plan_olds), sl_Plan_olds⟩)
    (c_Plan_olds : PySem.W.codeIn K cd_Plan_olds "Plan.olds" = true)
    (k_Plan_olds : PySem.W.keepIn K (.ref f_Plan_olds) = true)
    {f_Plan_news : Addr} {od_Plan_news an_Plan_news : Option Addr} {sl_Plan_news : Array (Option Value)} {oc_Plan_news kV_Plan_news dc_Plan_news pm_Plan_news cd_Plan_news ct_Plan_news : Value}
    (a_Plan_news : PySem.W.findIn K (.ref C_Plan) "news" = some (some (.ref f_Plan_news)))
    (i_Plan_news : PySem.W.isFn K (.ref f_Plan_news) = true)
    (l_Plan_news : K.lookup f_Plan_news = some ⟨oc_Plan_news, od_Plan_news, .func (PySem.W.fnOf "news" "Plan.news" (defArgs sPlan_news) (defBody sPlan_news) (defScope sPlan_news) .none kV_Plan_news dc_Plan_news pm_Plan_news an_Plan_news cd_Plan_news ct_Plan_news), sl_Plan_news⟩)
    (c_Plan_news : PySem.W.codeIn K cd_Plan_news "Plan.news" = true)
    (k_Plan_news : PySem.W.keepIn K (.ref f_Plan_news) = true)
    {f_Plan_rings : Addr} {od_Plan_rings an_Plan_rings : Option Addr} {sl_Plan_rings : Array (Option Value)} {oc_Plan_rings kV_Plan_rings dc_Plan_rings pm_Plan_rings cd_Plan_rings ct_Plan_rings : Value}
    (a_Plan_rings : PySem.W.findIn K (.ref C_Plan) "rings" = some (some (.ref f_Plan_rings)))
    (i_Plan_rings : PySem.W.isFn K (.ref f_Plan_rings) = true)
    (l_Plan_rings : K.lookup f_Plan_rings = some ⟨oc_Plan_rings, od_Plan_rings, .func (PySem.W.fnOf "rings" "Plan.rings" (defArgs sPlan_rings) (defBody sPlan_rings) (defScope sPlan_rings) .none kV_Plan_rings dc_Plan_rings pm_Plan_rings an_Plan_rings cd_Plan_rings ct_Plan_rings), sl_Plan_rings⟩)
    (c_Plan_rings : PySem.W.codeIn K cd_Plan_rings "Plan.rings" = true)
    (k_Plan_rings : PySem.W.keepIn K (.ref f_Plan_rings) = true)
    {f_fits : Addr} {od_fits an_fits : Option Addr} {sl_fits : Array (Option Value)} {oc_fits kV_fits dc_fits pm_fits cd_fits ct_fits : Value}
    (a_fits : PySem.W.nsIn K mainGlobals "fits" = some (some (.ref f_fits)))
    (l_fits : K.lookup f_fits = some ⟨oc_fits, od_fits, .func (PySem.W.fnOf "fits" "fits" (defArgs sfits) (defBody sfits) (defScope sfits) .none kV_fits dc_fits pm_fits an_fits cd_fits ct_fits), sl_fits⟩)
    (c_fits : PySem.W.codeIn K cd_fits "fits" = true)
    (k_fits : PySem.W.keepIn K (.ref f_fits) = true)
    {f_need_spare : Addr} {od_need_spare an_need_spare : Option Addr} {sl_need_spare : Array (Option Value)} {oc_need_spare kV_need_spare dc_need_spare pm_need_spare cd_need_spare ct_need_spare : Value}
    (a_need_spare : PySem.W.nsIn K mainGlobals "need_spare" = some (some (.ref f_need_spare)))
    (l_need_spare : K.lookup f_need_spare = some ⟨oc_need_spare, od_need_spare, .func (PySem.W.fnOf "need_spare" "need_spare" (defArgs sneed_spare) (defBody sneed_spare) (defScope sneed_spare) .none kV_need_spare dc_need_spare pm_need_spare an_need_spare cd_need_spare ct_need_spare), sl_need_spare⟩)
    (c_need_spare : PySem.W.codeIn K cd_need_spare "need_spare" = true)
    (k_need_spare : PySem.W.keepIn K (.ref f_need_spare) = true)
    {f_chain_to : Addr} {od_chain_to an_chain_to : Option Addr} {sl_chain_to : Array (Option Value)} {oc_chain_to kV_chain_to dc_chain_to pm_chain_to cd_chain_to ct_chain_to : Value}
    (a_chain_to : PySem.W.nsIn K mainGlobals "chain_to" = some (some (.ref f_chain_to)))
    (l_chain_to : K.lookup f_chain_to = some ⟨oc_chain_to, od_chain_to, .func (PySem.W.fnOf "chain_to" "chain_to" (defArgs schain_to) (defBody schain_to) (defScope schain_to) .none kV_chain_to dc_chain_to pm_chain_to an_chain_to cd_chain_to ct_chain_to), sl_chain_to⟩)
    (c_chain_to : PySem.W.codeIn K cd_chain_to "chain_to" = true)
    (k_chain_to : PySem.W.keepIn K (.ref f_chain_to) = true)
    {f_ring_deeds : Addr} {od_ring_deeds an_ring_deeds : Option Addr} {sl_ring_deeds : Array (Option Value)} {oc_ring_deeds kV_ring_deeds dc_ring_deeds pm_ring_deeds cd_ring_deeds ct_ring_deeds : Value}
    (a_ring_deeds : PySem.W.nsIn K mainGlobals "ring_deeds" = some (some (.ref f_ring_deeds)))
    (l_ring_deeds : K.lookup f_ring_deeds = some ⟨oc_ring_deeds, od_ring_deeds, .func (PySem.W.fnOf "ring_deeds" "ring_deeds" (defArgs sring_deeds) (defBody sring_deeds) (defScope sring_deeds) .none kV_ring_deeds dc_ring_deeds pm_ring_deeds an_ring_deeds cd_ring_deeds ct_ring_deeds), sl_ring_deeds⟩)
    (c_ring_deeds : PySem.W.codeIn K cd_ring_deeds "ring_deeds" = true)
    (k_ring_deeds : PySem.W.keepIn K (.ref f_ring_deeds) = true)
    {f_deeds_by : Addr} {od_deeds_by an_deeds_by : Option Addr} {sl_deeds_by : Array (Option Value)} {oc_deeds_by kV_deeds_by dc_deeds_by pm_deeds_by cd_deeds_by ct_deeds_by : Value}
    (a_deeds_by : PySem.W.nsIn K mainGlobals "deeds_by" = some (some (.ref f_deeds_by)))
    (l_deeds_by : K.lookup f_deeds_by = some ⟨oc_deeds_by, od_deeds_by, .func (PySem.W.fnOf "deeds_by" "deeds_by" (defArgs sdeeds_by) (defBody sdeeds_by) (defScope sdeeds_by) .none kV_deeds_by dc_deeds_by pm_deeds_by an_deeds_by cd_deeds_by ct_deeds_by), sl_deeds_by⟩)
    (c_deeds_by : PySem.W.codeIn K cd_deeds_by "deeds_by" = true)
    (k_deeds_by : PySem.W.keepIn K (.ref f_deeds_by) = true)
    {f_deeds : Addr} {od_deeds an_deeds : Option Addr} {sl_deeds : Array (Option Value)} {oc_deeds kV_deeds dc_deeds pm_deeds cd_deeds ct_deeds : Value}
    (a_deeds : PySem.W.nsIn K mainGlobals "deeds" = some (some (.ref f_deeds)))
    {dT_deeds dn_deeds : Nat} {dd_deeds : Option Addr} {dl_deeds : Array (Option Value)} {do_deeds : Value}
    (l_deeds : K.lookup f_deeds = some ⟨oc_deeds, od_deeds, .func (PySem.W.fnOf "deeds" "deeds" (defArgs sdeeds) (defBody sdeeds) (defScope sdeeds) (.ref dT_deeds) kV_deeds dc_deeds pm_deeds an_deeds cd_deeds ct_deeds), sl_deeds⟩)
    (df_deeds : K.lookup dT_deeds = some ⟨do_deeds, dd_deeds, .seq #[.none] dn_deeds, dl_deeds⟩)
    (c_deeds : PySem.W.codeIn K cd_deeds "deeds" = true)
    (k_deeds : PySem.W.keepIn K (.ref f_deeds) = true)
    {f_law_small_pairs : Addr} {od_law_small_pairs an_law_small_pairs : Option Addr} {sl_law_small_pairs : Array (Option Value)} {oc_law_small_pairs kV_law_small_pairs dc_law_small_pairs pm_law_small_pairs cd_law_small_pairs ct_law_small_pairs : Value}
    (a_law_small_pairs : PySem.W.nsIn K mainGlobals "_law_small_pairs" = some (some (.ref f_law_small_pairs)))
    (l_law_small_pairs : K.lookup f_law_small_pairs = some ⟨oc_law_small_pairs, od_law_small_pairs, .func (PySem.W.fnOf "_law_small_pairs" "_law_small_pairs" (defArgs slaw_small_pairs) (defBody slaw_small_pairs) (defScope slaw_small_pairs) .none kV_law_small_pairs dc_law_small_pairs pm_law_small_pairs an_law_small_pairs cd_law_small_pairs ct_law_small_pairs), sl_law_small_pairs⟩)
    (c_law_small_pairs : PySem.W.codeIn K cd_law_small_pairs "_law_small_pairs" = true)
    (k_law_small_pairs : PySem.W.keepIn K (.ref f_law_small_pairs) = true)
    {f_law_further : Addr} {od_law_further an_law_further : Option Addr} {sl_law_further : Array (Option Value)} {oc_law_further kV_law_further dc_law_further pm_law_further cd_law_further ct_law_further : Value}
    (a_law_further : PySem.W.nsIn K mainGlobals "_law_further" = some (some (.ref f_law_further)))
    (l_law_further : K.lookup f_law_further = some ⟨oc_law_further, od_law_further, .func (PySem.W.fnOf "_law_further" "_law_further" (defArgs slaw_further) (defBody slaw_further) (defScope slaw_further) .none kV_law_further dc_law_further pm_law_further an_law_further cd_law_further ct_law_further), sl_law_further⟩)
    (c_law_further : PySem.W.codeIn K cd_law_further "_law_further" = true)
    (k_law_further : PySem.W.keepIn K (.ref f_law_further) = true)
    {f_law_fewest : Addr} {od_law_fewest an_law_fewest : Option Addr} {sl_law_fewest : Array (Option Value)} {oc_law_fewest kV_law_fewest dc_law_fewest pm_law_fewest cd_law_fewest ct_law_fewest : Value}
    (a_law_fewest : PySem.W.nsIn K mainGlobals "_law_fewest" = some (some (.ref f_law_fewest)))
    (l_law_fewest : K.lookup f_law_fewest = some ⟨oc_law_fewest, od_law_fewest, .func (PySem.W.fnOf "_law_fewest" "_law_fewest" (defArgs slaw_fewest) (defBody slaw_fewest) (defScope slaw_fewest) .none kV_law_fewest dc_law_fewest pm_law_fewest an_law_fewest cd_law_fewest ct_law_fewest), sl_law_fewest⟩)
    (c_law_fewest : PySem.W.codeIn K cd_law_fewest "_law_fewest" = true)
    (k_law_fewest : PySem.W.keepIn K (.ref f_law_fewest) = true)
    {f_law : Addr} {od_law an_law : Option Addr} {sl_law : Array (Option Value)} {oc_law kV_law dc_law pm_law cd_law ct_law : Value}
    (a_law : PySem.W.nsIn K mainGlobals "law" = some (some (.ref f_law)))
    (l_law : K.lookup f_law = some ⟨oc_law, od_law, .func (PySem.W.fnOf "law" "law" (defArgs slaw) (defBody slaw) (defScope slaw) .none kV_law dc_law pm_law an_law cd_law ct_law), sl_law⟩)
    (c_law : PySem.W.codeIn K cd_law "law" = true)
    (k_law : PySem.W.keepIn K (.ref f_law) = true)
    (pg_Plan : PySem.W.plainGet K C_Plan Str.empty = true)
    (hd_Plan : PySem.W.hasDictIn K C_Plan = true)
    (po_Plan : PySem.W.plainOver K C_Plan = true)
    (sa_Plan : PySem.W.findIn K (.ref C_Plan) "__setattr__" = some (some (.builtin "object.__setattr__")))
    (mk_Plan : PySem.W.makesIn K C_Plan = true)
    (kc_Plan : PySem.W.keepIn K (.ref C_Plan) = true)
    (n_Plan_by_olds : PySem.W.findIn K (.ref C_Plan) "by_olds" = some none)
    (n_Plan_by_news : PySem.W.findIn K (.ref C_Plan) "by_news" = some none)
    {t_LETTERS : Tok}
    (g_LETTERS : PySem.W.nsIn K mainGlobals "LETTERS" = some (some (.str "abcdefghijklmnopqrstuvwxyz" t_LETTERS)))
    {t_LONGEST : Tok}
    (g_LONGEST : PySem.W.nsIn K mainGlobals "LONGEST" = some (some (.int 8 t_LONGEST)))
    (eg_hn : PySem.W.specialIn K (.builtin "object.__class__") "__get__" = some (some (.builtin "getset_descriptor.__get__")))
    (eg_ht : PySem.W.takesIn K (.builtin "object.__class__") = some true)
    (en_sb : PySem.W.subIn K (.ref C_NewError) (.type "BaseException") = some true)
    (en_hd : PySem.W.hasDictIn K C_NewError = true)
    (en_ty : PySem.W.typeIn K (.ref C_NewError) = some (.type "type"))
    (en_ga : PySem.W.specialIn K (.ref C_NewError) "__getattribute__" = some (some (.builtin "type.__getattribute__")))
    (en_rd : PySem.W.readsIn K C_NewError (.type "type") = true)
    (en_at : PySem.W.findCls K (.ref C_NewError) (.type "type") "__init__" = some (.val (.builtin "ValueError.__init__")))
    (eNoName_hg : PySem.W.findIn K (.ref C_NoName) "__getattribute__" = some (some (.builtin "BaseException.__getattribute__")))
    (eNoName_hk : PySem.W.findIn K (.ref C_NoName) "__getattr__" = some none)
    (eNoName_hs : PySem.W.subIn K (.ref C_NoName) (.type "BaseException") = some true)
    (eNoName_hd : PySem.W.hasDictIn K C_NoName = true)
    (eNoName_ha : PySem.W.findIn K (.ref C_NoName) "__class__" = some (some (.builtin "object.__class__")))
    (eNoName_hm : PySem.W.mroIn K C_NoName (.type "object") = some true)
    (eNoName_cls : PySem.W.isClsIn K C_NoName = true)
    (eNoName_ty : PySem.W.typeIn K (.ref C_NoName) = some (.type "type"))
    (eNoName_ve : PySem.W.subIn K (.ref C_NoName) (.type "ValueError") = some true)
    (eNoName_no : PySem.W.findIn K (.ref C_NoName) "name" = some none)
    (eNoName_sn : PySem.W.subIn K (.ref C_NoName) (.ref C_NewError) = some true)
    (eNoName_k : PySem.W.keepIn K (.ref C_NoName) = true)
    (es_NoName_NoName : PySem.W.subIn K (.ref C_NoName) (.ref C_NoName) = some true)
    (es_NoName_Twice : PySem.W.subIn K (.ref C_NoName) (.ref C_Twice) = some false)
    (es_NoName_Missing : PySem.W.subIn K (.ref C_NoName) (.ref C_Missing) = some false)
    (es_NoName_Held : PySem.W.subIn K (.ref C_NoName) (.ref C_Held) = some false)
    (es_NoName_NoSpare : PySem.W.subIn K (.ref C_NoName) (.ref C_NoSpare) = some false)
    (eNoName_x : PySem.W.excIn K C_NoName [.type "ValueError", .type "Exception", .type "BaseException", .type "object"] "ValueError.__new__" = true)
    (eTwice_hg : PySem.W.findIn K (.ref C_Twice) "__getattribute__" = some (some (.builtin "BaseException.__getattribute__")))
    (eTwice_hk : PySem.W.findIn K (.ref C_Twice) "__getattr__" = some none)
    (eTwice_hs : PySem.W.subIn K (.ref C_Twice) (.type "BaseException") = some true)
    (eTwice_hd : PySem.W.hasDictIn K C_Twice = true)
    (eTwice_ha : PySem.W.findIn K (.ref C_Twice) "__class__" = some (some (.builtin "object.__class__")))
    (eTwice_hm : PySem.W.mroIn K C_Twice (.type "object") = some true)
    (eTwice_cls : PySem.W.isClsIn K C_Twice = true)
    (eTwice_ty : PySem.W.typeIn K (.ref C_Twice) = some (.type "type"))
    (eTwice_ve : PySem.W.subIn K (.ref C_Twice) (.type "ValueError") = some true)
    (eTwice_no : PySem.W.findIn K (.ref C_Twice) "name" = some none)
    (eTwice_sn : PySem.W.subIn K (.ref C_Twice) (.ref C_NewError) = some true)
    (eTwice_k : PySem.W.keepIn K (.ref C_Twice) = true)
    (es_Twice_NoName : PySem.W.subIn K (.ref C_Twice) (.ref C_NoName) = some false)
    (es_Twice_Twice : PySem.W.subIn K (.ref C_Twice) (.ref C_Twice) = some true)
    (es_Twice_Missing : PySem.W.subIn K (.ref C_Twice) (.ref C_Missing) = some false)
    (es_Twice_Held : PySem.W.subIn K (.ref C_Twice) (.ref C_Held) = some false)
    (es_Twice_NoSpare : PySem.W.subIn K (.ref C_Twice) (.ref C_NoSpare) = some false)
    {q0_Twice q1_Twice : Str} {q2_Twice : Addr} {q3_Twice : List Value} {q4_Twice : List Str} {q5_Twice : List Value} {q6_Twice : Bool} {q7_Twice : Option Bool} {q8_Twice : Option Addr} {r0_Twice r1_Twice r2_Twice r3_Twice r5_Twice : Option Value}
    (eTwice_lk : K.lookup C_Twice = some (excClassObj q0_Twice q1_Twice C_Twice q2_Twice q3_Twice [.ref C_NewError, .type "ValueError", .type "Exception", .type "BaseException", .type "object"] true q4_Twice q5_Twice q6_Twice q7_Twice q8_Twice r0_Twice r1_Twice r2_Twice r3_Twice r5_Twice "ValueError.__new__"))
    (eTwice_sa : PySem.W.findIn K (.ref C_Twice) "__setattr__" = some (some (.builtin "object.__setattr__")))
    (eMissing_hg : PySem.W.findIn K (.ref C_Missing) "__getattribute__" = some (some (.builtin "BaseException.__getattribute__")))
    (eMissing_hk : PySem.W.findIn K (.ref C_Missing) "__getattr__" = some none)
    (eMissing_hs : PySem.W.subIn K (.ref C_Missing) (.type "BaseException") = some true)
    (eMissing_hd : PySem.W.hasDictIn K C_Missing = true)
    (eMissing_ha : PySem.W.findIn K (.ref C_Missing) "__class__" = some (some (.builtin "object.__class__")))
    (eMissing_hm : PySem.W.mroIn K C_Missing (.type "object") = some true)
    (eMissing_cls : PySem.W.isClsIn K C_Missing = true)
    (eMissing_ty : PySem.W.typeIn K (.ref C_Missing) = some (.type "type"))
    (eMissing_ve : PySem.W.subIn K (.ref C_Missing) (.type "ValueError") = some true)
    (eMissing_no : PySem.W.findIn K (.ref C_Missing) "name" = some none)
    (eMissing_sn : PySem.W.subIn K (.ref C_Missing) (.ref C_NewError) = some true)
    (eMissing_k : PySem.W.keepIn K (.ref C_Missing) = true)
    (es_Missing_NoName : PySem.W.subIn K (.ref C_Missing) (.ref C_NoName) = some false)
    (es_Missing_Twice : PySem.W.subIn K (.ref C_Missing) (.ref C_Twice) = some false)
    (es_Missing_Missing : PySem.W.subIn K (.ref C_Missing) (.ref C_Missing) = some true)
    (es_Missing_Held : PySem.W.subIn K (.ref C_Missing) (.ref C_Held) = some false)
    (es_Missing_NoSpare : PySem.W.subIn K (.ref C_Missing) (.ref C_NoSpare) = some false)
    {q0_Missing q1_Missing : Str} {q2_Missing : Addr} {q3_Missing : List Value} {q4_Missing : List Str} {q5_Missing : List Value} {q6_Missing : Bool} {q7_Missing : Option Bool} {q8_Missing : Option Addr} {r0_Missing r1_Missing r2_Missing r3_Missing r5_Missing : Option Value}
    (eMissing_lk : K.lookup C_Missing = some (excClassObj q0_Missing q1_Missing C_Missing q2_Missing q3_Missing [.ref C_NewError, .type "ValueError", .type "Exception", .type "BaseException", .type "object"] true q4_Missing q5_Missing q6_Missing q7_Missing q8_Missing r0_Missing r1_Missing r2_Missing r3_Missing r5_Missing "ValueError.__new__"))
    (eMissing_sa : PySem.W.findIn K (.ref C_Missing) "__setattr__" = some (some (.builtin "object.__setattr__")))
    (eHeld_hg : PySem.W.findIn K (.ref C_Held) "__getattribute__" = some (some (.builtin "BaseException.__getattribute__")))
    (eHeld_hk : PySem.W.findIn K (.ref C_Held) "__getattr__" = some none)
    (eHeld_hs : PySem.W.subIn K (.ref C_Held) (.type "BaseException") = some true)
    (eHeld_hd : PySem.W.hasDictIn K C_Held = true)
    (eHeld_ha : PySem.W.findIn K (.ref C_Held) "__class__" = some (some (.builtin "object.__class__")))
    (eHeld_hm : PySem.W.mroIn K C_Held (.type "object") = some true)
    (eHeld_cls : PySem.W.isClsIn K C_Held = true)
    (eHeld_ty : PySem.W.typeIn K (.ref C_Held) = some (.type "type"))
    (eHeld_ve : PySem.W.subIn K (.ref C_Held) (.type "ValueError") = some true)
    (eHeld_no : PySem.W.findIn K (.ref C_Held) "name" = some none)
    (eHeld_sn : PySem.W.subIn K (.ref C_Held) (.ref C_NewError) = some true)
    (eHeld_k : PySem.W.keepIn K (.ref C_Held) = true)
    (es_Held_NoName : PySem.W.subIn K (.ref C_Held) (.ref C_NoName) = some false)
    (es_Held_Twice : PySem.W.subIn K (.ref C_Held) (.ref C_Twice) = some false)
    (es_Held_Missing : PySem.W.subIn K (.ref C_Held) (.ref C_Missing) = some false)
    (es_Held_Held : PySem.W.subIn K (.ref C_Held) (.ref C_Held) = some true)
    (es_Held_NoSpare : PySem.W.subIn K (.ref C_Held) (.ref C_NoSpare) = some false)
    {q0_Held q1_Held : Str} {q2_Held : Addr} {q3_Held : List Value} {q4_Held : List Str} {q5_Held : List Value} {q6_Held : Bool} {q7_Held : Option Bool} {q8_Held : Option Addr} {r0_Held r1_Held r2_Held r3_Held r5_Held : Option Value}
    (eHeld_lk : K.lookup C_Held = some (excClassObj q0_Held q1_Held C_Held q2_Held q3_Held [.ref C_NewError, .type "ValueError", .type "Exception", .type "BaseException", .type "object"] true q4_Held q5_Held q6_Held q7_Held q8_Held r0_Held r1_Held r2_Held r3_Held r5_Held "ValueError.__new__"))
    (eHeld_sa : PySem.W.findIn K (.ref C_Held) "__setattr__" = some (some (.builtin "object.__setattr__")))
    (eNoSpare_hg : PySem.W.findIn K (.ref C_NoSpare) "__getattribute__" = some (some (.builtin "BaseException.__getattribute__")))
    (eNoSpare_hk : PySem.W.findIn K (.ref C_NoSpare) "__getattr__" = some none)
    (eNoSpare_hs : PySem.W.subIn K (.ref C_NoSpare) (.type "BaseException") = some true)
    (eNoSpare_hd : PySem.W.hasDictIn K C_NoSpare = true)
    (eNoSpare_ha : PySem.W.findIn K (.ref C_NoSpare) "__class__" = some (some (.builtin "object.__class__")))
    (eNoSpare_hm : PySem.W.mroIn K C_NoSpare (.type "object") = some true)
    (eNoSpare_cls : PySem.W.isClsIn K C_NoSpare = true)
    (eNoSpare_ty : PySem.W.typeIn K (.ref C_NoSpare) = some (.type "type"))
    (eNoSpare_ve : PySem.W.subIn K (.ref C_NoSpare) (.type "ValueError") = some true)
    (eNoSpare_no : PySem.W.findIn K (.ref C_NoSpare) "ring" = some none)
    (eNoSpare_sn : PySem.W.subIn K (.ref C_NoSpare) (.ref C_NewError) = some true)
    (eNoSpare_k : PySem.W.keepIn K (.ref C_NoSpare) = true)
    (es_NoSpare_NoName : PySem.W.subIn K (.ref C_NoSpare) (.ref C_NoName) = some false)
    (es_NoSpare_Twice : PySem.W.subIn K (.ref C_NoSpare) (.ref C_Twice) = some false)
    (es_NoSpare_Missing : PySem.W.subIn K (.ref C_NoSpare) (.ref C_Missing) = some false)
    (es_NoSpare_Held : PySem.W.subIn K (.ref C_NoSpare) (.ref C_Held) = some false)
    (es_NoSpare_NoSpare : PySem.W.subIn K (.ref C_NoSpare) (.ref C_NoSpare) = some true)
    {q0_NoSpare q1_NoSpare : Str} {q2_NoSpare : Addr} {q3_NoSpare : List Value} {q4_NoSpare : List Str} {q5_NoSpare : List Value} {q6_NoSpare : Bool} {q7_NoSpare : Option Bool} {q8_NoSpare : Option Addr} {r0_NoSpare r1_NoSpare r2_NoSpare r3_NoSpare r5_NoSpare : Option Value}
    (eNoSpare_lk : K.lookup C_NoSpare = some (excClassObj q0_NoSpare q1_NoSpare C_NoSpare q2_NoSpare q3_NoSpare [.ref C_NewError, .type "ValueError", .type "Exception", .type "BaseException", .type "object"] true q4_NoSpare q5_NoSpare q6_NoSpare q7_NoSpare q8_NoSpare r0_NoSpare r1_NoSpare r2_NoSpare r3_NoSpare r5_NoSpare "ValueError.__new__"))
    (eNoSpare_sa : PySem.W.findIn K (.ref C_NoSpare) "__setattr__" = some (some (.builtin "object.__setattr__")))
    (z_all : PySem.W.nsIn K mainGlobals "all" = some none)
    (z_dict : PySem.W.nsIn K mainGlobals "dict" = some none)
    (z_enumerate : PySem.W.nsIn K mainGlobals "enumerate" = some none)
    (z_int : PySem.W.nsIn K mainGlobals "int" = some none)
    (z_isinstance : PySem.W.nsIn K mainGlobals "isinstance" = some none)
    (z_len : PySem.W.nsIn K mainGlobals "len" = some none)
    (z_list : PySem.W.nsIn K mainGlobals "list" = some none)
    (z_range : PySem.W.nsIn K mainGlobals "range" = some none)
    (z_sorted : PySem.W.nsIn K mainGlobals "sorted" = some none)
    (z_str : PySem.W.nsIn K mainGlobals "str" = some none)
    (z_tuple : PySem.W.nsIn K mainGlobals "tuple" = some none) :
    ∃ fd : FuncData, (∀ (s : Shared) (v : Value), BindsTo s fd ⟨[v], []⟩ [("_law_script", v)]) ∧ ∀ base : Heap, K.In base → base.Ns mainGlobals mg → FnOk l.prog w K mg base CX0 6 fa fd ["_law_script"] (spLaw K) := by
  have e := hfa.symm.trans (PySem.W.mg_of X G a_law)
  cases e
  have T : Txt K mg C_Held C_LetGo C_Missing C_NewError C_NoName C_NoRow C_NoSpare C_Plan C_Twice := { g_LETTERS := ⟨_, PySem.W.mg_of X G g_LETTERS⟩, g_LONGEST := ⟨_, PySem.W.mg_of X G g_LONGEST⟩, g_Held := PySem.W.mg_of X G aC_Held, g_Missing := PySem.W.mg_of X G aC_Missing, g_NewError := PySem.W.mg_of X G aC_NewError, g_NoName := PySem.W.mg_of X G aC_NoName, g_NoSpare := PySem.W.mg_of X G aC_NoSpare, g_Plan := PySem.W.mg_of X G aC_Plan, cl_Plan := ⟨pg_Plan, hd_Plan, po_Plan, sa_Plan⟩, n_Plan_by_olds := n_Plan_by_olds, n_Plan_by_news := n_Plan_by_news, g_Twice := PySem.W.mg_of X G aC_Twice, ne := ⟨PySem.W.mg_of X G aC_NewError, en_sb, en_hd, en_ty, ⟨en_ga, en_rd, en_at⟩⟩, er_NoName := ⟨PySem.W.mg_of X G aC_NoName, ⟨eNoName_hg, eNoName_hk, eNoName_hs, eNoName_hd, eNoName_ha, eg_hn, eg_ht, eNoName_hm⟩, eNoName_cls, eNoName_ty, eNoName_ve, eNoName_no, es_NoName_NoName, eNoName_sn⟩, er_Twice := ⟨PySem.W.mg_of X G aC_Twice, ⟨eTwice_hg, eTwice_hk, eTwice_hs, eTwice_hd, eTwice_ha, eg_hn, eg_ht, eTwice_hm⟩, eTwice_cls, eTwice_ty, eTwice_ve, eTwice_no, es_Twice_Twice, eTwice_sn⟩, er_Missing := ⟨PySem.W.mg_of X G aC_Missing, ⟨eMissing_hg, eMissing_hk, eMissing_hs, eMissing_hd, eMissing_ha, eg_hn, eg_ht, eMissing_hm⟩, eMissing_cls, eMissing_ty, eMissing_ve, eMissing_no, es_Missing_Missing, eMissing_sn⟩, er_Held := ⟨PySem.W.mg_of X G aC_Held, ⟨eHeld_hg, eHeld_hk, eHeld_hs, eHeld_hd, eHeld_ha, eg_hn, eg_ht, eHeld_hm⟩, eHeld_cls, eHeld_ty, eHeld_ve, eHeld_no, es_Held_Held, eHeld_sn⟩, er_NoSpare := ⟨PySem.W.mg_of X G aC_NoSpare, ⟨eNoSpare_hg, eNoSpare_hk, eNoSpare_hs, eNoSpare_hd, eNoSpare_ha, eg_hn, eg_ht, eNoSpare_hm⟩, eNoSpare_cls, eNoSpare_ty, eNoSpare_ve, eNoSpare_no, es_NoSpare_NoSpare, eNoSpare_sn⟩, own_NoName := ⟨eNoName_x, eNoName_k, eNoName_hs, eNoName_ty⟩, o_Twice := ⟨⟨_, _, _, _, _, _, _, _, _, _, _, _, _, _, _, eTwice_lk, rfl⟩, eTwice_sa, eTwice_hs, eTwice_ty, eTwice_k⟩, o_Missing := ⟨⟨_, _, _, _, _, _, _, _, _, _, _, _, _, _, _, eMissing_lk, rfl⟩, eMissing_sa, eMissing_hs, eMissing_ty, eMissing_k⟩, o_Held := ⟨⟨_, _, _, _, _, _, _, _, _, _, _, _, _, _, _, eHeld_lk, rfl⟩, eHeld_sa, eHeld_hs, eHeld_ty, eHeld_k⟩, o_NoSpare := ⟨⟨_, _, _, _, _, _, _, _, _, _, _, _, _, _, _, eNoSpare_lk, rfl⟩, eNoSpare_sa, eNoSpare_hs, eNoSpare_ty, eNoSpare_k⟩, b_all := PySem.W.mg_none_of X G z_all, b_dict := PySem.W.mg_none_of X G z_dict, b_enumerate := PySem.W.mg_none_of X G z_enumerate, b_int := PySem.W.mg_none_of X G z_int, b_isinstance := PySem.W.mg_none_of X G z_isinstance, b_len := PySem.W.mg_none_of X G z_len, b_list := PySem.W.mg_none_of X G z_list, b_range := PySem.W.mg_none_of X G z_range, b_sorted := PySem.W.mg_none_of X G z_sorted, b_str := PySem.W.mg_none_of X G z_str, b_tuple := PySem.W.mg_none_of X G z_tuple }
  have F_is_name := fun_mk (st := sis_name) l_is_name c_is_name k_is_name
  have b_is_name := F_is_name.binds (ps := ["thing"]) fun _ _ _ _ _ _ us hl => match us, hl with | [_], _ => rfl
  have F_law_state := fun_mk (st := slaw_state) l_law_state c_law_state k_law_state
  have b_law_state := F_law_state.binds (ps := ["_law_cell", "_law_k"]) fun _ _ _ _ _ _ us hl => match us, hl with | [_, _], _ => rfl
  have F_law_next := fun_mk (st := slaw_next) l_law_next c_law_next k_law_next
  have b_law_next := F_law_next.binds (ps := ["_law_state_here", "_law_size"]) fun _ _ _ _ _ _ us hl => match us, hl with | [_, _], _ => rfl
  have F_law_turned := fun_mk (st := slaw_turned) l_law_turned c_law_turned k_law_turned
  have b_law_turned := F_law_turned.binds (ps := ["_law_state_here", "_law_things"]) fun _ _ _ _ _ _ us hl => match us, hl with | [_, _], _ => rfl
  have F_Missing___init__ := fun_mk (st := sMissing___init__) l_Missing___init__ c_Missing___init__ k_Missing___init__
  have b_Missing___init__ := F_Missing___init__.binds (ps := ["self", "name"]) fun _ _ _ _ _ _ us hl => match us, hl with | [_, _], _ => rfl
  have F_Held___init__ := fun_mk (st := sHeld___init__) l_Held___init__ c_Held___init__ k_Held___init__
  have b_Held___init__ := F_Held___init__.binds (ps := ["self", "name"]) fun _ _ _ _ _ _ us hl => match us, hl with | [_, _], _ => rfl
  have F_NoSpare___init__ := fun_mk (st := sNoSpare___init__) l_NoSpare___init__ c_NoSpare___init__ k_NoSpare___init__
  have b_NoSpare___init__ := F_NoSpare___init__.binds (ps := ["self", "ring"]) fun _ _ _ _ _ _ us hl => match us, hl with | [_, _], _ => rfl
  have F_Plan___init__ := fun_mk (st := sPlan___init__) l_Plan___init__ c_Plan___init__ k_Plan___init__
  have b_Plan___init__ := F_Plan___init__.binds (ps := ["self", "pairs"]) fun _ _ _ _ _ _ us hl => match us, hl with | [_, _], _ => rfl
  have F_Plan_pairs := fun_mk (st := sPlan_pairs) l_Plan_pairs c_Plan_pairs k_Plan_pairs
  have b_Plan_pairs := F_Plan_pairs.binds (ps := ["self"]) fun _ _ _ _ _ _ us hl => match us, hl with | [_], _ => rfl
  have F_Plan_olds := fun_mk (st := sPlan_olds) l_Plan_olds c_Plan_olds k_Plan_olds
  have b_Plan_olds := F_Plan_olds.binds (ps := ["self"]) fun _ _ _ _ _ _ us hl => match us, hl with | [_], _ => rfl
  have F_Plan_news := fun_mk (st := sPlan_news) l_Plan_news c_Plan_news k_Plan_news
  have b_Plan_news := F_Plan_news.binds (ps := ["self"]) fun _ _ _ _ _ _ us hl => match us, hl with | [_], _ => rfl
  have F_Plan_rings := fun_mk (st := sPlan_rings) l_Plan_rings c_Plan_rings k_Plan_rings
  have b_Plan_rings := F_Plan_rings.binds (ps := ["self"]) fun _ _ _ _ _ _ us hl => match us, hl with | [_], _ => rfl
  have F_fits := fun_mk (st := sfits) l_fits c_fits k_fits
  have b_fits := F_fits.binds (ps := ["plan", "names"]) fun _ _ _ _ _ _ us hl => match us, hl with | [_, _], _ => rfl
  have F_need_spare := fun_mk (st := sneed_spare) l_need_spare c_need_spare k_need_spare
  have b_need_spare := F_need_spare.binds (ps := ["plan", "names", "spare"]) fun _ _ _ _ _ _ us hl => match us, hl with | [_, _, _], _ => rfl
  have F_chain_to := fun_mk (st := schain_to) l_chain_to c_chain_to k_chain_to
  have b_chain_to := F_chain_to.binds (ps := ["plan", "last"]) fun _ _ _ _ _ _ us hl => match us, hl with | [_, _], _ => rfl
  have F_ring_deeds := fun_mk (st := sring_deeds) l_ring_deeds c_ring_deeds k_ring_deeds
  have b_ring_deeds := F_ring_deeds.binds (ps := ["ring", "spare"]) fun _ _ _ _ _ _ us hl => match us, hl with | [_, _], _ => rfl
  have F_deeds_by := fun_mk (st := sdeeds_by) l_deeds_by c_deeds_by k_deeds_by
  have b_deeds_by := F_deeds_by.binds (ps := ["plan", "spare"]) fun _ _ _ _ _ _ us hl => match us, hl with | [_, _], _ => rfl
  have F_deeds : FunD K "deeds" "deeds" (defArgs sdeeds) (defBody sdeeds) (defScope sdeeds) [V.non] [] f_deeds _ := ⟨⟨_, _, _, _, _, _, _, _, _, _, rfl, l_deeds, c_deeds, .inr ⟨by simp, dT_deeds, _, [Value.none], _, rfl, df_deeds, rfl, .cons rfl .nil⟩, .inl rfl⟩, k_deeds⟩
  have b_deeds : Binds K (PySem.W.fnOf "deeds" "deeds" (defArgs sdeeds) (defBody sdeeds) (defScope sdeeds) (.ref dT_deeds) kV_deeds dc_deeds pm_deeds an_deeds cd_deeds ct_deeds) ["plan", "names", "spare"] [] := fun s us hin hl => match us, hl with | [_, _, _], _ => BindsTo.of_defaults rfl (hin _ _ df_deeds) rfl rfl rfl
  have b2_deeds : Binds K (PySem.W.fnOf "deeds" "deeds" (defArgs sdeeds) (defBody sdeeds) (defScope sdeeds) (.ref dT_deeds) kV_deeds dc_deeds pm_deeds an_deeds cd_deeds ct_deeds) ["plan", "names", "spare"] [.none] := by
    intro s us hin hl
    obtain ⟨a0, a1, rfl⟩ : ∃ a0 a1, us = [a0, a1] := by
      rcases us with _ | ⟨a0, _ | ⟨a1, _ | ⟨x, r⟩⟩⟩
      · simp at hl
      · simp at hl
      · exact ⟨a0, a1, rfl⟩
      · simp at hl
    exact BindsTo.of_defaults rfl (hin _ _ df_deeds) rfl rfl rfl
  have F_law_small_pairs := fun_mk (st := slaw_small_pairs) l_law_small_pairs c_law_small_pairs k_law_small_pairs
  have b_law_small_pairs := F_law_small_pairs.binds (ps := ["_law_state_here", "_law_held"]) fun _ _ _ _ _ _ us hl => match us, hl with | [_, _], _ => rfl
  have F_law_further := fun_mk (st := slaw_further) l_law_further c_law_further k_law_further
  have b_law_further := F_law_further.binds (ps := ["_law_places", "_law_names", "_law_goals"]) fun _ _ _ _ _ _ us hl => match us, hl with | [_, _, _], _ => rfl
  have F_law_fewest := fun_mk (st := slaw_fewest) l_law_fewest c_law_fewest k_law_fewest
  have b_law_fewest := F_law_fewest.binds (ps := ["_law_begin", "_law_goals", "_law_names"]) fun _ _ _ _ _ _ us hl => match us, hl with | [_, _, _], _ => rfl
  have F_law := fun_mk (st := slaw) l_law c_law k_law
  have b_law := F_law.binds (ps := ["_law_script"]) fun _ _ _ _ _ _ us hl => match us, hl with | [_], _ => rfl
  refine ⟨PySem.W.fnOf "law" "law" (defArgs slaw) (defBody slaw) (defScope slaw) .none kV_law dc_law pm_law an_law cd_law ct_law, fun s v => .of_eq rfl, fun base _ _ => ?_⟩
  have A_is_name : FnAt l.prog w K mg base CX0 1 "is_name" ["thing"] (spIsName K) := ⟨_, _, PySem.W.mg_of X G a_is_name, k_is_name, b_is_name, ok_isname F_is_name T⟩
  have A_law_state : FnAt l.prog w K mg base CX0 1 "_law_state" ["_law_cell", "_law_k"] (spState) := ⟨_, _, PySem.W.mg_of X G a_law_state, k_law_state, b_law_state, ok_state F_law_state⟩
  have A_law_next : FnAt l.prog w K mg base CX0 1 "_law_next" ["_law_state_here", "_law_size"] (spNext) := ⟨_, _, PySem.W.mg_of X G a_law_next, k_law_next, b_law_next, ok_next F_law_next⟩
  have A_law_turned : FnAt l.prog w K mg base CX0 2 "_law_turned" ["_law_state_here", "_law_things"] (spTurnedV) := ⟨_, _, PySem.W.mg_of X G a_law_turned, k_law_turned, b_law_turned, ok_turned F_law_turned T A_law_next⟩
  have A_Missing : NN.XmAt l.prog w K mg base 1 "Missing" C_Missing ["self", "name"] (spXm C_Missing "name" okName) := ⟨_, _, T.g_Missing, T.o_Missing, a_Missing___init__, beq_iff_eq.mp i_Missing___init__, b_Missing___init__, ok_x_Missing F_Missing___init__ T⟩
  have A_Held : NN.XmAt l.prog w K mg base 1 "Held" C_Held ["self", "name"] (spXm C_Held "name" okName) := ⟨_, _, T.g_Held, T.o_Held, a_Held___init__, beq_iff_eq.mp i_Held___init__, b_Held___init__, ok_x_Held F_Held___init__ T⟩
  have A_NoSpare : NN.XmAt l.prog w K mg base 1 "NoSpare" C_NoSpare ["self", "ring"] (spXm C_NoSpare "ring" okRing) := ⟨_, _, T.g_NoSpare, T.o_NoSpare, a_NoSpare___init__, beq_iff_eq.mp i_NoSpare___init__, b_NoSpare___init__, ok_x_NoSpare F_NoSpare___init__ T⟩
  have A_Plan : MkAt l.prog w K mg base CX0 2 "Plan" C_Plan ["self", "pairs"] (spPlanInit C_Plan) := ⟨_, _, PySem.W.mg_of X G aC_Plan, ⟨mk_Plan, a_Plan___init__, i_Plan___init__, kc_Plan⟩, b_Plan___init__, ok_plan_init F_Plan___init__ T A_is_name⟩
  have A_Plan_pairs : MtAt l.prog w K mg base CX0 1 C_Plan "pairs" ["self"] (spPlanPairs C_Plan) := ⟨_, _, T.cl_Plan, ⟨a_Plan_pairs, i_Plan_pairs, k_Plan_pairs⟩, b_Plan_pairs, ok_plan_pairs F_Plan_pairs T⟩
  have A_Plan_olds : MtAt l.prog w K mg base CX0 1 C_Plan "olds" ["self"] (spPlanOlds C_Plan) := ⟨_, _, T.cl_Plan, ⟨a_Plan_olds, i_Plan_olds, k_Plan_olds⟩, b_Plan_olds, ok_olds F_Plan_olds T⟩
  have A_Plan_news : MtAt l.prog w K mg base CX0 1 C_Plan "news" ["self"] (spPlanNews C_Plan) := ⟨_, _, T.cl_Plan, ⟨a_Plan_news, i_Plan_news, k_Plan_news⟩, b_Plan_news, ok_news F_Plan_news T⟩
  have A_Plan_rings : MtAt l.prog w K mg base CX0 2 C_Plan "rings" ["self"] (spPlanRings C_Plan) := ⟨_, _, T.cl_Plan, ⟨a_Plan_rings, i_Plan_rings, k_Plan_rings⟩, b_Plan_rings, ok_rings F_Plan_rings T A_Plan_olds⟩
  have A_fits : FnAt l.prog w K mg base (L2.CX l.prog w) 3 "fits" ["plan", "names"] (spFits C_Plan [C_NoName, C_Twice, C_Missing, C_Held, C_LetGo, C_NoSpare, C_NoRow]) := ⟨_, _, PySem.W.mg_of X G a_fits, k_fits, b_fits, ok_fits F_fits T A_Plan_olds A_Plan_news A_Missing A_Held⟩
  have A_need_spare : FnAt l.prog w K mg base (L2.CX l.prog w) 3 "need_spare" ["plan", "names", "spare"] (spNeedSpare C_Plan [C_NoName, C_Twice, C_Missing, C_Held, C_LetGo, C_NoSpare, C_NoRow]) := ⟨_, _, PySem.W.mg_of X G a_need_spare, k_need_spare, b_need_spare, ok_need_spare F_need_spare T A_is_name A_Plan_news A_Plan_rings A_Held A_NoSpare⟩
  have A_chain_to : FnAt l.prog w K mg base CX0 2 "chain_to" ["plan", "last"] (spChainTo C_Plan) := ⟨_, _, PySem.W.mg_of X G a_chain_to, k_chain_to, b_chain_to, ok_chain_to F_chain_to T A_Plan_pairs⟩
  have A_ring_deeds : FnAt l.prog w K mg base CX0 1 "ring_deeds" ["ring", "spare"] (spRingDeeds) := ⟨_, _, PySem.W.mg_of X G a_ring_deeds, k_ring_deeds, b_ring_deeds, ok_ring_deeds F_ring_deeds T⟩
  have A_deeds_by : FnAt l.prog w K mg base CX0 3 "deeds_by" ["plan", "spare"] (spDeedsBy C_Plan) := ⟨_, _, PySem.W.mg_of X G a_deeds_by, k_deeds_by, b_deeds_by, ok_deeds_by F_deeds_by T A_Plan_pairs A_Plan_olds A_Plan_news A_Plan_rings A_chain_to A_ring_deeds⟩
  have A_deeds : FnAt l.prog w K mg base (L2.CX l.prog w) 4 "deeds" ["plan", "names", "spare"] (spDeeds C_Plan [C_NoName, C_Twice, C_Missing, C_Held, C_LetGo, C_NoSpare, C_NoRow]) := ⟨_, _, PySem.W.mg_of X G a_deeds, k_deeds, b_deeds, ok_deeds F_deeds T A_fits A_need_spare A_deeds_by⟩
  have A_deeds_d : NN.FnAtD l.prog w K mg base (L2.CX l.prog w) 4 "deeds" ["plan", "names", "spare"] (spDeeds C_Plan [C_NoName, C_Twice, C_Missing, C_Held, C_LetGo, C_NoSpare, C_NoRow]) := ⟨_, _, PySem.W.mg_of X G a_deeds, k_deeds, b2_deeds, ok_deeds F_deeds T A_fits A_need_spare A_deeds_by⟩
  have A_law_small_pairs : FnAt l.prog w K mg base CX0 3 "_law_small_pairs" ["_law_state_here", "_law_held"] (spSmall) := ⟨_, _, PySem.W.mg_of X G a_law_small_pairs, k_law_small_pairs, b_law_small_pairs, ok_small F_law_small_pairs T A_law_next A_law_turned⟩
  have A_law_further : FnAt l.prog w K mg base CX0 1 "_law_further" ["_law_places", "_law_names", "_law_goals"] (spFurther) := ⟨_, _, PySem.W.mg_of X G a_law_further, k_law_further, b_law_further, ok_further F_law_further T⟩
  have A_law_fewest : FnAt l.prog w K mg base CX0 2 "_law_fewest" ["_law_begin", "_law_goals", "_law_names"] (spFewest) := ⟨_, _, PySem.W.mg_of X G a_law_fewest, k_law_fewest, b_law_fewest, ok_fewest F_law_fewest T A_law_further⟩
  exact ok_law F_law T A_law_state A_law_next A_law_small_pairs A_Plan A_deeds.quiet A_law_fewest

theorem walk {l : PySem.W.OpenLaw} {q : Program} {loose : List Str} {XP : (Str → Option Value) → Heap → Prop} {YP : World → Heap → Prop} {d : DefRec} {K : Params → PySem.W.Frag} (hn : l.most = some 63) (hdf : d.params.defaults = [])
    (hY : ∀ (w : World) (h : Heap), YP w h → (K w.params).In h)
    (F : ∀ (w : World) (mg : Str → Option Value) (fa : Addr) (h : Heap), (K w.params).In h → h.Ns mainGlobals mg → mg d.name = some (.ref fa) →
      ∃ fd : FuncData, (∀ (s : Shared) (u : Value), BindsTo s fd ⟨[u], []⟩ [("_law_script", u)]) ∧ ∀ base : Heap, (K w.params).In base → base.Ns mainGlobals mg → FnOk l.prog w (K w.params) mg base CX0 6 fa fd ["_law_script"] (spLaw (K w.params))) :
    PySem.W.WalkO q loose XP YP l.row.toRowW d [] (fun f vs => PySem.call f vs) :=
  L2.walk_of (n := 63) (k := 6) (x := "_law_script") (CX := fun _ => CX0) (sp := fun w => spLaw (K w.params)) hn (by decide) hdf ⟨rfl, by decide, by decide⟩ hY F (fun _ _ a ns hl _ hS => ⟨a, ns, rfl, hS, hl, fun _ => rfl⟩) fun _ _ _ _ _ z => z
end Nw
open PySem PySem.W PyProof.Rows
set_option maxRecDepth 100000 in
set_option maxHeartbeats 0 in
theorem PySem.Challenge.cw_newnames_k09_whole_no_fewer_holds : PySem.Challenge.rw_newnames_k09_whole_no_fewer.Holds := by
  w_on; o_law; k_head; (case hw => w_witness2)
  k_fill
  refine Nw.walk (l := PySem.Challenge.rw_newnames_k09_whole_no_fewer) rfl rfl (fun w h Y => PySem.W.kIn_of Y) ?F
  case F =>
    intro w mg fa h KX G hmg
    refine' Nw.all_mk KX G hmg ?aC_Held ?d_LetGo ?aC_Missing ?aC_NewError ?aC_NoName ?d_NoRow ?aC_NoSpare ?aC_Plan ?aC_Twice ?a_is_name ?l_is_name ?c_is_name ?k_is_name ?a_law_state ?l_law_state ?c_law_state ?k_law_state ?a_law_next ?l_law_next ?c_law_next ?k_law_next ?a_law_turned ?l_law_turned ?c_law_turned ?k_law_turned ?a_Missing___init__ ?i_Missing___init__ ?l_Missing___init__ ?c_Missing___init__ ?k_Missing___init__ ?a_Held___init__ ?i_Held___init__ ?l_Held___init__ ?c_Held___init__ ?k_Held___init__ ?a_NoSpare___init__ ?i_NoSpare___init__ ?l_NoSpare___init__ ?c_NoSpare___init__ ?k_NoSpare___init__ ?a_Plan___init__ ?i_Plan___init__ ?l_Plan___init__ ?c_Plan___init__ ?k_Plan___init__ ?a_Plan_pairs ?i_Plan_pairs ?l_Plan_pairs ?c_Plan_pairs ?k_Plan_pairs ?a_Plan_olds ?i_Plan_olds ?l_Plan_olds ?c_Plan_olds ?k_Plan_olds ?a_Plan_news ?i_Plan_news ?l_Plan_news ?c_Plan_news ?k_Plan_news ?a_Plan_rings ?i_Plan_rings ?l_Plan_rings ?c_Plan_rings ?k_Plan_rings ?a_fits ?l_fits ?c_fits ?k_fits ?a_need_spare ?l_need_spare ?c_need_spare ?k_need_spare ?a_chain_to ?l_chain_to ?c_chain_to ?k_chain_to ?a_ring_deeds ?l_ring_deeds ?c_ring_deeds ?k_ring_deeds ?a_deeds_by ?l_deeds_by ?c_deeds_by ?k_deeds_by ?a_deeds ?l_deeds ?df_deeds ?c_deeds ?k_deeds ?a_law_small_pairs ?l_law_small_pairs ?c_law_small_pairs ?k_law_small_pairs ?a_law_further ?l_law_further ?c_law_further ?k_law_further ?a_law_fewest ?l_law_fewest ?c_law_fewest ?k_law_fewest ?a_law ?l_law ?c_law ?k_law ?pg_Plan ?hd_Plan ?po_Plan ?sa_Plan ?mk_Plan ?kc_Plan ?n_Plan_by_olds ?n_Plan_by_news ?g_LETTERS ?g_LONGEST ?eg_hn ?eg_ht ?en_sb ?en_hd ?en_ty ?en_ga ?en_rd ?en_at ?eNoName_hg ?eNoName_hk ?eNoName_hs ?eNoName_hd ?eNoName_ha ?eNoName_hm ?eNoName_cls ?eNoName_ty ?eNoName_ve ?eNoName_no ?eNoName_sn ?eNoName_k ?es_NoName_NoName ?es_NoName_Twice ?es_NoName_Missing ?es_NoName_Held ?es_NoName_NoSpare ?eNoName_x ?eTwice_hg ?eTwice_hk ?eTwice_hs ?eTwice_hd ?eTwice_ha ?eTwice_hm ?eTwice_cls ?eTwice_ty ?eTwice_ve ?eTwice_no ?eTwice_sn ?eTwice_k ?es_Twice_NoName ?es_Twice_Twice ?es_Twice_Missing ?es_Twice_Held ?es_Twice_NoSpare ?eTwice_lk ?eTwice_sa ?eMissing_hg ?eMissing_hk ?eMissing_hs ?eMissing_hd ?eMissing_ha ?eMissing_hm ?eMissing_cls ?eMissing_ty ?eMissing_ve ?eMissing_no ?eMissing_sn ?eMissing_k ?es_Missing_NoName ?es_Missing_Twice ?es_Missing_Missing ?es_Missing_Held ?es_Missing_NoSpare ?eMissing_lk ?eMissing_sa ?eHeld_hg ?eHeld_hk ?eHeld_hs ?eHeld_hd ?eHeld_ha ?eHeld_hm ?eHeld_cls ?eHeld_ty ?eHeld_ve ?eHeld_no ?eHeld_sn ?eHeld_k ?es_Held_NoName ?es_Held_Twice ?es_Held_Missing ?es_Held_Held ?es_Held_NoSpare ?eHeld_lk ?eHeld_sa ?eNoSpare_hg ?eNoSpare_hk ?eNoSpare_hs ?eNoSpare_hd ?eNoSpare_ha ?eNoSpare_hm ?eNoSpare_cls ?eNoSpare_ty ?eNoSpare_ve ?eNoSpare_no ?eNoSpare_sn ?eNoSpare_k ?es_NoSpare_NoName ?es_NoSpare_Twice ?es_NoSpare_Missing ?es_NoSpare_Held ?es_NoSpare_NoSpare ?eNoSpare_lk ?eNoSpare_sa ?z_all ?z_dict ?z_enumerate ?z_int ?z_isinstance ?z_len ?z_list ?z_range ?z_sorted ?z_str ?z_tuple
    (case aC_Held => k_is)
    (case d_LetGo => rfl)
    (case aC_Missing => k_is)
    (case aC_NewError => k_is)
    (case aC_NoName => k_is)
    (case d_NoRow => rfl)
    (case aC_NoSpare => k_is)
    (case aC_Plan => k_is)
    (case aC_Twice => k_is)
    (case a_is_name => k_is)
    (case l_is_name => k_is)
    (case c_is_name => k_is)
    (case k_is_name => k_is)
    (case a_law_state => k_is)
    (case l_law_state => k_is)
    (case c_law_state => k_is)
    (case k_law_state => k_is)
    (case a_law_next => k_is)
    (case l_law_next => k_is)
    (case c_law_next => k_is)
    (case k_law_next => k_is)
    (case a_law_turned => k_is)
    (case l_law_turned => k_is)
    (case c_law_turned => k_is)
    (case k_law_turned => k_is)
    (case a_Missing___init__ => k_is)
    (case i_Missing___init__ => k_is)
    (case l_Missing___init__ => k_is)
    (case c_Missing___init__ => k_is)
    (case k_Missing___init__ => k_is)
    (case a_Held___init__ => k_is)
    (case i_Held___init__ => k_is)
    (case l_Held___init__ => k_is)
    (case c_Held___init__ => k_is)
    (case k_Held___init__ => k_is)
    (case a_NoSpare___init__ => k_is)
    (case i_NoSpare___init__ => k_is)
    (case l_NoSpare___init__ => k_is)
    (case c_NoSpare___init__ => k_is)
    (case k_NoSpare___init__ => k_is)
    (case a_Plan___init__ => k_is)
    (case i_Plan___init__ => k_is)
    (case l_Plan___init__ => k_is)
    (case c_Plan___init__ => k_is)
    (case k_Plan___init__ => k_is)
    (case a_Plan_pairs => k_is)
    (case i_Plan_pairs => k_is)
    (case l_Plan_pairs => k_is)
    (case c_Plan_pairs => k_is)
    (case k_Plan_pairs => k_is)
    (case a_Plan_olds => k_is)
    (case i_Plan_olds => k_is)
    (case l_Plan_olds => k_is)
    (case c_Plan_olds => k_is)
    (case k_Plan_olds => k_is)
    (case a_Plan_news => k_is)
    (case i_Plan_news => k_is)
    (case l_Plan_news => k_is)
    (case c_Plan_news => k_is)
    (case k_Plan_news => k_is)
    (case a_Plan_rings => k_is)
    (case i_Plan_rings => k_is)
    (case l_Plan_rings => k_is)
    (case c_Plan_rings => k_is)
    (case k_Plan_rings => k_is)
    (case a_fits => k_is)
    (case l_fits => k_is)
    (case c_fits => k_is)
    (case k_fits => k_is)
    (case a_need_spare => k_is)
    (case l_need_spare => k_is)
    (case c_need_spare => k_is)
    (case k_need_spare => k_is)
    (case a_chain_to => k_is)
    (case l_chain_to => k_is)
    (case c_chain_to => k_is)
    (case k_chain_to => k_is)
    (case a_ring_deeds => k_is)
    (case l_ring_deeds => k_is)
    (case c_ring_deeds => k_is)
    (case k_ring_deeds => k_is)
    (case a_deeds_by => k_is)
    (case l_deeds_by => k_is)
    (case c_deeds_by => k_is)
    (case k_deeds_by => k_is)
    (case a_deeds => k_is)
    (case l_deeds => k_is)
    (case df_deeds => k_is)
    (case c_deeds => k_is)
    (case k_deeds => k_is)
    (case a_law_small_pairs => k_is)
    (case l_law_small_pairs => k_is)
    (case c_law_small_pairs => k_is)
    (case k_law_small_pairs => k_is)
    (case a_law_further => k_is)
    (case l_law_further => k_is)
    (case c_law_further => k_is)
    (case k_law_further => k_is)
    (case a_law_fewest => k_is)
    (case l_law_fewest => k_is)
    (case c_law_fewest => k_is)
    (case k_law_fewest => k_is)
    (case a_law => k_is)
    (case l_law => k_is)
    (case c_law => k_is)
    (case k_law => k_is)
    (case pg_Plan => k_is)
    (case hd_Plan => k_is)
    (case po_Plan => k_is)
    (case sa_Plan => k_is)
    (case mk_Plan => k_is)
    (case kc_Plan => k_is)
    (case n_Plan_by_olds => k_is)
    (case n_Plan_by_news => k_is)
    (case g_LETTERS => k_is)
    (case g_LONGEST => k_is)
    (case eg_hn => k_is)
    (case eg_ht => k_is)
    (case en_sb => k_is)
    (case en_hd => k_is)
    (case en_ty => k_is)
    (case en_ga => k_is)
    (case en_rd => k_is)
    (case en_at => k_is)
    (case eNoName_hg => k_is)
    (case eNoName_hk => k_is)
    (case eNoName_hs => k_is)
    (case eNoName_hd => k_is)
    (case eNoName_ha => k_is)
    (case eNoName_hm => k_is)
    (case eNoName_cls => k_is)
    (case eNoName_ty => k_is)
    (case eNoName_ve => k_is)
    (case eNoName_no => k_is)
    (case eNoName_sn => k_is)
    (case eNoName_k => k_is)
    (case es_NoName_NoName => k_is)
    (case es_NoName_Twice => k_is)
    (case es_NoName_Missing => k_is)
    (case es_NoName_Held => k_is)
    (case es_NoName_NoSpare => k_is)
    (case eNoName_x => k_exc)
    (case eTwice_hg => k_is)
    (case eTwice_hk => k_is)
    (case eTwice_hs => k_is)
    (case eTwice_hd => k_is)
    (case eTwice_ha => k_is)
    (case eTwice_hm => k_is)
    (case eTwice_cls => k_is)
    (case eTwice_ty => k_is)
    (case eTwice_ve => k_is)
    (case eTwice_no => k_is)
    (case eTwice_sn => k_is)
    (case eTwice_k => k_is)
    (case es_Twice_NoName => k_is)
    (case es_Twice_Twice => k_is)
    (case es_Twice_Missing => k_is)
    (case es_Twice_Held => k_is)
    (case es_Twice_NoSpare => k_is)
    (case eTwice_lk => k_is)
    (case eTwice_sa => k_is)
    (case eMissing_hg => k_is)
    (case eMissing_hk => k_is)
    (case eMissing_hs => k_is)
    (case eMissing_hd => k_is)
    (case eMissing_ha => k_is)
    (case eMissing_hm => k_is)
    (case eMissing_cls => k_is)
    (case eMissing_ty => k_is)
    (case eMissing_ve => k_is)
    (case eMissing_no => k_is)
    (case eMissing_sn => k_is)
    (case eMissing_k => k_is)
    (case es_Missing_NoName => k_is)
    (case es_Missing_Twice => k_is)
    (case es_Missing_Missing => k_is)
    (case es_Missing_Held => k_is)
    (case es_Missing_NoSpare => k_is)
    (case eMissing_lk => k_is)
    (case eMissing_sa => k_is)
    (case eHeld_hg => k_is)
    (case eHeld_hk => k_is)
    (case eHeld_hs => k_is)
    (case eHeld_hd => k_is)
    (case eHeld_ha => k_is)
    (case eHeld_hm => k_is)
    (case eHeld_cls => k_is)
    (case eHeld_ty => k_is)
    (case eHeld_ve => k_is)
    (case eHeld_no => k_is)
    (case eHeld_sn => k_is)
    (case eHeld_k => k_is)
    (case es_Held_NoName => k_is)
    (case es_Held_Twice => k_is)
    (case es_Held_Missing => k_is)
    (case es_Held_Held => k_is)
    (case es_Held_NoSpare => k_is)
    (case eHeld_lk => k_is)
    (case eHeld_sa => k_is)
    (case eNoSpare_hg => k_is)
    (case eNoSpare_hk => k_is)
    (case eNoSpare_hs => k_is)
    (case eNoSpare_hd => k_is)
    (case eNoSpare_ha => k_is)
    (case eNoSpare_hm => k_is)
    (case eNoSpare_cls => k_is)
    (case eNoSpare_ty => k_is)
    (case eNoSpare_ve => k_is)
    (case eNoSpare_no => k_is)
    (case eNoSpare_sn => k_is)
    (case eNoSpare_k => k_is)
    (case es_NoSpare_NoName => k_is)
    (case es_NoSpare_Twice => k_is)
    (case es_NoSpare_Missing => k_is)
    (case es_NoSpare_Held => k_is)
    (case es_NoSpare_NoSpare => k_is)
    (case eNoSpare_lk => k_is)
    (case eNoSpare_sa => k_is)
    (case z_all => k_is)
    (case z_dict => k_is)
    (case z_enumerate => k_is)
    (case z_int => k_is)
    (case z_isinstance => k_is)
    (case z_len => k_is)
    (case z_list => k_is)
    (case z_range => k_is)
    (case z_sorted => k_is)
    (case z_str => k_is)
    (case z_tuple => k_is)
